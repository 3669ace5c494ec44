import PyProof.Rows.All
import Wide.All
import OpenK.AllK
import Wide.FinOn
import HandS.ForMost
import HandS.ForExc
import HandS.Nested
import HandS.IsInst
import HandS.Flow
import HandS.Style
import HandS.TupAny
import HandS.Wide
import HandS.Defaults
import KE.DataCmp
import PyProof.FactsAll.dict
import PyProof.FactsAll.subtypes
import PyProof.NeKinds
import PyProof.NeData
import PyProof.P3In
import HandS.ExcCtx
import HandS.TryOnly
import HandS.HeadEnd
import HandS.HeadHook3
import HandS.Comp
import HandS.Iter
import HandS.List
import HandS.DictComp
import HandS.Conv
import HandS.HeadHook4
import HandS.HeadWalk
import HandS.Head0
import HandS.Head1
import HandS.Head2
import HandS.HeadHook1
import HandS.HeadHook2
import HandS.EndTab
import HandS.ExcInit
import HandS.ExcField
import KE.DataMinMax
import PyProof.ReprRoads
import PyProof.ReprLen
import HandS.SortKw
import HandS.TupMul
import HandS.TryMany
import HandS.ExcOwn
import HandS.Deep
import HandS.ExcIs
import HandS.HotCalls
import KE.GoesEnum
import HandS.Keys
import HandS.Rev
import HandS.MapJoin
import HandS.StrMore
import HandS.WideBits
import PyProof.StrOps2
import KE.KIntText
import PySem.Challenge.RW_sealedplans_k24_whole_places_of_wrong_si
set_option Elab.async false
set_option linter.all false
set_option maxRecDepth 100000
set_option maxHeartbeats 4000000
namespace Dl
abbrev St := L2.St
open PySem PySem.Spec PyProof.Rows L2 NdefX
inductive D where
  | non | bl (b : Bool) | int (i : Int) | str (s : Str) | lst (l : List D) | tup (l : List D) | dic (kvs : List (Str × Str))
mutual
def D.py : D → PyData
  | .non => .none
  | .bl b => .bool b
  | .int i => .int i
  | .str s => .str s
  | .lst l => .list (D.pyAll l)
  | .tup l => .tuple (D.pyAll l)
  | .dic kvs => .dict (kvs.map fun kv => (.str kv.1, .str kv.2))
def D.pyAll : List D → List PyData
  | [] => []
  | d :: l => d.py :: D.pyAll l
end
def noTxt : Str := ⟨#[0x110000]⟩
mutual
def D.pq : D → PyData
  | .non => .none
  | .bl b => .bool b
  | .int i => .int i
  | .str s => .str s
  | .lst l => .list (D.pqAll l)
  | .tup l => .tuple (D.pqAll l)
  | .dic _ => .str noTxt
def D.pqAll : List D → List PyData
  | [] => []
  | d :: l => d.pq :: D.pqAll l
end
def bigD : Nat := 100000
mutual
def D.dep : D → Nat
  | .lst l => D.depL l + 1
  | .tup l => D.depL l + 1
  | .dic _ => bigD
  | .non => 0
  | .bl _ => 0
  | .int _ => 0
  | .str _ => 0
def D.depL : List D → Nat
  | [] => 0
  | d :: l => max d.dep (D.depL l)
end
theorem depthKv_str : ∀ kvs : List (Str × Str), PyData.depthKv (kvs.map fun kv => (PyData.str kv.1, PyData.str kv.2)) = 0
  | [] => rfl
  | kv :: r => by
    have := depthKv_str r
    show max (max 0 0) (PyData.depthKv (r.map fun kv => (PyData.str kv.1, PyData.str kv.2))) = 0
    omega
mutual
theorem D.dep_py : ∀ d : D, d.py.depth ≤ d.dep
  | .non => Nat.le_refl _
  | .bl _ => Nat.le_refl _
  | .int _ => Nat.le_refl _
  | .str _ => Nat.le_refl _
  | .dic kvs => by
    show PyData.depthKv (kvs.map fun kv => (PyData.str kv.1, PyData.str kv.2)) + 1 ≤ bigD
    rw [depthKv_str]
    decide
  | .lst l => Nat.succ_le_succ (D.dep_pyL l)
  | .tup l => Nat.succ_le_succ (D.dep_pyL l)
theorem D.dep_pyL : ∀ l : List D, PyData.depthAll (D.pyAll l) ≤ D.depL l
  | [] => Nat.le_refl _
  | d :: l => by
    have h1 := D.dep_py d
    have h2 := D.dep_pyL l
    show max d.py.depth (PyData.depthAll (D.pyAll l)) ≤ max d.dep (D.depL l)
    omega
end
mutual
def D.okS : D → Bool
  | .str s => PyData.strOk s
  | .lst l => D.okSL l
  | .tup l => D.okSL l
  | .dic kvs => kvs.all fun kv => PyData.strOk kv.1 && PyData.strOk kv.2
  | .non => true
  | .bl _ => true
  | .int _ => true
def D.okSL : List D → Bool
  | [] => true
  | d :: l => d.okS && D.okSL l
end
inductive RV where
  | dat (d : D) | fresh (l : List D) | bor (i : Nat) (l : List D) | wref (k : Nat)
structure Exn where
  cls : Str
  fld : Option (Str × D)
inductive Sl where
  | un | dat (d : D) | own (l : List D) | wref (k : Nat) | exn (x : Exn)
inductive FV where
  | un | dat (d : D) | ref (k : Nat)
inductive WO where
  | lst (l : List D) | clo (i : Nat) (caps : List D) | obj (x : Str) (fs : List (Str × FV)) | dic (kvs : List (Key × FV))
abbrev World := List WO
abbrev Ev := List Sl
inductive Out (α : Type) where
  | ok (a : α) (w : World) | exc (x : Exn) (env : Ev) (w : World) | stuck
def Out.bind {α β : Type} (o : Out α) (f : α → World → Out β) : Out β := match o with
  | .ok a w => f a w
  | .exc x e w => .exc x e w
  | .stuck => .stuck
@[simp] theorem bind_ok {α β : Type} (a : α) (w : World) (f : α → World → Out β) : (Out.ok a w).bind f = f a w := rfl
@[simp] theorem bind_exc {α β : Type} (x : Exn) (e : Ev) (w : World) (f : α → World → Out β) : (Out.exc x e w : Out α).bind f = .exc x e w := rfl
@[simp] theorem bind_stuck {α β : Type} (f : α → World → Out β) : (Out.stuck : Out α).bind f = .stuck := rfl
abbrev Ex := Ev → World → Out RV
def SOk (s : Str) : Prop := PyData.strOk s = true ∧ s.length ≤ sizeLine
def mapK (kvs : List (Str × Str)) : List (Key × V) := kvs.map fun kv => (.inr kv.1, .str kv.2)
inductive Rp (K : PySem.W.Frag) (F : Hp) : V → D → Prop
  | non : Rp K F .non .non
  | bl (b : Bool) : Rp K F (.bl b) (.bl b)
  | int (i : Int) : Rp K F (.int i) (.int i)
  | str (s : Str) (h : SOk s) : Rp K F (.str s) (.str s)
  | lst {a : Addr} {vs : List V} {l : List D} (hz : l.length ≤ sizeLine) : SqL K F a vs → Paired (Rp K F) vs l → Rp K F (.ref a) (.lst l)
  | tup {a : Addr} {vs : List V} {l : List D} (hz : l.length ≤ sizeLine) : SqT K F a vs → Paired (Rp K F) vs l → Rp K F (.ref a) (.tup l)
  | dic {a : Addr} {kvs : List (Str × Str)} (hk : ∀ kv ∈ kvs, SOk kv.1 ∧ SOk kv.2) : F a = some (.dK (mapK kvs)) → Rp K F (.ref a) (.dic kvs)
theorem sqT_mono {K : PySem.W.Frag} {H H' : Hp} {a : Addr} {xs : List V} (e : Same H H') (h : SqT K H a xs) : SqT K H' a xs := by
  rcases h with (h | ⟨o, h⟩) | h
  · exact .inl (.inl (e _ _ h))
  · exact .inl (.inr ⟨o, e _ _ h⟩)
  · exact .inr h
mutual
theorem Rp.mono {K : PySem.W.Frag} {F F' : Hp} (e : Same F F') : ∀ (d : D) (v : V), Rp K F v d → Rp K F' v d
  | .non, _, h => by cases h; exact .non
  | .bl b, _, h => by cases h; exact .bl b
  | .int i, _, h => by cases h; exact .int i
  | .str s, _, h => by cases h with | str _ q => exact .str s q
  | .lst l, _, h => by
    cases h with
    | lst hz hs hp => exact .lst hz (e.seq hs) (Rp.monoAll e l _ hp)
  | .tup l, _, h => by
    cases h with
    | tup hz hs hp => exact .tup hz (sqT_mono e hs) (Rp.monoAll e l _ hp)
  | .dic _, _, h => by
    cases h with
    | dic hk q => exact .dic hk (e _ _ q)
theorem Rp.monoAll {K : PySem.W.Frag} {F F' : Hp} (e : Same F F') : ∀ (l : List D) (vs : List V), Paired (Rp K F) vs l → Paired (Rp K F') vs l
  | [], _, h => by cases h; exact .nil
  | d :: l, _, h => by
    cases h with
    | cons h1 h2 => exact .cons (Rp.mono e d _ h1) (Rp.monoAll e l _ h2)
end
mutual
theorem Rp.okS {K : PySem.W.Frag} {F : Hp} : ∀ (d : D) (v : V), Rp K F v d → d.okS = true
  | .non, _, _ => rfl
  | .bl _, _, _ => rfl
  | .int _, _, _ => rfl
  | .dic kvs, _, h => by
    cases h with
    | dic hk q =>
      show (kvs.all fun kv => PyData.strOk kv.1 && PyData.strOk kv.2) = true
      rw [List.all_eq_true]
      intro kv hm
      obtain ⟨h1, h2⟩ := hk kv hm
      rw [h1.1, h2.1]
      rfl
  | .str _, _, h => by cases h with | str _ q => exact q.1
  | .lst l, _, h => by
    cases h with
    | lst hz hs hp => exact Rp.okSL l _ hp
  | .tup l, _, h => by
    cases h with
    | tup hz hs hp => exact Rp.okSL l _ hp
theorem Rp.okSL {K : PySem.W.Frag} {F : Hp} : ∀ (l : List D) (vs : List V), Paired (Rp K F) vs l → D.okSL l = true
  | [], _, _ => rfl
  | d :: l, _, h => by
    cases h with
    | cons h1 h2 =>
      show (d.okS && D.okSL l) = true
      rw [Rp.okS d _ h1, Rp.okSL l _ h2]
      rfl
end
section
variable {X : Cx} {pins : List (Addr × Obj)} {σ : St} {H : Hp} {s : Shared}
theorem pairs_map {h : Heap} : ∀ {kvs : List (Str × Str)} {vs : List (Key × Value)}, KV (mapK kvs) vs → ∃ bs, bs = [] ∧ PyProof.V.PairsRead h (fun k : Key => match k with | .inl i => PyData.int i | .inr x => .str x) vs (kvs.map fun kv => (PyData.str kv.1, PyData.str kv.2)) bs
  | [], _, h => by cases h; exact ⟨[], rfl, .nil⟩
  | kv :: r, _, h => by
    cases h with
    | @cons _ q _ _ h1 h2 =>
      obtain ⟨bs, e, p⟩ := pairs_map h2
      subst e
      obtain ⟨k, v⟩ := q
      obtain ⟨e1, t, e2⟩ := h1
      simp only at e1 e2
      subst e1 e2
      exact ⟨[], rfl, PyProof.V.PairsRead.cons (as := []) (Reads.str kv.2 t) p⟩
theorem reads_dicK (I : Inv X pins σ H s) {a : Addr} {kvs : List (Str × Str)} (q : H a = some (.dK (mapK kvs))) : ∃ as, Reads s.heap (.ref a) (D.dic kvs).py as ∧ sysModules ∉ as := by
  obtain ⟨_, hs, vs, kv, dd⟩ := I.hok _ _ q
  obtain ⟨bs, e, p⟩ := pairs_map (h := s.heap) kv
  subst e
  refine ⟨_, PyProof.V.reads_dictOf (fun k key hk => ?_) dd p, fun z => ?_⟩
  · rcases keyIs_shape hk with ⟨i, t, rfl, rfl⟩ | ⟨x, t, rfl, rfl⟩
    · exact Reads.int i t
    · exact Reads.str x t
  · simp only [List.append_nil, List.mem_cons, List.not_mem_nil, or_false] at z
    rw [← z] at hs
    simp at hs
mutual
theorem Rp.reads (I : Inv X pins σ H s) : ∀ (d : D) (v : V) (u : Value), Rp X.K H v d → RelV v u → ∃ as, Reads s.heap u d.py as
  | .non, _, _, h, r => by
    cases h
    cases r
    exact ⟨_, Reads.none⟩
  | .bl b, _, _, h, r => by
    cases h
    cases r
    exact ⟨_, Reads.bool b⟩
  | .int i, _, _, h, r => by
    cases h
    obtain ⟨t, e⟩ := r
    subst e
    exact ⟨_, Reads.int i t⟩
  | .str x, _, _, h, r => by
    cases h
    obtain ⟨t, e⟩ := r
    subst e
    exact ⟨_, Reads.str x t⟩
  | .dic kvs, _, _, h, r => by
    cases h with
    | dic hk q =>
      cases r
      obtain ⟨as, e, _⟩ := reads_dicK I q
      exact ⟨_, e⟩
  | .lst l, _, _, h, r => by
    cases h with
    | lst hz hs hp =>
      cases r
      obtain ⟨its, rv, ⟨o, n, e1, e2, _, e3⟩, _⟩ := I.list hs
      obtain ⟨as, q⟩ := Rp.readsL I l _ its hp rv
      exact ⟨_, Reads.list e1 e2 e3 q⟩
  | .tup l, _, _, h, r => by
    cases h with
    | tup hz hs hp =>
      cases r
      obtain ⟨its, rv, ⟨o, e1, e2, n, e3⟩, _⟩ := I.tuple hs
      obtain ⟨as, q⟩ := Rp.readsL I l _ its hp rv
      exact ⟨_, Reads.tuple e1 e2 e3 q⟩
theorem Rp.readsL (I : Inv X pins σ H s) : ∀ (l : List D) (vs : List V) (us : List Value), Paired (Rp X.K H) vs l → Vals vs us → ∃ as, ReadsAll s.heap us (D.pyAll l) as
  | [], _, _, h, r => by
    cases h
    cases r
    exact ⟨_, ReadsAll.nil⟩
  | d :: l, _, _, h, r => by
    cases h with
    | cons h1 h2 =>
      cases r with
      | cons r1 r2 =>
        obtain ⟨as, q1⟩ := Rp.reads I d _ _ h1 r1
        obtain ⟨bs, q2⟩ := Rp.readsL I l _ _ h2 r2
        exact ⟨_, ReadsAll.cons q1 q2⟩
end
end
namespace Pr
variable {α β : Type} {F : α → β → Prop}
theorem get : ∀ {l₁ : List α} {l₂ : List β} {i : Nat} {b : β}, Paired F l₁ l₂ → l₂[i]? = some b → ∃ a, l₁[i]? = some a ∧ F a b
  | _, _, _, _, .nil, e => by simp at e
  | _, _, 0, _, .cons r _, e => by simp at e; subst e; exact ⟨_, rfl, r⟩
  | _, _, i + 1, b, .cons _ t, e => by
    obtain ⟨u, h1, h2⟩ := get (i := i) (b := b) t (by simpa using e)
    exact ⟨u, by simpa using h1, h2⟩
theorem append : ∀ {xs ys : List α} {us ws : List β}, Paired F xs us → Paired F ys ws → Paired F (xs ++ ys) (us ++ ws)
  | _, _, _, _, .nil, s => s
  | _, _, _, _, .cons r t, s => .cons r (append t s)
theorem take : ∀ {xs : List α} {us : List β} (n : Nat), Paired F xs us → Paired F (xs.take n) (us.take n)
  | _, _, 0, _ => .nil
  | _, _, _ + 1, .nil => .nil
  | _, _, n + 1, .cons r t => .cons r (take n t)
theorem drop : ∀ {xs : List α} {us : List β} (n : Nat), Paired F xs us → Paired F (xs.drop n) (us.drop n)
  | _, _, 0, r => r
  | _, _, _ + 1, .nil => .nil
  | _, _, n + 1, .cons _ t => drop n t
theorem set {x : α} {u : β} (r : F x u) : ∀ {xs : List α} {us : List β} (i : Nat), Paired F xs us → Paired F (xs.set i x) (us.set i u)
  | _, _, _, .nil => .nil
  | _, _, 0, .cons _ t => .cons r t
  | _, _, i + 1, .cons q t => .cons q (set r i t)
end Pr
structure ND where
  name : Str
  qual : Str
  params : Arguments
  body : List Stmt ⊕ Expr
  scope : Scope
  ps : List Str
  fr : List Str
structure Tbs where
  tabs : List NTab
  nd : Nat → Option ND
  ea : Option (Addr × Value × Option Addr) := none
structure Tx where
  K : PySem.W.Frag
  mg : Str → Option Value
  T : Tbs
def CellO (c : Addr) (o : Obj) : HO := .ext fun h => h.get? c = some o
def LamO (f : Addr) (nd : ND) (e : Expr) (cl : List (Str × Addr)) (c' : Addr) : HO := .ext fun h => ∃ pm ctv : Value, h.get? f = some (PySem.W.kla_obj nd.name nd.qual nd.params e nd.scope cl pm c' ctv)
def ND.nf (nd : ND) (b : List Stmt) (cl : List (Str × Addr)) (c' : Addr) : NF := ⟨nd.name, nd.qual, nd.params, b, nd.scope, cl, c'⟩
def CloO (f : Addr) (nd : ND) (cl : List (Str × Addr)) (c' : Addr) : HO := match nd.body with
  | .inl b => FnO f (nd.nf b cl c')
  | .inr e => LamO f nd e cl c'
theorem cloO_ext (f : Addr) (nd : ND) (cl : List (Str × Addr)) (c' : Addr) : ∃ φ, CloO f nd cl c' = .ext φ := by
  unfold CloO
  split
  · exact ⟨_, rfl⟩
  · exact ⟨_, rfl⟩
structure CapA (K : PySem.W.Frag) (F H : Hp) (cl : List (Str × Addr)) (fr : List Str) (caps : List D) : Prop where
  len : caps.length = fr.length
  keys : ∀ y c, cl.lookup y = some c → y ∈ fr
  inj : ∀ x y c, cl.lookup x = some c → cl.lookup y = some c → x = y
  at_ : ∀ (j : Nat) (y : Str) (d : D), fr[j]? = some y → caps[j]? = some d → ∃ c o u v, cl.lookup y = some c ∧ F c = none ∧ H c = some (CellO c o) ∧ o.data = .cell (some u) ∧ RelV v u ∧ Rp K F v d
structure CloAt (X : Tx) (F H : Hp) (m : Addr) (i : Nat) (caps : List D) : Prop where
  ex : ∃ (nd : ND) (cl : List (Str × Addr)) (c' : Addr), X.T.nd i = some nd ∧ H m = some (CloO m nd cl c') ∧ H c' = some (LamX.CodeO c' nd.qual) ∧ CapA X.K F H cl nd.fr caps
def KeepE (H H' : Hp) : Prop := ∀ a φ, H a = some (.ext φ) → H' a = some (.ext φ)
theorem KeepE.of (h : Same H H') : KeepE H H' := fun a φ e => h a _ e
theorem keepE_upd {H : Hp} {p : Addr} {vs ws : List V} (e : H p = some (.lst vs)) : KeepE H (upd H p (.lst ws)) := fun a φ q => by
  rw [upd_ne (fun z => by rw [z, e] at q; cases q)]
  exact q
theorem CloAt.keep {X : Tx} {F F' H H' : Hp} {m : Addr} {i : Nat} {caps : List D} (h : CloAt X F H m i caps) (k : KeepE H H') (f : Same F F') (nf : ∀ a, H a ≠ none → F a = none → F' a = none) : CloAt X F' H' m i caps := by
  obtain ⟨nd, cl, c', e1, e2, e3, cp⟩ := h.ex
  obtain ⟨φ, eφ⟩ := cloO_ext m nd cl c'
  refine ⟨nd, cl, c', e1, by rw [eφ]; exact k _ _ (by rw [← eφ]; exact e2), k _ _ e3, cp.len, cp.keys, cp.inj, fun j y d h1 h2 => ?_⟩
  obtain ⟨c, o, u, v, q1, q0, q2, q3, q4, q5⟩ := cp.at_ j y d h1 h2
  exact ⟨c, o, u, v, q1, nf c (by rw [q2]; simp) q0, k _ _ q2, q3, q4, q5.mono f⟩
theorem CloAt.keep' {X : Tx} {F F' H : Hp} {m : Addr} {i : Nat} {caps : List D} (h : CloAt X F H m i caps) (f : Same F F') (nf : ∀ c o, H c = some (CellO c o) → F' c = F c) : CloAt X F' H m i caps := by
  obtain ⟨nd, cl, c', e1, e2, e3, cp⟩ := h.ex
  refine ⟨nd, cl, c', e1, e2, e3, cp.len, cp.keys, cp.inj, fun j y d h1 h2 => ?_⟩
  obtain ⟨c, o, u, v, q1, q0, q2, q3, q4, q5⟩ := cp.at_ j y d h1 h2
  exact ⟨c, o, u, v, q1, by rw [nf c o q2]; exact q0, q2, q3, q4, q5.mono f⟩
theorem CloAt.there {X : Tx} {F H : Hp} {m : Addr} {i : Nat} {caps : List D} (h : CloAt X F H m i caps) : H m ≠ none := by
  obtain ⟨nd, cl, c', e1, e2, e3, cp⟩ := h.ex
  rw [e2]
  simp
structure ObjC (K : PySem.W.Frag) (mg : Str → Option Value) (x : Str) (C : Addr) : Prop where
  gl : mg x = some (.ref C)
  cls : Cls K C
  ha : PySem.W.findIn K (.ref C) "__class__" = some (some (.builtin "object.__class__"))
  hn : PySem.W.specialIn K (.builtin "object.__class__") "__get__" = some (some (.builtin "getset_descriptor.__get__"))
  htk : PySem.W.takesIn K (.builtin "object.__class__") = some true
  hm : PySem.W.mroIn K C (.type "object") = some true
  kit : ∀ t ∈ ["int", "bool", "str", "tuple", "list", "dict"], PySem.W.kitOne K (.ref C) (.type t) = some false
def FV.isAt (K : PySem.W.Frag) (F : Hp) (M : List Addr) (v : V) : FV → Prop
  | .un => True
  | .dat d => Rp K F v d
  | .ref k => ∃ m, M[k]? = some m ∧ v = .ref m
def FV.low (n : Nat) : FV → Bool
  | .ref k => decide (k < n)
  | _ => true
theorem FV.keep {K : PySem.W.Frag} {F F' : Hp} {M M' : List Addr} {v : V} {x : FV} (h : x.isAt K F M v) (f : Same F F') (k : ∀ (k : Nat) (m : Addr), M[k]? = some m → M'[k]? = some m) : x.isAt K F' M' v := by
  cases x with
  | un => trivial
  | dat d => exact Rp.mono f _ _ h
  | ref j => obtain ⟨m, e1, e2⟩ := h; exact ⟨m, k _ _ e1, e2⟩
structure ObjAt (X : Tx) (F H : Hp) (M : List Addr) (m : Addr) (x : Str) (fs : List (Str × FV)) : Prop where
  ex : ∃ (C dx : Addr) (gs : List (Str × V)), ObjC X.K X.mg x C ∧ H m = some (.ins C dx gs) ∧ Paired (fun g f => g.1 = f.1 ∧ f.2.isAt X.K F M g.2) gs fs
theorem ObjAt.keep {X : Tx} {F F' H H' : Hp} {M M' : List Addr} {m : Addr} {x : Str} {fs : List (Str × FV)} (h : ObjAt X F H M m x fs) (f : Same F F') (k : ∀ C dx gs, H m = some (.ins C dx gs) → H' m = some (.ins C dx gs)) (km : ∀ (k : Nat) (m : Addr), M[k]? = some m → M'[k]? = some m := by exact fun _ _ h => h) : ObjAt X F' H' M' m x fs := by
  obtain ⟨C, dx, gs, c, e, p⟩ := h.ex
  exact ⟨C, dx, gs, c, k _ _ _ e, Paired.mapP p fun g q z => ⟨z.1, FV.keep z.2 f km⟩⟩
theorem ObjAt.there {X : Tx} {F H : Hp} {M : List Addr} {m : Addr} {x : Str} {fs : List (Str × FV)} (h : ObjAt X F H M m x fs) : H m ≠ none := by
  obtain ⟨C, dx, gs, c, e, p⟩ := h.ex
  rw [e]
  simp
structure DicAt (X : Tx) (F H : Hp) (M : List Addr) (m : Addr) (kvs : List (Key × FV)) : Prop where
  ex : ∃ gs : List (Key × V), H m = some (.dK gs) ∧ Paired (fun g f => g.1 = f.1 ∧ f.2.isAt X.K F M g.2) gs kvs
theorem DicAt.keep {X : Tx} {F F' H H' : Hp} {M M' : List Addr} {m : Addr} {kvs : List (Key × FV)} (h : DicAt X F H M m kvs) (f : Same F F') (k : ∀ gs, H m = some (.dK gs) → H' m = some (.dK gs)) (km : ∀ (k : Nat) (m : Addr), M[k]? = some m → M'[k]? = some m := by exact fun _ _ h => h) : DicAt X F' H' M' m kvs := by
  obtain ⟨gs, e, p⟩ := h.ex
  exact ⟨gs, k _ e, Paired.mapP p fun g q z => ⟨z.1, FV.keep z.2 f km⟩⟩
theorem DicAt.there {X : Tx} {F H : Hp} {M : List Addr} {m : Addr} {kvs : List (Key × FV)} (h : DicAt X F H M m kvs) : H m ≠ none := by
  obtain ⟨gs, e, p⟩ := h.ex
  rw [e]
  simp
def WO.isAt (X : Tx) (F H : Hp) (M : List Addr) (m : Addr) : WO → Prop
  | .lst l => l.length ≤ sizeLine ∧ ∃ vs, H m = some (.lst vs) ∧ Paired (Rp X.K F) vs l
  | .clo i caps => CloAt X F H m i caps
  | .obj x fs => ObjAt X F H M m x fs
  | .dic kvs => DicAt X F H M m kvs
theorem WO.more {X : Tx} {F H : Hp} {M M' : List Addr} {m : Addr} {o : WO} (h : o.isAt X F H M m) (km : ∀ (k : Nat) (m : Addr), M[k]? = some m → M'[k]? = some m) : o.isAt X F H M' m := by
  cases o with
  | lst l => exact h
  | clo i caps => exact h
  | obj x fs => exact ObjAt.keep h (Same.refl _) (fun _ _ _ e => e) km
  | dic kvs => exact DicAt.keep h (Same.refl _) (fun _ e => e) km
structure WRel (X : Tx) (F H : Hp) (M : List Addr) (w : World) : Prop where
  nd : M.Nodup
  at_ : Paired (fun m o => F m = none ∧ WO.isAt X F H M m o) M w
def IsE (o : HO) : Prop := ∃ φ, o = .ext φ
def NoTbl (F : Hp) : Prop := ∀ a ps, F a ≠ some (.tbl ps)
structure Stp (H F : Hp) (M : List Addr) (H' F' : Hp) (M' : List Addr) : Prop where
  fg : Same F F'
  fr : ∀ a o, (a ∈ M → IsE o) → (∀ ps, o ≠ .tbl ps) → H a = some o → H' a = some o
  th : ∀ a, H a ≠ none → H' a ≠ none
  nf : ∀ a, H a ≠ none → F a = none → F' a = none
  mw : ∃ nw, M' = M ++ nw ∧ ∀ m ∈ nw, H m = none
theorem Stp.refl {H F : Hp} {M : List Addr} : Stp H F M H F M := ⟨Same.refl _, fun _ _ _ _ h => h, fun _ h => h, fun _ _ h => h, [], by simp, by simp⟩
theorem Stp.trans {H F H1 F1 H2 F2 : Hp} {M M1 M2 : List Addr} (a : Stp H F M H1 F1 M1) (b : Stp H1 F1 M1 H2 F2 M2) : Stp H F M H2 F2 M2 where
  fg := a.fg.trans b.fg
  fr := fun c o hM ht h => by
    obtain ⟨nw, e, hn⟩ := a.mw
    refine b.fr c o ?_ ht (a.fr c o hM ht h)
    intro z
    rw [e, List.mem_append] at z
    rcases z with z | z
    · exact hM z
    · rw [hn c z] at h; cases h
  th := fun c h => b.th c (a.th c h)
  nf := fun c h hF => b.nf c (a.th c h) (a.nf c h hF)
  mw := by
    obtain ⟨n1, e1, h1⟩ := a.mw
    obtain ⟨n2, e2, h2⟩ := b.mw
    refine ⟨n1 ++ n2, by rw [e2, e1, List.append_assoc], fun m hm => ?_⟩
    rcases List.mem_append.mp hm with z | z
    · exact h1 m z
    · cases q : H m with
      | none => rfl
      | some o => exact absurd (h2 m z) (a.th m (by rw [q]; simp))
def Exn.isAt (X : Tx) (F H : Hp) (cls : Value) (d : Option Addr) (x : Exn) : Prop :=
  ∃ C, X.mg x.cls = some (.ref C) ∧ cls = .ref C ∧ match x.fld with
    | none => d = none
    | some (f, dv) => ∃ dx v, d = some dx ∧ H dx = some (.xd [(f, v)]) ∧ Rp X.K F v dv
theorem WRel.notM {X : Tx} {F H : Hp} {M : List Addr} {w : World} {a : Addr} {fs : List (Str × V)} (wr : WRel X F H M w) (e : H a = some (.xd fs)) : a ∉ M := by
  have go : ∀ {N M : List Addr} {w : World}, Paired (fun m o => F m = none ∧ WO.isAt X F H N m o) M w → a ∉ M := by
    intro N M w h
    induction h with
    | nil => exact fun h => nomatch h
    | @cons m o _ _ h1 _ ih =>
      intro hm
      rcases List.mem_cons.mp hm with rfl | hm
      · cases o with
        | lst l => obtain ⟨_, _, vs, e1, _⟩ := h1; rw [e1] at e; cases e
        | clo i caps =>
          obtain ⟨nd, cl, c', _, e2, _⟩ := h1.2.ex
          obtain ⟨φ, eφ⟩ := cloO_ext a nd cl c'
          rw [e2, eφ] at e
          cases e
        | obj y gs =>
          obtain ⟨C, dx, _, _, e2, _⟩ := ObjAt.ex h1.2
          rw [e2] at e
          cases e
        | dic kvs =>
          obtain ⟨_, e2, _⟩ := DicAt.ex h1.2
          rw [e2] at e
          cases e
      · exact ih hm
  exact go wr.at_
theorem Exn.keep {X : Tx} {F F' H H' : Hp} {cls : Value} {d : Option Addr} {x : Exn} (h : x.isAt X F H cls d) (f : Same F F') (k : ∀ a fs, H a = some (.xd fs) → H' a = some (.xd fs)) : x.isAt X F' H' cls d := by
  obtain ⟨C, h1, h2, h3⟩ := h
  refine ⟨C, h1, h2, ?_⟩
  revert h3
  cases x.fld with
  | none => exact fun h => h
  | some p =>
    rintro ⟨dx, v, e1, e2, e3⟩
    exact ⟨dx, v, e1, k _ _ e2, e3.mono f⟩
theorem keepX_upd {H : Hp} {p : Addr} {o : HO} (hp : ∀ fs, H p ≠ some (.xd fs)) : ∀ a fs, H a = some (.xd fs) → upd H p o a = some (.xd fs) := fun a fs e => by
  rw [upd_ne fun z => hp fs (by rw [← z]; exact e)]
  exact e
structure Base where
  H : Hp
  F : Hp
  M : List Addr
def Sl.isAt (X : Tx) (B : Base) (H F : Hp) (M : List Addr) (O : Nat → Addr) (i : Nat) (x : Option (Option V)) : Sl → Prop
  | .un => True
  | .dat d => ∃ v, x = some (some v) ∧ Rp X.K F v d
  | .own l => x = some (some (.ref (O i))) ∧ B.H (O i) = none ∧ F (O i) = none ∧ O i ∉ M ∧ l.length ≤ sizeLine ∧ ∃ vs, H (O i) = some (.lst vs) ∧ Paired (Rp X.K F) vs l
  | .wref k => ∃ m, M[k]? = some m ∧ x = some (some (.ref m))
  | .exn e => ∃ a cls d, X.T.ea = some (a, cls, d) ∧ x = some (some (.ref a)) ∧ e.isAt X F H cls d
structure SR (X : Tx) (B : Base) (env : Ev) (w : World) (σ : St) (H F : Hp) (O : Nat → Addr) (M : List Addr) : Prop where
  len : σ.length = env.length
  fh : Same F H
  nt : NoTbl F
  st : Stp B.H B.F B.M H F M
  wr : WRel X F H M w
  tb : TabsN X.T.tabs H
  sl : ∀ (i : Nat) (s : Sl), env[i]? = some s → s.isAt X B H F M O i σ[i]?
  inj : ∀ (i j : Nat) (li lj : List D), env[i]? = some (.own li) → env[j]? = some (.own lj) → O i = O j → i = j
def RV.isAt (X : Tx) (Hs : Hp) (env : Ev) (O : Nat → Addr) (H F : Hp) (M : List Addr) (v : V) : RV → Prop
  | .dat d => Rp X.K F v d
  | .fresh l => l.length ≤ sizeLine ∧ ∃ p vs, v = .ref p ∧ Hs p = none ∧ F p = none ∧ p ∉ M ∧ H p = some (.lst vs) ∧ Paired (Rp X.K F) vs l
  | .bor i l => env[i]? = some (.own l) ∧ v = .ref (O i)
  | .wref k => ∃ m, M[k]? = some m ∧ v = .ref m
theorem mem_of_pfx {M M' nw : List Addr} {k : Nat} {m : Addr} (e : M' = M ++ nw) (h : M[k]? = some m) : M'[k]? = some m := by
  rw [e, List.getElem?_append_left]
  · exact h
  · exact (List.getElem?_eq_some_iff.mp h).1
section
variable {X : Tx} {B : Base} {env : Ev} {w w' : World} {σ : St} {H F H' F' Hs : Hp} {O : Nat → Addr} {M M' : List Addr} {v : V} {r : RV}
theorem notM' (st : Stp H F M H' F' M') {p : Addr} (hM : p ∉ M) (hH : H p ≠ none) : p ∉ M' := by
  obtain ⟨nw, e, hn⟩ := st.mw
  rw [e, List.mem_append]
  rintro (z | z)
  · exact hM z
  · exact hH (hn p z)
theorem SR.step (s : SR X B env w σ H F O M) (st : Stp H F M H' F' M') (sm : Same F' H') (nt : NoTbl F') (wr : WRel X F' H' M' w') (tb : TabsN X.T.tabs H') : SR X B env w' σ H' F' O M' := by
  refine ⟨s.len, sm, nt, s.st.trans st, wr, tb, fun i sl e => ?_, s.inj⟩
  have h := s.sl i sl e
  obtain ⟨nw, em, _⟩ := id st.mw
  cases sl with
  | un => trivial
  | dat d => obtain ⟨v, e1, e2⟩ := h; exact ⟨v, e1, e2.mono st.fg⟩
  | own l =>
    obtain ⟨e1, e2, e3, e4, ez, vs, e5, e6⟩ := h
    have hn : H (O i) ≠ none := by rw [e5]; simp
    exact ⟨e1, e2, st.nf _ hn e3, notM' st e4 hn, ez, vs, st.fr _ _ (fun z => absurd z e4) (fun _ z => by cases z) e5, Rp.monoAll st.fg _ _ e6⟩
  | wref k => obtain ⟨m, e1, e2⟩ := h; exact ⟨m, mem_of_pfx em e1, e2⟩
  | exn e =>
    obtain ⟨a, cls, d, e1, e2, e3⟩ := h
    exact ⟨a, cls, d, e1, e2, Exn.keep e3 st.fg fun b fs q => st.fr _ _ (fun z => absurd z (s.wr.notM q)) (fun _ z => by cases z) q⟩
theorem RV.step (h : r.isAt X Hs env O H F M v) (st : Stp H F M H' F' M') : r.isAt X Hs env O H' F' M' v := by
  obtain ⟨nw, em, _⟩ := id st.mw
  cases r with
  | dat d => exact Rp.mono st.fg _ _ h
  | fresh l =>
    obtain ⟨ez, p, vs, e1, e2, e3, e4, e5, e6⟩ := h
    have hn : H p ≠ none := by rw [e5]; simp
    exact ⟨ez, p, vs, e1, e2, st.nf _ hn e3, notM' st e4 hn, st.fr _ _ (fun z => absurd z e4) (fun _ z => by cases z) e5, Rp.monoAll st.fg _ _ e6⟩
  | bor i l => exact h
  | wref k => obtain ⟨m, e1, e2⟩ := h; exact ⟨m, mem_of_pfx em e1, e2⟩
theorem RV.since {H0 : Hp} (h : r.isAt X Hs env O H F M v) (e : ∀ a, H0 a ≠ none → Hs a ≠ none) : r.isAt X H0 env O H F M v := by
  cases r with
  | fresh l =>
    obtain ⟨ez, p, vs, e1, e2, e3⟩ := h
    refine ⟨ez, p, vs, e1, ?_, e3⟩
    cases q : H0 p with
    | none => rfl
    | some o => exact absurd e2 (e p (by rw [q]; simp))
  | dat d => exact h
  | bor i l => exact h
  | wref k => exact h
end
structure Xt (H F H' F' : Hp) : Prop where
  hh : Same H H'
  ff : Same F F'
  fh : Same F' H'
  nf : ∀ a, H a ≠ none → F a = none → F' a = none
  nt : NoTbl F'
section
variable {X : Tx} {H F H' F' : Hp} {M : List Addr} {w : World} {p : Addr}
theorem Xt.refl (h : Same F H) (nt : NoTbl F) : Xt H F H F := ⟨Same.refl _, Same.refl _, h, fun _ _ e => e, nt⟩
theorem Xt.trans {H2 F2 : Hp} (a : Xt H F H' F') (b : Xt H' F' H2 F2) : Xt H F H2 F2 :=
  ⟨a.hh.trans b.hh, a.ff.trans b.ff, b.fh, fun c h e => b.nf c (fun z => h (a.hh.free z)) (a.nf c h e), b.nt⟩
theorem Xt.stp (x : Xt H F H' F') : Stp H F M H' F' M :=
  ⟨x.ff, fun a o _ _ h => x.hh a o h, fun a h z => h (x.hh.free z), x.nf, [], by simp, by simp⟩
theorem same_upd {o : HO} (h : H p = none) : Same H (upd H p o) := fun b u q => by rw [upd_ne (ne_of_none q h)]; exact q
theorem Xt.newL {vs : List V} (h : Same F H) (nt : NoTbl F) (hp : H p = none) : Xt H F (upd H p (.lst vs)) F :=
  ⟨same_upd hp, Same.refl _, h.trans (same_upd hp), fun _ _ e => e, nt⟩
theorem Xt.newF {o : HO} (h : Same F H) (nt : NoTbl F) (hp : H p = none) (ho : ∀ ps, o ≠ .tbl ps) : Xt H F (upd H p o) (upd F p o) := by
  have hF : F p = none := h.free hp
  refine ⟨same_upd hp, same_upd hF, fun b u q => ?_, fun a hn e => ?_, fun a ps q => ?_⟩
  · by_cases e : b = p
    · subst e; rw [upd_same] at q ⊢; exact q
    · rw [upd_ne e] at q ⊢; exact h _ _ q
  · by_cases z : a = p
    · subst z; exact absurd hp hn
    · rw [upd_ne z]; exact e
  · by_cases z : a = p
    · subst z; rw [upd_same] at q; exact ho ps (Option.some.inj q)
    · rw [upd_ne z] at q; exact nt a ps q
theorem WRel.keep (wr : WRel X F H M w) (x : Xt H F H' F') : WRel X F' H' M w := by
  refine ⟨wr.nd, Paired.mapP wr.at_ fun m o h => ?_⟩
  obtain ⟨h1, h2⟩ := h
  cases o with
  | lst l =>
    obtain ⟨ez, vs, e1, e2⟩ := h2
    exact ⟨x.nf m (by rw [e1]; simp) h1, ez, vs, x.hh _ _ e1, Rp.monoAll x.ff _ _ e2⟩
  | clo i caps => exact ⟨x.nf m (CloAt.there h2) h1, CloAt.keep h2 (KeepE.of x.hh) x.ff x.nf⟩
  | obj y gs => exact ⟨x.nf m (ObjAt.there h2) h1, ObjAt.keep h2 x.ff fun _ _ _ e => x.hh _ _ e⟩
  | dic kvs => exact ⟨x.nf m (DicAt.there h2) h1, DicAt.keep h2 x.ff fun _ e => x.hh _ _ e⟩
theorem SR.xt {B : Base} {env : Ev} {σ : St} {O : Nat → Addr} (s : SR X B env w σ H F O M) (x : Xt H F H' F') : SR X B env w σ H' F' O M :=
  s.step x.stp x.fh x.nt (s.wr.keep x) (s.tb.ext x.hh)
theorem SR.freeze {B : Base} {env : Ev} {σ : St} {O : Nat → Addr} {vs : List V} (s : SR X B env w σ H F O M) (hB : B.H p = none) (hM : p ∉ M) (hO : ∀ i l, env[i]? = some (.own l) → O i ≠ p) (hp : H p = some (.lst vs)) (hF : F p = none) : SR X B env w σ H (upd F p (.lst vs)) O M := by
  have fg : Same F (upd F p (.lst vs)) := same_upd hF
  refine ⟨s.len, fun b u q => ?_, fun a ps q => ?_, ⟨s.st.fg.trans fg, s.st.fr, s.st.th, fun a hn e => ?_, s.st.mw⟩, ⟨s.wr.nd, ?_⟩, s.tb, fun i sl e => ?_, s.inj⟩
  · by_cases e : b = p
    · subst e; rw [upd_same] at q; rw [hp]; exact q
    · rw [upd_ne e] at q; exact s.fh _ _ q
  · by_cases z : a = p
    · subst z; rw [upd_same] at q; cases q
    · rw [upd_ne z] at q; exact s.nt a ps q
  · by_cases z : a = p
    · subst z; exact absurd hB hn
    · rw [upd_ne z]; exact s.st.nf a hn e
  · have go : ∀ {N M : List Addr} {w : World}, p ∉ M → Paired (fun m o => F m = none ∧ WO.isAt X F H N m o) M w → Paired (fun m o => upd F p (.lst vs) m = none ∧ WO.isAt X (upd F p (.lst vs)) H N m o) M w := by
      intro N M w hM h
      induction h with
      | nil => exact .nil
      | @cons m o _ _ h1 _ ih =>
        refine .cons ⟨?_, ?_⟩ (ih fun z => hM (List.mem_cons_of_mem _ z))
        · rw [upd_ne (fun z => hM (by rw [← z]; exact List.mem_cons_self))]; exact h1.1
        · cases o with
          | lst l => obtain ⟨_, ez, ws, e1, e2⟩ := h1; exact ⟨ez, ws, e1, Rp.monoAll fg _ _ e2⟩
          | clo i caps => exact CloAt.keep' h1.2 fg (fun c o e => by rw [upd_ne (fun z => by rw [z, hp] at e; cases e)])
          | obj y gs => exact ObjAt.keep h1.2 fg fun _ _ _ e => e
          | dic kvs => exact DicAt.keep h1.2 fg fun _ e => e
    exact go hM s.wr.at_
  · have h := s.sl i sl e
    cases sl with
    | un => trivial
    | dat d => obtain ⟨v, e1, e2⟩ := h; exact ⟨v, e1, e2.mono fg⟩
    | own l =>
      obtain ⟨e1, e2, e3, e4, ez, ws, e5, e6⟩ := h
      exact ⟨e1, e2, by rw [upd_ne (hO i l e)]; exact e3, e4, ez, ws, e5, Rp.monoAll fg _ _ e6⟩
    | wref k => exact h
    | exn e => obtain ⟨a, cls, d, e1, e2, e3⟩ := h; exact ⟨a, cls, d, e1, e2, Exn.keep e3 fg fun _ _ q => q⟩
end
end Dl
namespace Dl
open PySem PySem.Spec PyProof.Rows L2 NdefX
def Pst {α : Type} (o : Out α) (g : α → World → Prop) (b : Exn → Ev → World → Prop) : Prop := match o with
  | .ok a w => g a w
  | .exc x e w => b x e w
  | .stuck => False
theorem Pst.bind {α β : Type} {o : Out α} {f : α → World → Out β} {g : β → World → Prop} {b : Exn → Ev → World → Prop} (h : Pst (o.bind f) g b) : Pst o (fun a w => Pst (f a w) g b) b := by cases o <;> exact h
theorem Pst.mono {α : Type} {o : Out α} {g g' : α → World → Prop} {b b' : Exn → Ev → World → Prop} (h : Pst o g b) (hg : ∀ a w, g a w → g' a w) (hb : ∀ x e w, b x e w → b' x e w) : Pst o g' b' := by
  cases o with
  | ok a w => exact hg a w h
  | exc x e w => exact hb x e w h
  | stuck => exact h
theorem Pst.imp {α : Type} {o : Out α} {g g' : α → World → Prop} {b : Exn → Ev → World → Prop} (h : Pst o g b) (hg : ∀ a w, g a w → g' a w) : Pst o g' b := h.mono hg fun _ _ _ z => z
def badX (X : Tx) (B : Base) (Wi : WX) : Exn → Ev → World → Prop := fun x env w => ∀ cls d σ H F O M, SR X B env w σ H F O M → x.isAt X F H cls d → Wi cls d σ H
def tD (X : Tx) (Wi : WX) (e : Ex) : TE := fun σ H Q => ∃ B env w F O M, SR X B env w σ H F O M ∧
  Pst (e env w) (fun r w' => ∀ v H' F' M', SR X B env w' σ H' F' O M' → Stp H F M H' F' M' → r.isAt X H env O H' F' M' v → Q v H') (badX X B Wi)
def tT (X : Tx) (Wi : WX) (e : Ev → World → Out Bool) : TT := fun σ H Q => ∃ B env w F O M, SR X B env w σ H F O M ∧
  Pst (e env w) (fun b w' => ∀ H' F' M', SR X B env w' σ H' F' O M' → Stp H F M H' F' M' → Q b H') (badX X B Wi)
def tR (X : Tx) (Wi : WX) (e : Ev → World → Out (List RV)) : TA := fun σ H Q => ∃ B env w F O M, SR X B env w σ H F O M ∧
  Pst (e env w) (fun rs w' => ∀ vs H' F' M', SR X B env w' σ H' F' O M' → Stp H F M H' F' M' → Paired (fun v r => RV.isAt X H env O H' F' M' v r) vs rs → Q vs H') (badX X B Wi)
theorem _root_.L2.PE.impD {X : Cx} {e : Expr} {t t' : TE} (h : PE X e t) (k : ∀ σ H Q, t' σ H Q → t σ H Q) : PE X e t' := ⟨fun pins s σ H Q I q => h.run pins s σ H Q I (k σ H Q q)⟩
theorem _root_.L2.PT.impD {X : Cx} {e : Expr} {t t' : TT} (h : PT X e t) (k : ∀ σ H Q, t' σ H Q → t σ H Q) : PT X e t' := ⟨fun pins s σ H Q I q => h.run pins s σ H Q I (k σ H Q q)⟩
theorem _root_.L2.PW.impD {X : Cx} {e : Expr} {t t' : TT} (h : PW X e t) (k : ∀ σ H Q, t' σ H Q → t σ H Q) : PW X e t' := ⟨fun wh pins s σ H Q I q => h.run wh pins s σ H Q I (k σ H Q q)⟩
theorem _root_.L2.PA.impD {X : Cx} {e : List Expr} {t t' : TA} (h : PA X e t) (k : ∀ σ H Q, t' σ H Q → t σ H Q) : PA X e t' := ⟨fun pos pins s σ H Q I q => h.run pos pins s σ H Q I (k σ H Q q)⟩
theorem _root_.L2.PS.impD {X : Cx} {e : Stmt} {t t' : TS} (h : PS X e t) (k : ∀ D σ H, t' D σ H → t D σ H) : PS X e t' := ⟨fun pins s σ H D I q => h.run pins s σ H D I (k D σ H q)⟩
theorem _root_.L2.PSs.impD {X : Cx} {e : List Stmt} {t t' : TS} (h : PSs X e t) (k : ∀ D σ H, t' D σ H → t D σ H) : PSs X e t' := ⟨fun pins s σ H D I q => h.run pins s σ H D I (k D σ H q)⟩
abbrev Cx.tx (X : Cx) (T : Tbs) : Tx := ⟨X.K, X.mg, T⟩
abbrev JE (X : Cx) (T : Tbs) (Wi : WX) (e : Expr) (d : Ex) : Prop := PE X e (tD (Cx.tx X T) Wi d)
abbrev JT (X : Cx) (T : Tbs) (Wi : WX) (e : Expr) (d : Ev → World → Out Bool) : Prop := PT X e (tT (Cx.tx X T) Wi d)
abbrev JW (X : Cx) (T : Tbs) (Wi : WX) (e : Expr) (d : Ev → World → Out Bool) : Prop := PW X e (tT (Cx.tx X T) Wi d)
abbrev JR (X : Cx) (T : Tbs) (Wi : WX) (es : List Expr) (d : Ev → World → Out (List RV)) : Prop := PA X es (tR (Cx.tx X T) Wi d)
def RV.val : RV → Option D
  | .dat d => some d
  | .fresh l => some (.lst l)
  | .bor _ l => some (.lst l)
  | .wref _ => none
def Rv (K : PySem.W.Frag) (F H : Hp) (v : V) : D → Prop
  | .lst l => l.length ≤ sizeLine ∧ ∃ p vs, v = .ref p ∧ SqL K H p vs ∧ Paired (Rp K F) vs l
  | d => Rp K F v d
section
variable {X : Tx} {B : Base} {env : Ev} {w w' : World} {σ : St} {H F H' F' Hs : Hp} {O : Nat → Addr} {M M' : List Addr} {v : V} {r : RV} {K : PySem.W.Frag} {d : D}
theorem Rp.rv (h : Rp K F v d) (fh : Same F H) : Rv K F H v d := by
  cases d with
  | lst l => cases h with | lst hz hs hp => exact ⟨hz, _, _, rfl, fh.seq hs, hp⟩
  | _ => exact h
theorem Rv.rp (h : Rv K F H v d) (fh : Same F H) : Rp K H v d := by
  cases d with
  | lst l => obtain ⟨hz, p, vs, rfl, hs, hp⟩ := h; exact .lst hz hs (Rp.monoAll fh _ _ hp)
  | _ => exact Rp.mono fh _ _ h
theorem RV.rv (s : SR X B env w σ H F O M) (h : r.isAt X Hs env O H F M v) (e : r.val = some d) : Rv X.K F H v d := by
  cases r with
  | dat d' => cases e; exact Rp.rv h s.fh
  | fresh l => cases e; obtain ⟨ez, p, vs, e1, _, _, _, e5, e6⟩ := h; exact ⟨ez, p, vs, e1, SqL.of e5, e6⟩
  | bor i l =>
    cases e
    obtain ⟨e1, e2⟩ := h
    obtain ⟨_, _, _, _, ez, vs, e5, e6⟩ := s.sl i _ e1
    exact ⟨ez, _, vs, e2, SqL.of e5, e6⟩
  | wref k => cases e
theorem WRel.there (wr : WRel X F H M w) {m : Addr} (hm : m ∈ M) : H m ≠ none := by
  have go : ∀ {N M : List Addr} {w : World}, Paired (fun m o => F m = none ∧ WO.isAt X F H N m o) M w → m ∈ M → H m ≠ none := by
    intro N M w h hm
    induction h with
    | nil => cases hm
    | @cons a o _ _ h1 _ ih =>
      rcases List.mem_cons.mp hm with rfl | hm
      · cases o with
        | lst l => obtain ⟨_, _, vs, e1, _⟩ := h1; rw [e1]; simp
        | clo i caps => exact CloAt.there h1.2
        | obj y gs => exact ObjAt.there h1.2
        | dic kvs => exact DicAt.there h1.2
      · exact ih hm
  exact go wr.at_ hm
def RV.newAt (K : PySem.W.Frag) (H H' F' : Hp) (v : V) : RV → Prop
  | .dat d => Rp K F' v d
  | .fresh l => l.length ≤ sizeLine ∧ ∃ p vs, v = .ref p ∧ H p = none ∧ F' p = none ∧ H' p = some (.lst vs) ∧ Paired (Rp K F') vs l
  | _ => False
theorem RV.of_new (h : r.newAt X.K H H' F' v) (s : SR X B env w σ H F O M) (e0 : ∀ a, Hs a ≠ none → H a ≠ none) : r.isAt X Hs env O H' F' M v := by
  cases r with
  | dat d => exact h
  | fresh l =>
    obtain ⟨ez, p, vs, e1, e2, e3, e4, e5⟩ := h
    refine ⟨ez, p, vs, e1, ?_, e3, fun hm => s.wr.there hm e2, e4, e5⟩
    cases q : Hs p with
    | none => rfl
    | some o => exact absurd e2 (e0 p (by rw [q]; simp))
  | bor i l => exact h.elim
  | wref k => exact h.elim
end
def lift (o : Option RV) (w : World) : Out RV := match o with
  | some r => .ok r w
  | none => .stuck
@[simp] theorem lift_some (r : RV) (w : World) : lift (some r) w = .ok r w := rfl
theorem Pst.lift {o : Option RV} {w : World} {g : RV → World → Prop} {b : Exn → Ev → World → Prop} (h : Pst (Dl.lift o w) g b) : ∃ r, o = some r ∧ g r w := by
  cases o with
  | none => exact h.elim
  | some r => exact ⟨r, rfl, h⟩
def dName (i : Nat) : Ex := fun env w => match env[i]? with
  | some (.dat d) => .ok (.dat d) w
  | some (.own l) => .ok (.bor i l) w
  | some (.wref k) => .ok (.wref k) w
  | _ => .stuck
def dC (d : D) : Ex := fun _ w => .ok (.dat d) w
section
variable {X : Cx} {T : Tbs} {Wi : WX} {pos : Pos}
theorem je_name {i : Nat} {x : Str} (h : PE X (.Name x pos) (tVar i)) : JE X T Wi (.Name x pos) (dName i) := by
  refine h.impD fun σ H Q q => ?_
  obtain ⟨B, env, w, F, O, M, s, q⟩ := q
  unfold dName at q
  cases e : env[i]? with
  | none => rw [e] at q; exact q.elim
  | some sl =>
    rw [e] at q
    have a := s.sl i sl e
    cases sl with
    | un => exact q.elim
    | dat d => obtain ⟨v, e1, e2⟩ := a; exact ⟨v, e1, q v H F M s .refl e2⟩
    | own l => obtain ⟨e1, e2⟩ := a; exact ⟨_, e1, q _ H F M s .refl ⟨e, rfl⟩⟩
    | wref k => obtain ⟨m, e1, e2⟩ := a; exact ⟨_, e2, q _ H F M s .refl ⟨m, e1, rfl⟩⟩
    | exn x => exact q.elim
theorem je_const {e : Expr} {v : V} {d : D} (h : PE X e (tC v)) (r : ∀ F, Rp X.K F v d) : JE X T Wi e (dC d) := by
  refine h.impD fun σ H Q q => ?_
  obtain ⟨B, env, w, F, O, M, s, q⟩ := q
  exact q v H F M s .refl (r F)
theorem je_int {i j} : JE X T Wi (.Constant (.int i) j pos) (dC (.int i)) := je_const pe_int fun _ => .int i
theorem je_bl {b j} : JE X T Wi (.Constant (.bool b) j pos) (dC (.bl b)) := je_const pe_bl fun _ => .bl b
theorem je_non {j} : JE X T Wi (.Constant .none j pos) (dC .non) := je_const pe_non fun _ => .non
theorem je_str {x j} (h : SOk x := by exact ⟨by decide +kernel, by decide +kernel⟩) : JE X T Wi (.Constant (.str x) j pos) (dC (.str x)) := je_const pe_str fun _ => .str x h
end
def OpS (X : Cx) (f : Value → Value → Sem Value) (g : D → D → Option RV) : Prop :=
  ∃ r : R2, OpR X f r ∧ ∀ x y d e rv H F, Same F H → NoTbl F → Rv X.K F H x d → Rv X.K F H y e → g d e = some rv → ∀ Q : VK, (∀ v H' F', Xt H F H' F' → rv.newAt X.K H H' F' v → Q v H') → r x y H Q
def vals2 (g : D → D → Option RV) (a b : RV) : Option RV := match a.val, b.val with
  | some x, some y => g x y
  | _, _ => none
def dBin (g : D → D → Option RV) (a b : Ex) : Ex := fun env w => (a env w).bind fun ra w1 => (b env w1).bind fun rb w2 => lift (vals2 g ra rb) w2
theorem vals2_some {g : D → D → Option RV} {a b : RV} {r : RV} (h : vals2 g a b = some r) : ∃ x y, a.val = some x ∧ b.val = some y ∧ g x y = some r := by
  unfold vals2 at h
  cases ea : a.val with
  | none => rw [ea] at h; cases h
  | some x =>
    cases eb : b.val with
    | none => rw [ea, eb] at h; cases h
    | some y => rw [ea, eb] at h; exact ⟨x, y, rfl, rfl, h⟩
section
variable {X : Cx} {T : Tbs} {Wi : WX} {pos : Pos} {a b : Expr} {da db : Ex}
theorem op_read {f : Value → Value → Sem Value} {g : D → D → Option RV} {r : R2} (hr : ∀ x y d e rv H F, Same F H → NoTbl F → Rv X.K F H x d → Rv X.K F H y e → g d e = some rv → ∀ Q : VK, (∀ v H' F', Xt H F H' F' → rv.newAt X.K H H' F' v → Q v H') → r x y H Q)
    {σ : St} {H : Hp} {Q : VK} (q : tD (Cx.tx X T) Wi (dBin g da db) σ H Q) : tOp r (tD (Cx.tx X T) Wi da) (tD (Cx.tx X T) Wi db) σ H Q := by
  obtain ⟨B, env, w, F, O, M, s, q⟩ := q
  refine ⟨B, env, w, F, O, M, s, q.bind.imp fun ra w1 q1 x H1 F1 M1 s1 st1 r1 => ?_⟩
  refine ⟨B, env, w1, F1, O, M1, s1, q1.bind.imp fun rb w2 q2 y H2 F2 M2 s2 st2 r2 => ?_⟩
  obtain ⟨rv, e, q3⟩ := q2.lift
  obtain ⟨d, e', ea, eb, eg⟩ := vals2_some e
  refine hr x y d e' rv H2 F2 s2.fh s2.nt (RV.rv s2 (RV.step r1 st2) ea) (RV.rv s2 r2 eb) eg Q fun v H' F' xt nw => ?_
  exact q3 v H' F' M2 (s2.xt xt) ((st1.trans st2).trans xt.stp) (RV.of_new nw s2 (st1.trans st2).th)
theorem je_bin {op : Operator} {g : D → D → Option RV} (h : OpS X (binaryOp op) g) (ha : JE X T Wi a da) (hb : JE X T Wi b db) : JE X T Wi (.BinOp a op b pos) (dBin g da db) := by
  obtain ⟨r, ho, hr⟩ := h
  exact (pe_op ho ha hb).impD fun σ H Q q => op_read (f := binaryOp op) hr q
theorem je_cmp {op : CmpOp} {g : D → D → Option RV} (h : OpS X (compareOp op) g) (ha : JE X T Wi a da) (hb : JE X T Wi b db) (hm : behindInMarks op b = false := by first | exact nomark _ | rfl) : JE X T Wi (.Compare a [op] [b] pos) (dBin g da db) := by
  obtain ⟨r, ho, hr⟩ := h
  exact (pe_cmpR ho ha hb hm).impD fun σ H Q q => op_read (f := compareOp op) hr q
end
theorem new_val {K : PySem.W.Frag} {F H : Hp} {v : V} {d : D} {Q : VK} (fh : Same F H) (nt : NoTbl F) (q : ∀ v H' F', Xt H F H' F' → (RV.dat d).newAt K H H' F' v → Q v H') (h : Rp K F v d) : Q v H := q v H F (Xt.refl fh nt) h
theorem new_lst {K : PySem.W.Frag} {F H : Hp} {l : List D} {vs : List V} {p : Addr} {Q : VK} (fh : Same F H) (nt : NoTbl F) (q : ∀ v H' F', Xt H F H' F' → (RV.fresh l).newAt K H H' F' v → Q v H') (hp : H p = none) (hz : l.length ≤ sizeLine) (h : Paired (Rp K F) vs l) : Q (.ref p) (upd H p (.lst vs)) :=
  q _ _ F (Xt.newL fh nt hp) ⟨hz, p, vs, rfl, hp, fh.free hp, upd_same, h⟩
theorem new_tup {K : PySem.W.Frag} {F H : Hp} {l : List D} {vs : List V} {p : Addr} {Q : VK} (fh : Same F H) (nt : NoTbl F) (q : ∀ v H' F', Xt H F H' F' → (RV.dat (.tup l)).newAt K H H' F' v → Q v H') (hp : H p = none) (hz : l.length ≤ sizeLine) (h : Paired (Rp K F) vs l) : Q (.ref p) (upd H p (.tup vs)) := by
  have x : Xt H F (upd H p (.tup vs)) (upd F p (.tup vs)) := Xt.newF fh nt hp (fun _ z => by cases z)
  exact q _ _ _ x (Rp.tup hz (SqT.of upd_same) (Rp.monoAll x.ff _ _ h))
def mulOk (i j : Int) : Bool := (decide (i.natAbs < 2 ^ 64) || decide (j.natAbs < 2 ^ 64)) || decide (i.natAbs.log2 + j.natAbs.log2 < 900000)
def gAdd : D → D → Option RV
  | .int i, .int j => some (.dat (.int (i + j)))
  | .str s, .str t => if s.length + t.length ≤ sizeLine then some (.dat (.str (s ++ t))) else none
  | .tup k, .tup l => if k.length + l.length ≤ sizeLine then some (.dat (.tup (k ++ l))) else none
  | .lst k, .lst l => if k.length + l.length ≤ sizeLine then some (.fresh (k ++ l)) else none
  | _, _ => none
def gSub : D → D → Option RV
  | .int i, .int j => some (.dat (.int (i - j)))
  | _, _ => none
def gMul : D → D → Option RV
  | .int i, .int j => if mulOk i j then some (.dat (.int (i * j))) else none
  | _, _ => none
def gFdiv : D → D → Option RV
  | .int i, .int j => if 0 < j ∧ (j < 1073741824 ∨ j.natAbs.log2 < 8990) then some (.dat (.int (i / j))) else none
  | _, _ => none
def gMod : D → D → Option RV
  | .int i, .int j => if 0 < j then some (.dat (.int (i % j))) else none
  | _, _ => none
def gPow : D → D → Option RV
  | .int i, .int j => if 0 ≤ j ∧ j ≤ 1000000 ∧ i.natAbs < 2 ^ 64 then some (.dat (.int (i ^ j.toNat))) else none
  | _, _ => none
theorem str_len_app (s t : Str) : (s ++ t).length = s.length + t.length := by
  show (s.cps ++ t.cps).size = _
  rw [Array.size_append]
  rfl
theorem sOk_app {s t : Str} (h1 : SOk s) (h2 : SOk t) (hz : s.length + t.length ≤ sizeLine) : SOk (s ++ t) := by
  refine ⟨?_, by rw [str_len_app]; exact hz⟩
  obtain ⟨h1, _⟩ := h1
  obtain ⟨h2, _⟩ := h2
  unfold PyData.strOk at *
  show (Array.all (s.cps ++ t.cps) fun c => decide (c < 0x110000)) = true
  rw [Array.all_append, h1, h2]
  rfl
section
variable {X : Cx}
theorem os_sub : OpS X (binaryOp .Sub) gSub := by
  refine ⟨_, op_sub, fun x y d e rv H F fh nt rx ry h Q q => ?_⟩
  cases d <;> cases e <;> first | (simp only [gSub] at h; cases h; done) | skip
  simp only [gSub, Option.some.injEq] at h; subst h
  cases rx; cases ry
  exact ⟨_, _, rfl, rfl, new_val fh nt q (.int _)⟩
theorem os_mod : OpS X (binaryOp .Mod) gMod := by
  refine ⟨_, op_mod, fun x y d e rv H F fh nt rx ry h Q q => ?_⟩
  cases d <;> cases e <;> first | (simp only [gMod] at h; cases h; done) | skip
  simp only [gMod] at h
  split at h
  · rename_i hc
    simp only [Option.some.injEq] at h; subst h
    cases rx; cases ry
    exact ⟨_, _, rfl, rfl, hc, new_val fh nt q (.int _)⟩
  · cases h
theorem os_pow : OpS X (binaryOp .Pow) gPow := by
  refine ⟨_, op_pow, fun x y d e rv H F fh nt rx ry h Q q => ?_⟩
  cases d <;> cases e <;> first | (simp only [gPow] at h; cases h; done) | skip
  simp only [gPow] at h
  split at h
  · rename_i hc
    simp only [Option.some.injEq] at h; subst h
    cases rx; cases ry
    exact ⟨_, _, rfl, rfl, hc, new_val fh nt q (.int _)⟩
  · cases h
theorem os_fdiv : OpS X (binaryOp .FloorDiv) gFdiv := by
  refine ⟨_, op_fdiv.or op_fdivW, fun x y d e rv H F fh nt rx ry h Q q => ?_⟩
  cases d <;> cases e <;> first | (simp only [gFdiv] at h; cases h; done) | skip
  simp only [gFdiv] at h
  split at h
  · rename_i hc
    simp only [Option.some.injEq] at h; subst h
    cases rx; cases ry
    obtain ⟨h0, h1 | h1⟩ := hc
    · exact .inl ⟨_, _, rfl, rfl, ⟨h0, h1⟩, new_val fh nt q (.int _)⟩
    · exact .inr ⟨_, _, rfl, rfl, ⟨h0, by omega⟩, new_val fh nt q (.int _)⟩
  · cases h
theorem os_mul : OpS X (binaryOp .Mult) gMul := by
  refine ⟨_, op_mul.or op_mulW, fun x y d e rv H F fh nt rx ry h Q q => ?_⟩
  cases d <;> cases e <;> first | (simp only [gMul] at h; cases h; done) | skip
  simp only [gMul] at h
  split at h
  · rename_i hc
    simp only [Option.some.injEq] at h; subst h
    cases rx; cases ry
    unfold mulOk at hc
    simp only [Bool.or_eq_true, decide_eq_true_eq] at hc
    rcases hc with (hc | hc) | hc
    · exact .inl ⟨_, _, rfl, rfl, .inl (by omega), new_val fh nt q (.int _)⟩
    · exact .inl ⟨_, _, rfl, rfl, .inr (by omega), new_val fh nt q (.int _)⟩
    · exact .inr ⟨_, _, rfl, rfl, (by unfold CMulW; omega), new_val fh nt q (.int _)⟩
  · cases h
end
end Dl
namespace Dl
open PySem PySem.Spec PyProof.Rows L2 NdefX
namespace Em
open PySem.SeqAt MeetsSeq AutoSeq1
abbrev dO (dd : Option Addr) (es : Array DictEntry) (n : Nat) (sl : Array (Option Value)) : Obj := { cls := .type "dict", dict := dd, data := .dict es n, slots := sl }
abbrev sO (t : String) (de : Option Addr) (zs : Array Value) (m : Nat) (sm : Array (Option Value)) : Obj := { cls := .type t, dict := de, data := .seq zs m, slots := sm }
theorem deq_none (p : Addr) (es : Array DictEntry) (n : Nat) (dd : Option Addr) (sl : Array (Option Value)) :
    Meets (Builtin.«dict.__eq__» ⟨[.ref p, .none], []⟩) (fun _ R s => s.heap.get? p = some (dO dd es n sl) ∧ R (.ok (.ret .notImplemented)) s) :=
  .of_wp fun prog w A R s h => by obtain ⟨hp, g, d, tk, os⟩ := s; obtain ⟨h1, h⟩ := h; have f1 := F.sub_NoneType_dict; wp_walk using wpAny_loadPart' h1; exact ⟨_, rfl, h⟩
theorem noneeq_d (p : Addr) (es : Array DictEntry) (n : Nat) (dd : Option Addr) (sl : Array (Option Value)) :
    Meets (Builtin.«NoneType.__eq__» ⟨[.none, .ref p], []⟩) (fun _ R s => s.heap.get? p = some (dO dd es n sl) ∧ R (.ok (.ret .notImplemented)) s) :=
  .of_wp fun prog w A R s h => by obtain ⟨hp, g, d, tk, os⟩ := s; obtain ⟨h1, h⟩ := h; wp_walk using wpAny_loadPart' h1, wpAny_load h1; exact ⟨_, rfl, h⟩
theorem deq_bool (p : Addr) (es : Array DictEntry) (n : Nat) (dd : Option Addr) (sl : Array (Option Value)) (y : Bool) :
    Meets (Builtin.«dict.__eq__» ⟨[.ref p, .bool y], []⟩) (fun _ R s => s.heap.get? p = some (dO dd es n sl) ∧ R (.ok (.ret .notImplemented)) s) :=
  .of_wp fun prog w A R s h => by obtain ⟨hp, g, d, tk, os⟩ := s; obtain ⟨h1, h⟩ := h; have f1 := F.sub_bool_dict; wp_walk using wpAny_loadPart' h1; exact ⟨_, rfl, h⟩
theorem booleq_d (p : Addr) (es : Array DictEntry) (n : Nat) (dd : Option Addr) (sl : Array (Option Value)) (y : Bool) :
    Meets (Builtin.«int.__eq__» ⟨[.bool y, .ref p], []⟩) (fun _ R s => s.heap.get? p = some (dO dd es n sl) ∧ R (.ok (.ret .notImplemented)) s) :=
  .of_wp fun prog w A R s h => by obtain ⟨hp, g, d, tk, os⟩ := s; obtain ⟨h1, h⟩ := h; wp_walk using wpAny_loadPart' h1, wpAny_load h1; exact ⟨_, rfl, h⟩
theorem deq_int (p : Addr) (es : Array DictEntry) (n : Nat) (dd : Option Addr) (sl : Array (Option Value)) (y : Int) (yt : Tok) :
    Meets (Builtin.«dict.__eq__» ⟨[.ref p, .int y yt], []⟩) (fun _ R s => s.heap.get? p = some (dO dd es n sl) ∧ R (.ok (.ret .notImplemented)) s) :=
  .of_wp fun prog w A R s h => by obtain ⟨hp, g, d, tk, os⟩ := s; obtain ⟨h1, h⟩ := h; have f1 := F.sub_int_dict; wp_walk using wpAny_loadPart' h1; exact ⟨_, rfl, h⟩
theorem inteq_d (p : Addr) (es : Array DictEntry) (n : Nat) (dd : Option Addr) (sl : Array (Option Value)) (y : Int) (yt : Tok) :
    Meets (Builtin.«int.__eq__» ⟨[.int y yt, .ref p], []⟩) (fun _ R s => s.heap.get? p = some (dO dd es n sl) ∧ R (.ok (.ret .notImplemented)) s) :=
  .of_wp fun prog w A R s h => by obtain ⟨hp, g, d, tk, os⟩ := s; obtain ⟨h1, h⟩ := h; wp_walk using wpAny_loadPart' h1, wpAny_load h1; exact ⟨_, rfl, h⟩
theorem deq_str (p : Addr) (es : Array DictEntry) (n : Nat) (dd : Option Addr) (sl : Array (Option Value)) (y : Str) (yt : Tok) :
    Meets (Builtin.«dict.__eq__» ⟨[.ref p, .str y yt], []⟩) (fun _ R s => s.heap.get? p = some (dO dd es n sl) ∧ R (.ok (.ret .notImplemented)) s) :=
  .of_wp fun prog w A R s h => by obtain ⟨hp, g, d, tk, os⟩ := s; obtain ⟨h1, h⟩ := h; have f1 := F.sub_str_dict; wp_walk using wpAny_loadPart' h1; exact ⟨_, rfl, h⟩
theorem streq_d (p : Addr) (es : Array DictEntry) (n : Nat) (dd : Option Addr) (sl : Array (Option Value)) (y : Str) (yt : Tok) :
    Meets (Builtin.«str.__eq__» ⟨[.str y yt, .ref p], []⟩) (fun _ R s => s.heap.get? p = some (dO dd es n sl) ∧ R (.ok (.ret .notImplemented)) s) :=
  .of_wp fun prog w A R s h => by obtain ⟨hp, g, d, tk, os⟩ := s; obtain ⟨h1, h⟩ := h; wp_walk using wpAny_loadPart' h1, wpAny_load h1; exact ⟨_, rfl, h⟩
theorem deq_list (p : Addr) (es : Array DictEntry) (n : Nat) (dd : Option Addr) (sl : Array (Option Value)) (q : Addr) (zs : Array Value) (m : Nat) (de : Option Addr) (sm : Array (Option Value)) :
    Meets (Builtin.«dict.__eq__» ⟨[.ref p, .ref q], []⟩) (fun _ R s => s.heap.get? p = some (dO dd es n sl) ∧ s.heap.get? q = some (sO "list" de zs m sm) ∧ R (.ok (.ret .notImplemented)) s) :=
  .of_wp fun prog w A R s h => by obtain ⟨hp, g, d, tk, os⟩ := s; obtain ⟨h1, h2, h⟩ := h; have f1 := F.sub_list_dict; wp_walk using wpAny_loadPart' h1, wpAny_loadPart' h2; exact ⟨_, rfl, h⟩
theorem listeq_d (p : Addr) (es : Array DictEntry) (n : Nat) (dd : Option Addr) (sl : Array (Option Value)) (q : Addr) (zs : Array Value) (m : Nat) (de : Option Addr) (sm : Array (Option Value)) :
    Meets (Builtin.«list.__eq__» ⟨[.ref q, .ref p], []⟩) (fun _ R s => s.heap.get? p = some (dO dd es n sl) ∧ s.heap.get? q = some (sO "list" de zs m sm) ∧ R (.ok (.ret .notImplemented)) s) :=
  .of_wp fun prog w A R s h => by obtain ⟨hp, g, d, tk, os⟩ := s; obtain ⟨h1, h2, h⟩ := h; have f1 := F.sub_dict_list; wp_walk using wpAny_loadPart' h1, wpAny_load h1, wpAny_loadPart' h2; exact ⟨_, rfl, h⟩
theorem deq_tuple (p : Addr) (es : Array DictEntry) (n : Nat) (dd : Option Addr) (sl : Array (Option Value)) (q : Addr) (zs : Array Value) (m : Nat) (de : Option Addr) (sm : Array (Option Value)) :
    Meets (Builtin.«dict.__eq__» ⟨[.ref p, .ref q], []⟩) (fun _ R s => s.heap.get? p = some (dO dd es n sl) ∧ s.heap.get? q = some (sO "tuple" de zs m sm) ∧ R (.ok (.ret .notImplemented)) s) :=
  .of_wp fun prog w A R s h => by obtain ⟨hp, g, d, tk, os⟩ := s; obtain ⟨h1, h2, h⟩ := h; have f1 := F.sub_tuple_dict; wp_walk using wpAny_loadPart' h1, wpAny_loadPart' h2; exact ⟨_, rfl, h⟩
theorem tupleeq_d (p : Addr) (es : Array DictEntry) (n : Nat) (dd : Option Addr) (sl : Array (Option Value)) (q : Addr) (zs : Array Value) (m : Nat) (de : Option Addr) (sm : Array (Option Value)) :
    Meets (Builtin.«tuple.__eq__» ⟨[.ref q, .ref p], []⟩) (fun _ R s => s.heap.get? p = some (dO dd es n sl) ∧ s.heap.get? q = some (sO "tuple" de zs m sm) ∧ R (.ok (.ret .notImplemented)) s) :=
  .of_wp fun prog w A R s h => by obtain ⟨hp, g, d, tk, os⟩ := s; obtain ⟨h1, h2, h⟩ := h; have f1 := F.sub_dict_tuple; wp_walk using wpAny_loadPart' h1, wpAny_load h1, wpAny_loadPart' h2; exact ⟨_, rfl, h⟩
theorem dne_none (p : Addr) (es : Array DictEntry) (n : Nat) (dd : Option Addr) (sl : Array (Option Value)) :
    Meets (Builtin.«dict.__ne__» ⟨[.ref p, .none], []⟩) (fun _ R s => s.heap.get? p = some (dO dd es n sl) ∧ R (.ok (.ret .notImplemented)) s) :=
  .of_wp fun prog w A R s h => by obtain ⟨hp, g, d, tk, os⟩ := s; obtain ⟨h1, h⟩ := h; have f1 := F.sub_NoneType_dict; wp_walk using wpAny_loadPart' h1; exact ⟨_, rfl, h⟩
theorem nonene_d (p : Addr) (es : Array DictEntry) (n : Nat) (dd : Option Addr) (sl : Array (Option Value)) :
    Meets (Builtin.«NoneType.__ne__» ⟨[.none, .ref p], []⟩) (fun _ R s => s.heap.get? p = some (dO dd es n sl) ∧ R (.ok (.ret .notImplemented)) s) :=
  .of_wp fun prog w A R s h => by obtain ⟨hp, g, d, tk, os⟩ := s; obtain ⟨h1, h⟩ := h; wp_walk using wpAny_loadPart' h1, wpAny_load h1; exact ⟨_, rfl, h⟩
theorem dne_bool (p : Addr) (es : Array DictEntry) (n : Nat) (dd : Option Addr) (sl : Array (Option Value)) (y : Bool) :
    Meets (Builtin.«dict.__ne__» ⟨[.ref p, .bool y], []⟩) (fun _ R s => s.heap.get? p = some (dO dd es n sl) ∧ R (.ok (.ret .notImplemented)) s) :=
  .of_wp fun prog w A R s h => by obtain ⟨hp, g, d, tk, os⟩ := s; obtain ⟨h1, h⟩ := h; have f1 := F.sub_bool_dict; wp_walk using wpAny_loadPart' h1; exact ⟨_, rfl, h⟩
theorem boolne_d (p : Addr) (es : Array DictEntry) (n : Nat) (dd : Option Addr) (sl : Array (Option Value)) (y : Bool) :
    Meets (Builtin.«int.__ne__» ⟨[.bool y, .ref p], []⟩) (fun _ R s => s.heap.get? p = some (dO dd es n sl) ∧ R (.ok (.ret .notImplemented)) s) :=
  .of_wp fun prog w A R s h => by obtain ⟨hp, g, d, tk, os⟩ := s; obtain ⟨h1, h⟩ := h; wp_walk using wpAny_loadPart' h1, wpAny_load h1; exact ⟨_, rfl, h⟩
theorem dne_int (p : Addr) (es : Array DictEntry) (n : Nat) (dd : Option Addr) (sl : Array (Option Value)) (y : Int) (yt : Tok) :
    Meets (Builtin.«dict.__ne__» ⟨[.ref p, .int y yt], []⟩) (fun _ R s => s.heap.get? p = some (dO dd es n sl) ∧ R (.ok (.ret .notImplemented)) s) :=
  .of_wp fun prog w A R s h => by obtain ⟨hp, g, d, tk, os⟩ := s; obtain ⟨h1, h⟩ := h; have f1 := F.sub_int_dict; wp_walk using wpAny_loadPart' h1; exact ⟨_, rfl, h⟩
theorem intne_d (p : Addr) (es : Array DictEntry) (n : Nat) (dd : Option Addr) (sl : Array (Option Value)) (y : Int) (yt : Tok) :
    Meets (Builtin.«int.__ne__» ⟨[.int y yt, .ref p], []⟩) (fun _ R s => s.heap.get? p = some (dO dd es n sl) ∧ R (.ok (.ret .notImplemented)) s) :=
  .of_wp fun prog w A R s h => by obtain ⟨hp, g, d, tk, os⟩ := s; obtain ⟨h1, h⟩ := h; wp_walk using wpAny_loadPart' h1, wpAny_load h1; exact ⟨_, rfl, h⟩
theorem dne_str (p : Addr) (es : Array DictEntry) (n : Nat) (dd : Option Addr) (sl : Array (Option Value)) (y : Str) (yt : Tok) :
    Meets (Builtin.«dict.__ne__» ⟨[.ref p, .str y yt], []⟩) (fun _ R s => s.heap.get? p = some (dO dd es n sl) ∧ R (.ok (.ret .notImplemented)) s) :=
  .of_wp fun prog w A R s h => by obtain ⟨hp, g, d, tk, os⟩ := s; obtain ⟨h1, h⟩ := h; have f1 := F.sub_str_dict; wp_walk using wpAny_loadPart' h1; exact ⟨_, rfl, h⟩
theorem strne_d (p : Addr) (es : Array DictEntry) (n : Nat) (dd : Option Addr) (sl : Array (Option Value)) (y : Str) (yt : Tok) :
    Meets (Builtin.«str.__ne__» ⟨[.str y yt, .ref p], []⟩) (fun _ R s => s.heap.get? p = some (dO dd es n sl) ∧ R (.ok (.ret .notImplemented)) s) :=
  .of_wp fun prog w A R s h => by obtain ⟨hp, g, d, tk, os⟩ := s; obtain ⟨h1, h⟩ := h; wp_walk using wpAny_loadPart' h1, wpAny_load h1; exact ⟨_, rfl, h⟩
theorem dne_list (p : Addr) (es : Array DictEntry) (n : Nat) (dd : Option Addr) (sl : Array (Option Value)) (q : Addr) (zs : Array Value) (m : Nat) (de : Option Addr) (sm : Array (Option Value)) :
    Meets (Builtin.«dict.__ne__» ⟨[.ref p, .ref q], []⟩) (fun _ R s => s.heap.get? p = some (dO dd es n sl) ∧ s.heap.get? q = some (sO "list" de zs m sm) ∧ R (.ok (.ret .notImplemented)) s) :=
  .of_wp fun prog w A R s h => by obtain ⟨hp, g, d, tk, os⟩ := s; obtain ⟨h1, h2, h⟩ := h; have f1 := F.sub_list_dict; wp_walk using wpAny_loadPart' h1, wpAny_loadPart' h2; exact ⟨_, rfl, h⟩
theorem listne_d (p : Addr) (es : Array DictEntry) (n : Nat) (dd : Option Addr) (sl : Array (Option Value)) (q : Addr) (zs : Array Value) (m : Nat) (de : Option Addr) (sm : Array (Option Value)) :
    Meets (Builtin.«list.__ne__» ⟨[.ref q, .ref p], []⟩) (fun _ R s => s.heap.get? p = some (dO dd es n sl) ∧ s.heap.get? q = some (sO "list" de zs m sm) ∧ R (.ok (.ret .notImplemented)) s) :=
  .of_wp fun prog w A R s h => by obtain ⟨hp, g, d, tk, os⟩ := s; obtain ⟨h1, h2, h⟩ := h; have f1 := F.sub_dict_list; wp_walk using wpAny_loadPart' h1, wpAny_load h1, wpAny_loadPart' h2; exact ⟨_, rfl, h⟩
theorem dne_tuple (p : Addr) (es : Array DictEntry) (n : Nat) (dd : Option Addr) (sl : Array (Option Value)) (q : Addr) (zs : Array Value) (m : Nat) (de : Option Addr) (sm : Array (Option Value)) :
    Meets (Builtin.«dict.__ne__» ⟨[.ref p, .ref q], []⟩) (fun _ R s => s.heap.get? p = some (dO dd es n sl) ∧ s.heap.get? q = some (sO "tuple" de zs m sm) ∧ R (.ok (.ret .notImplemented)) s) :=
  .of_wp fun prog w A R s h => by obtain ⟨hp, g, d, tk, os⟩ := s; obtain ⟨h1, h2, h⟩ := h; have f1 := F.sub_tuple_dict; wp_walk using wpAny_loadPart' h1, wpAny_loadPart' h2; exact ⟨_, rfl, h⟩
theorem tuplene_d (p : Addr) (es : Array DictEntry) (n : Nat) (dd : Option Addr) (sl : Array (Option Value)) (q : Addr) (zs : Array Value) (m : Nat) (de : Option Addr) (sm : Array (Option Value)) :
    Meets (Builtin.«tuple.__ne__» ⟨[.ref q, .ref p], []⟩) (fun _ R s => s.heap.get? p = some (dO dd es n sl) ∧ s.heap.get? q = some (sO "tuple" de zs m sm) ∧ R (.ok (.ret .notImplemented)) s) :=
  .of_wp fun prog w A R s h => by obtain ⟨hp, g, d, tk, os⟩ := s; obtain ⟨h1, h2, h⟩ := h; have f1 := F.sub_dict_tuple; wp_walk using wpAny_loadPart' h1, wpAny_load h1, wpAny_loadPart' h2; exact ⟨_, rfl, h⟩
def IsD (h : Heap) (p : Addr) : Prop := ∃ dd es n sl, h.get? p = some (dO dd es n sl)
section
variable {A : Around} {s : Shared}
theorem RcAt_d_none {p : Addr} (hp : IsD s.heap p) (hu : A.units < cLine) : RcAt A s (.ref p) (.none) false := fun prog w E Q h => by
  obtain ⟨dd, es, n, sl, hd⟩ := hp
  exact rc_eq_decline_or (k := false) ⟨_, hd, rfl⟩ rfl (by decide) F.sub_NoneType_dict F.slot_dict_eq F.slot_NoneType_eq_refl
    (fun _ h5 => call_meets F.slot_dict_eq ⟨_, hd, rfl⟩ F.entry_dict_eq (F.args_dict_eq_2 _ _) (deq_none p es n dd sl) ⟨hd, h5⟩)
    (fun _ h5 => call_meets F.slot_NoneType_eq_refl rfl F.entry_NoneType_eq (F.args_NoneType_eq_2 _ _) (noneeq_d p es n dd sl) ⟨hd, h5⟩)
    (fun _ h5 => wpAny_of_eq (rfl : isSame (.ref p) (.none) = pure false) h5) (.inr hu) h
theorem RcAt_none_d {p : Addr} (hp : IsD s.heap p) (hu : A.units < cLine) : RcAt A s (.none) (.ref p) false := fun prog w E Q h => by
  obtain ⟨dd, es, n, sl, hd⟩ := hp
  exact rc_eq_decline_or (k := false) rfl ⟨_, hd, rfl⟩ (by decide) F.sub_dict_NoneType F.slot_NoneType_eq F.slot_dict_eq_refl
    (fun _ h5 => call_meets F.slot_NoneType_eq rfl F.entry_NoneType_eq (F.args_NoneType_eq_2 _ _) (noneeq_d p es n dd sl) ⟨hd, h5⟩)
    (fun _ h5 => call_meets F.slot_dict_eq_refl ⟨_, hd, rfl⟩ F.entry_dict_eq (F.args_dict_eq_2 _ _) (deq_none p es n dd sl) ⟨hd, h5⟩)
    (fun _ h5 => wpAny_of_eq (rfl : isSame (.none) (.ref p) = pure false) h5) (.inr hu) h
theorem RcAt_d_bool {p : Addr} (y : Bool) (hp : IsD s.heap p) (hu : A.units < cLine) : RcAt A s (.ref p) (.bool y) false := fun prog w E Q h => by
  obtain ⟨dd, es, n, sl, hd⟩ := hp
  exact rc_eq_decline_or (k := false) ⟨_, hd, rfl⟩ rfl (by decide) F.sub_bool_dict F.slot_dict_eq F.slot_bool_eq_refl
    (fun _ h5 => call_meets F.slot_dict_eq ⟨_, hd, rfl⟩ F.entry_dict_eq (F.args_dict_eq_2 _ _) (deq_bool p es n dd sl y) ⟨hd, h5⟩)
    (fun _ h5 => call_meets F.slot_bool_eq_refl rfl F.entry_int_eq (F.args_int_eq_2 _ _) (booleq_d p es n dd sl y) ⟨hd, h5⟩)
    (fun _ h5 => wpAny_of_eq (rfl : isSame (.ref p) (.bool y) = pure false) h5) (.inr hu) h
theorem RcAt_bool_d {p : Addr} (y : Bool) (hp : IsD s.heap p) (hu : A.units < cLine) : RcAt A s (.bool y) (.ref p) false := fun prog w E Q h => by
  obtain ⟨dd, es, n, sl, hd⟩ := hp
  exact rc_eq_decline_or (k := false) rfl ⟨_, hd, rfl⟩ (by decide) F.sub_dict_bool F.slot_bool_eq F.slot_dict_eq_refl
    (fun _ h5 => call_meets F.slot_bool_eq rfl F.entry_int_eq (F.args_int_eq_2 _ _) (booleq_d p es n dd sl y) ⟨hd, h5⟩)
    (fun _ h5 => call_meets F.slot_dict_eq_refl ⟨_, hd, rfl⟩ F.entry_dict_eq (F.args_dict_eq_2 _ _) (deq_bool p es n dd sl y) ⟨hd, h5⟩)
    (fun _ h5 => wpAny_of_eq (rfl : isSame (.bool y) (.ref p) = pure false) h5) (.inr hu) h
theorem RcAt_d_int {p : Addr} (y : Int) (yt : Tok) (hp : IsD s.heap p) (hu : A.units < cLine) : RcAt A s (.ref p) (.int y yt) false := fun prog w E Q h => by
  obtain ⟨dd, es, n, sl, hd⟩ := hp
  exact rc_eq_decline_or (k := false) ⟨_, hd, rfl⟩ (typeIs_int s y yt) (by decide) F.sub_int_dict F.slot_dict_eq F.slot_int_eq_refl
    (fun _ h5 => call_meets F.slot_dict_eq ⟨_, hd, rfl⟩ F.entry_dict_eq (F.args_dict_eq_2 _ _) (deq_int p es n dd sl y yt) ⟨hd, h5⟩)
    (fun _ h5 => call_meets F.slot_int_eq_refl (typeIs_int s y yt) F.entry_int_eq (F.args_int_eq_2 _ _) (inteq_d p es n dd sl y yt) ⟨hd, h5⟩)
    (fun _ h5 => wpAny_of_eq (rfl : isSame (.ref p) (.int y yt) = pure false) h5) (.inr hu) h
theorem RcAt_int_d {p : Addr} (y : Int) (yt : Tok) (hp : IsD s.heap p) (hu : A.units < cLine) : RcAt A s (.int y yt) (.ref p) false := fun prog w E Q h => by
  obtain ⟨dd, es, n, sl, hd⟩ := hp
  exact rc_eq_decline_or (k := false) (typeIs_int s y yt) ⟨_, hd, rfl⟩ (by decide) F.sub_dict_int F.slot_int_eq F.slot_dict_eq_refl
    (fun _ h5 => call_meets F.slot_int_eq (typeIs_int s y yt) F.entry_int_eq (F.args_int_eq_2 _ _) (inteq_d p es n dd sl y yt) ⟨hd, h5⟩)
    (fun _ h5 => call_meets F.slot_dict_eq_refl ⟨_, hd, rfl⟩ F.entry_dict_eq (F.args_dict_eq_2 _ _) (deq_int p es n dd sl y yt) ⟨hd, h5⟩)
    (fun _ h5 => wpAny_of_eq (rfl : isSame (.int y yt) (.ref p) = pure false) h5) (.inr hu) h
theorem RcAt_d_str {p : Addr} (y : Str) (yt : Tok) (hp : IsD s.heap p) (hu : A.units < cLine) : RcAt A s (.ref p) (.str y yt) false := fun prog w E Q h => by
  obtain ⟨dd, es, n, sl, hd⟩ := hp
  exact rc_eq_decline_or (k := false) ⟨_, hd, rfl⟩ (typeIs_str s y yt) (by decide) F.sub_str_dict F.slot_dict_eq F.slot_str_eq_refl
    (fun _ h5 => call_meets F.slot_dict_eq ⟨_, hd, rfl⟩ F.entry_dict_eq (F.args_dict_eq_2 _ _) (deq_str p es n dd sl y yt) ⟨hd, h5⟩)
    (fun _ h5 => call_meets F.slot_str_eq_refl (typeIs_str s y yt) F.entry_str_eq (F.args_str_eq_2 _ _) (streq_d p es n dd sl y yt) ⟨hd, h5⟩)
    (fun _ h5 => wpAny_of_eq (rfl : isSame (.ref p) (.str y yt) = pure false) h5) (.inr hu) h
theorem RcAt_str_d {p : Addr} (y : Str) (yt : Tok) (hp : IsD s.heap p) (hu : A.units < cLine) : RcAt A s (.str y yt) (.ref p) false := fun prog w E Q h => by
  obtain ⟨dd, es, n, sl, hd⟩ := hp
  exact rc_eq_decline_or (k := false) (typeIs_str s y yt) ⟨_, hd, rfl⟩ (by decide) F.sub_dict_str F.slot_str_eq F.slot_dict_eq_refl
    (fun _ h5 => call_meets F.slot_str_eq (typeIs_str s y yt) F.entry_str_eq (F.args_str_eq_2 _ _) (streq_d p es n dd sl y yt) ⟨hd, h5⟩)
    (fun _ h5 => call_meets F.slot_dict_eq_refl ⟨_, hd, rfl⟩ F.entry_dict_eq (F.args_dict_eq_2 _ _) (deq_str p es n dd sl y yt) ⟨hd, h5⟩)
    (fun _ h5 => wpAny_of_eq (rfl : isSame (.str y yt) (.ref p) = pure false) h5) (.inr hu) h
theorem RcAt_d_list {p : Addr} {q : Addr} {zs : Array Value} (hz : s.heap.IsList q zs) (hp : IsD s.heap p) (hu : A.units < cLine) : RcAt A s (.ref p) (.ref q) false := fun prog w E Q h => by
  obtain ⟨dd, es, n, sl, hd⟩ := hp
  have hpq : p ≠ q := fun e => by
    subst e
    obtain ⟨ob, e1, e2, _⟩ := hz
    rw [hd] at e1
    cases e1
    exact absurd (show (Value.type "dict") = .type "list" from e2) (by simp)
  obtain ⟨⟨cl, de, da, sm⟩, hq, hc, m, hm⟩ := id hz
  simp only at hc hm
  subst hc hm
  exact rc_eq_decline_or (k := false) ⟨_, hd, rfl⟩ ⟨_, hq, rfl⟩ (by decide) F.sub_list_dict F.slot_dict_eq F.slot_list_eq_refl
    (fun _ h5 => call_meets F.slot_dict_eq ⟨_, hd, rfl⟩ F.entry_dict_eq (F.args_dict_eq_2 _ _) (deq_list p es n dd sl q zs m de sm) ⟨hd, hq, h5⟩)
    (fun _ h5 => call_meets F.slot_list_eq_refl ⟨_, hq, rfl⟩ F.entry_list_eq (F.args_list_eq_2 _ _) (listeq_d p es n dd sl q zs m de sm) ⟨hd, hq, h5⟩)
    (fun _ h5 => wpAny_isSame_ref_other' hpq hd hq (by simp) h5) (.inr hu) h
theorem RcAt_list_d {p : Addr} {q : Addr} {zs : Array Value} (hz : s.heap.IsList q zs) (hp : IsD s.heap p) (hu : A.units < cLine) : RcAt A s (.ref q) (.ref p) false := fun prog w E Q h => by
  obtain ⟨dd, es, n, sl, hd⟩ := hp
  have hpq : p ≠ q := fun e => by
    subst e
    obtain ⟨ob, e1, e2, _⟩ := hz
    rw [hd] at e1
    cases e1
    exact absurd (show (Value.type "dict") = .type "list" from e2) (by simp)
  obtain ⟨⟨cl, de, da, sm⟩, hq, hc, m, hm⟩ := id hz
  simp only at hc hm
  subst hc hm
  exact rc_eq_decline_or (k := false) ⟨_, hq, rfl⟩ ⟨_, hd, rfl⟩ (by decide) F.sub_dict_list F.slot_list_eq F.slot_dict_eq_refl
    (fun _ h5 => call_meets F.slot_list_eq ⟨_, hq, rfl⟩ F.entry_list_eq (F.args_list_eq_2 _ _) (listeq_d p es n dd sl q zs m de sm) ⟨hd, hq, h5⟩)
    (fun _ h5 => call_meets F.slot_dict_eq_refl ⟨_, hd, rfl⟩ F.entry_dict_eq (F.args_dict_eq_2 _ _) (deq_list p es n dd sl q zs m de sm) ⟨hd, hq, h5⟩)
    (fun _ h5 => wpAny_isSame_ref_other' (Ne.symm hpq) hq hd (by simp) h5) (.inr hu) h
theorem RcAt_d_tuple {p : Addr} {q : Addr} {zs : Array Value} (hz : s.heap.IsTuple q zs) (hp : IsD s.heap p) (hu : A.units < cLine) : RcAt A s (.ref p) (.ref q) false := fun prog w E Q h => by
  obtain ⟨dd, es, n, sl, hd⟩ := hp
  have hpq : p ≠ q := fun e => by
    subst e
    obtain ⟨ob, e1, e2, _⟩ := hz
    rw [hd] at e1
    cases e1
    exact absurd (show (Value.type "dict") = .type "tuple" from e2) (by simp)
  obtain ⟨⟨cl, de, da, sm⟩, hq, hc, m, hm⟩ := id hz
  simp only at hc hm
  subst hc hm
  exact rc_eq_decline_or (k := false) ⟨_, hd, rfl⟩ ⟨_, hq, rfl⟩ (by decide) F.sub_tuple_dict F.slot_dict_eq F.slot_tuple_eq_refl
    (fun _ h5 => call_meets F.slot_dict_eq ⟨_, hd, rfl⟩ F.entry_dict_eq (F.args_dict_eq_2 _ _) (deq_tuple p es n dd sl q zs m de sm) ⟨hd, hq, h5⟩)
    (fun _ h5 => call_meets F.slot_tuple_eq_refl ⟨_, hq, rfl⟩ F.entry_tuple_eq (F.args_tuple_eq_2 _ _) (tupleeq_d p es n dd sl q zs m de sm) ⟨hd, hq, h5⟩)
    (fun _ h5 => wpAny_isSame_ref_other hpq hd hq (by simp) h5) (.inr hu) h
theorem RcAt_tuple_d {p : Addr} {q : Addr} {zs : Array Value} (hz : s.heap.IsTuple q zs) (hp : IsD s.heap p) (hu : A.units < cLine) : RcAt A s (.ref q) (.ref p) false := fun prog w E Q h => by
  obtain ⟨dd, es, n, sl, hd⟩ := hp
  have hpq : p ≠ q := fun e => by
    subst e
    obtain ⟨ob, e1, e2, _⟩ := hz
    rw [hd] at e1
    cases e1
    exact absurd (show (Value.type "dict") = .type "tuple" from e2) (by simp)
  obtain ⟨⟨cl, de, da, sm⟩, hq, hc, m, hm⟩ := id hz
  simp only at hc hm
  subst hc hm
  exact rc_eq_decline_or (k := false) ⟨_, hq, rfl⟩ ⟨_, hd, rfl⟩ (by decide) F.sub_dict_tuple F.slot_tuple_eq F.slot_dict_eq_refl
    (fun _ h5 => call_meets F.slot_tuple_eq ⟨_, hq, rfl⟩ F.entry_tuple_eq (F.args_tuple_eq_2 _ _) (tupleeq_d p es n dd sl q zs m de sm) ⟨hd, hq, h5⟩)
    (fun _ h5 => call_meets F.slot_dict_eq_refl ⟨_, hd, rfl⟩ F.entry_dict_eq (F.args_dict_eq_2 _ _) (deq_tuple p es n dd sl q zs m de sm) ⟨hd, hq, h5⟩)
    (fun _ h5 => wpAny_isSame_ref_other' (Ne.symm hpq) hq hd (by simp) h5) (.inr hu) h
theorem RcNeAt_d_none {p : Addr} (hp : IsD s.heap p) (hu : A.units < cLine) : RcNeAt A s (.ref p) (.none) true := fun prog w E Q h => by
  obtain ⟨dd, es, n, sl, hd⟩ := hp
  exact rc_ne_decline_or (k := false) ⟨_, hd, rfl⟩ rfl (by decide) F.sub_NoneType_dict F.slot_dict_ne F.slot_NoneType_ne_refl
    (fun _ h5 => call_meets F.slot_dict_ne ⟨_, hd, rfl⟩ F.entry_dict_ne (F.args_dict_ne_2 _ _) (dne_none p es n dd sl) ⟨hd, h5⟩)
    (fun _ h5 => call_meets F.slot_NoneType_ne_refl rfl F.entry_NoneType_ne (F.args_NoneType_ne_2 _ _) (nonene_d p es n dd sl) ⟨hd, h5⟩)
    (fun _ h5 => wpAny_of_eq (rfl : isSame (.ref p) (.none) = pure false) h5) (.inr hu) h
theorem RcNeAt_none_d {p : Addr} (hp : IsD s.heap p) (hu : A.units < cLine) : RcNeAt A s (.none) (.ref p) true := fun prog w E Q h => by
  obtain ⟨dd, es, n, sl, hd⟩ := hp
  exact rc_ne_decline_or (k := false) rfl ⟨_, hd, rfl⟩ (by decide) F.sub_dict_NoneType F.slot_NoneType_ne F.slot_dict_ne_refl
    (fun _ h5 => call_meets F.slot_NoneType_ne rfl F.entry_NoneType_ne (F.args_NoneType_ne_2 _ _) (nonene_d p es n dd sl) ⟨hd, h5⟩)
    (fun _ h5 => call_meets F.slot_dict_ne_refl ⟨_, hd, rfl⟩ F.entry_dict_ne (F.args_dict_ne_2 _ _) (dne_none p es n dd sl) ⟨hd, h5⟩)
    (fun _ h5 => wpAny_of_eq (rfl : isSame (.none) (.ref p) = pure false) h5) (.inr hu) h
theorem RcNeAt_d_bool {p : Addr} (y : Bool) (hp : IsD s.heap p) (hu : A.units < cLine) : RcNeAt A s (.ref p) (.bool y) true := fun prog w E Q h => by
  obtain ⟨dd, es, n, sl, hd⟩ := hp
  exact rc_ne_decline_or (k := false) ⟨_, hd, rfl⟩ rfl (by decide) F.sub_bool_dict F.slot_dict_ne F.slot_bool_ne_refl
    (fun _ h5 => call_meets F.slot_dict_ne ⟨_, hd, rfl⟩ F.entry_dict_ne (F.args_dict_ne_2 _ _) (dne_bool p es n dd sl y) ⟨hd, h5⟩)
    (fun _ h5 => call_meets F.slot_bool_ne_refl rfl F.entry_int_ne (F.args_int_ne_2 _ _) (boolne_d p es n dd sl y) ⟨hd, h5⟩)
    (fun _ h5 => wpAny_of_eq (rfl : isSame (.ref p) (.bool y) = pure false) h5) (.inr hu) h
theorem RcNeAt_bool_d {p : Addr} (y : Bool) (hp : IsD s.heap p) (hu : A.units < cLine) : RcNeAt A s (.bool y) (.ref p) true := fun prog w E Q h => by
  obtain ⟨dd, es, n, sl, hd⟩ := hp
  exact rc_ne_decline_or (k := false) rfl ⟨_, hd, rfl⟩ (by decide) F.sub_dict_bool F.slot_bool_ne F.slot_dict_ne_refl
    (fun _ h5 => call_meets F.slot_bool_ne rfl F.entry_int_ne (F.args_int_ne_2 _ _) (boolne_d p es n dd sl y) ⟨hd, h5⟩)
    (fun _ h5 => call_meets F.slot_dict_ne_refl ⟨_, hd, rfl⟩ F.entry_dict_ne (F.args_dict_ne_2 _ _) (dne_bool p es n dd sl y) ⟨hd, h5⟩)
    (fun _ h5 => wpAny_of_eq (rfl : isSame (.bool y) (.ref p) = pure false) h5) (.inr hu) h
theorem RcNeAt_d_int {p : Addr} (y : Int) (yt : Tok) (hp : IsD s.heap p) (hu : A.units < cLine) : RcNeAt A s (.ref p) (.int y yt) true := fun prog w E Q h => by
  obtain ⟨dd, es, n, sl, hd⟩ := hp
  exact rc_ne_decline_or (k := false) ⟨_, hd, rfl⟩ (typeIs_int s y yt) (by decide) F.sub_int_dict F.slot_dict_ne F.slot_int_ne_refl
    (fun _ h5 => call_meets F.slot_dict_ne ⟨_, hd, rfl⟩ F.entry_dict_ne (F.args_dict_ne_2 _ _) (dne_int p es n dd sl y yt) ⟨hd, h5⟩)
    (fun _ h5 => call_meets F.slot_int_ne_refl (typeIs_int s y yt) F.entry_int_ne (F.args_int_ne_2 _ _) (intne_d p es n dd sl y yt) ⟨hd, h5⟩)
    (fun _ h5 => wpAny_of_eq (rfl : isSame (.ref p) (.int y yt) = pure false) h5) (.inr hu) h
theorem RcNeAt_int_d {p : Addr} (y : Int) (yt : Tok) (hp : IsD s.heap p) (hu : A.units < cLine) : RcNeAt A s (.int y yt) (.ref p) true := fun prog w E Q h => by
  obtain ⟨dd, es, n, sl, hd⟩ := hp
  exact rc_ne_decline_or (k := false) (typeIs_int s y yt) ⟨_, hd, rfl⟩ (by decide) F.sub_dict_int F.slot_int_ne F.slot_dict_ne_refl
    (fun _ h5 => call_meets F.slot_int_ne (typeIs_int s y yt) F.entry_int_ne (F.args_int_ne_2 _ _) (intne_d p es n dd sl y yt) ⟨hd, h5⟩)
    (fun _ h5 => call_meets F.slot_dict_ne_refl ⟨_, hd, rfl⟩ F.entry_dict_ne (F.args_dict_ne_2 _ _) (dne_int p es n dd sl y yt) ⟨hd, h5⟩)
    (fun _ h5 => wpAny_of_eq (rfl : isSame (.int y yt) (.ref p) = pure false) h5) (.inr hu) h
theorem RcNeAt_d_str {p : Addr} (y : Str) (yt : Tok) (hp : IsD s.heap p) (hu : A.units < cLine) : RcNeAt A s (.ref p) (.str y yt) true := fun prog w E Q h => by
  obtain ⟨dd, es, n, sl, hd⟩ := hp
  exact rc_ne_decline_or (k := false) ⟨_, hd, rfl⟩ (typeIs_str s y yt) (by decide) F.sub_str_dict F.slot_dict_ne F.slot_str_ne_refl
    (fun _ h5 => call_meets F.slot_dict_ne ⟨_, hd, rfl⟩ F.entry_dict_ne (F.args_dict_ne_2 _ _) (dne_str p es n dd sl y yt) ⟨hd, h5⟩)
    (fun _ h5 => call_meets F.slot_str_ne_refl (typeIs_str s y yt) F.entry_str_ne (F.args_str_ne_2 _ _) (strne_d p es n dd sl y yt) ⟨hd, h5⟩)
    (fun _ h5 => wpAny_of_eq (rfl : isSame (.ref p) (.str y yt) = pure false) h5) (.inr hu) h
theorem RcNeAt_str_d {p : Addr} (y : Str) (yt : Tok) (hp : IsD s.heap p) (hu : A.units < cLine) : RcNeAt A s (.str y yt) (.ref p) true := fun prog w E Q h => by
  obtain ⟨dd, es, n, sl, hd⟩ := hp
  exact rc_ne_decline_or (k := false) (typeIs_str s y yt) ⟨_, hd, rfl⟩ (by decide) F.sub_dict_str F.slot_str_ne F.slot_dict_ne_refl
    (fun _ h5 => call_meets F.slot_str_ne (typeIs_str s y yt) F.entry_str_ne (F.args_str_ne_2 _ _) (strne_d p es n dd sl y yt) ⟨hd, h5⟩)
    (fun _ h5 => call_meets F.slot_dict_ne_refl ⟨_, hd, rfl⟩ F.entry_dict_ne (F.args_dict_ne_2 _ _) (dne_str p es n dd sl y yt) ⟨hd, h5⟩)
    (fun _ h5 => wpAny_of_eq (rfl : isSame (.str y yt) (.ref p) = pure false) h5) (.inr hu) h
theorem RcNeAt_d_list {p : Addr} {q : Addr} {zs : Array Value} (hz : s.heap.IsList q zs) (hp : IsD s.heap p) (hu : A.units < cLine) : RcNeAt A s (.ref p) (.ref q) true := fun prog w E Q h => by
  obtain ⟨dd, es, n, sl, hd⟩ := hp
  have hpq : p ≠ q := fun e => by
    subst e
    obtain ⟨ob, e1, e2, _⟩ := hz
    rw [hd] at e1
    cases e1
    exact absurd (show (Value.type "dict") = .type "list" from e2) (by simp)
  obtain ⟨⟨cl, de, da, sm⟩, hq, hc, m, hm⟩ := id hz
  simp only at hc hm
  subst hc hm
  exact rc_ne_decline_or (k := false) ⟨_, hd, rfl⟩ ⟨_, hq, rfl⟩ (by decide) F.sub_list_dict F.slot_dict_ne F.slot_list_ne_refl
    (fun _ h5 => call_meets F.slot_dict_ne ⟨_, hd, rfl⟩ F.entry_dict_ne (F.args_dict_ne_2 _ _) (dne_list p es n dd sl q zs m de sm) ⟨hd, hq, h5⟩)
    (fun _ h5 => call_meets F.slot_list_ne_refl ⟨_, hq, rfl⟩ F.entry_list_ne (F.args_list_ne_2 _ _) (listne_d p es n dd sl q zs m de sm) ⟨hd, hq, h5⟩)
    (fun _ h5 => wpAny_isSame_ref_other' hpq hd hq (by simp) h5) (.inr hu) h
theorem RcNeAt_list_d {p : Addr} {q : Addr} {zs : Array Value} (hz : s.heap.IsList q zs) (hp : IsD s.heap p) (hu : A.units < cLine) : RcNeAt A s (.ref q) (.ref p) true := fun prog w E Q h => by
  obtain ⟨dd, es, n, sl, hd⟩ := hp
  have hpq : p ≠ q := fun e => by
    subst e
    obtain ⟨ob, e1, e2, _⟩ := hz
    rw [hd] at e1
    cases e1
    exact absurd (show (Value.type "dict") = .type "list" from e2) (by simp)
  obtain ⟨⟨cl, de, da, sm⟩, hq, hc, m, hm⟩ := id hz
  simp only at hc hm
  subst hc hm
  exact rc_ne_decline_or (k := false) ⟨_, hq, rfl⟩ ⟨_, hd, rfl⟩ (by decide) F.sub_dict_list F.slot_list_ne F.slot_dict_ne_refl
    (fun _ h5 => call_meets F.slot_list_ne ⟨_, hq, rfl⟩ F.entry_list_ne (F.args_list_ne_2 _ _) (listne_d p es n dd sl q zs m de sm) ⟨hd, hq, h5⟩)
    (fun _ h5 => call_meets F.slot_dict_ne_refl ⟨_, hd, rfl⟩ F.entry_dict_ne (F.args_dict_ne_2 _ _) (dne_list p es n dd sl q zs m de sm) ⟨hd, hq, h5⟩)
    (fun _ h5 => wpAny_isSame_ref_other' (Ne.symm hpq) hq hd (by simp) h5) (.inr hu) h
theorem RcNeAt_d_tuple {p : Addr} {q : Addr} {zs : Array Value} (hz : s.heap.IsTuple q zs) (hp : IsD s.heap p) (hu : A.units < cLine) : RcNeAt A s (.ref p) (.ref q) true := fun prog w E Q h => by
  obtain ⟨dd, es, n, sl, hd⟩ := hp
  have hpq : p ≠ q := fun e => by
    subst e
    obtain ⟨ob, e1, e2, _⟩ := hz
    rw [hd] at e1
    cases e1
    exact absurd (show (Value.type "dict") = .type "tuple" from e2) (by simp)
  obtain ⟨⟨cl, de, da, sm⟩, hq, hc, m, hm⟩ := id hz
  simp only at hc hm
  subst hc hm
  exact rc_ne_decline_or (k := false) ⟨_, hd, rfl⟩ ⟨_, hq, rfl⟩ (by decide) F.sub_tuple_dict F.slot_dict_ne F.slot_tuple_ne_refl
    (fun _ h5 => call_meets F.slot_dict_ne ⟨_, hd, rfl⟩ F.entry_dict_ne (F.args_dict_ne_2 _ _) (dne_tuple p es n dd sl q zs m de sm) ⟨hd, hq, h5⟩)
    (fun _ h5 => call_meets F.slot_tuple_ne_refl ⟨_, hq, rfl⟩ F.entry_tuple_ne (F.args_tuple_ne_2 _ _) (tuplene_d p es n dd sl q zs m de sm) ⟨hd, hq, h5⟩)
    (fun _ h5 => wpAny_isSame_ref_other hpq hd hq (by simp) h5) (.inr hu) h
theorem RcNeAt_tuple_d {p : Addr} {q : Addr} {zs : Array Value} (hz : s.heap.IsTuple q zs) (hp : IsD s.heap p) (hu : A.units < cLine) : RcNeAt A s (.ref q) (.ref p) true := fun prog w E Q h => by
  obtain ⟨dd, es, n, sl, hd⟩ := hp
  have hpq : p ≠ q := fun e => by
    subst e
    obtain ⟨ob, e1, e2, _⟩ := hz
    rw [hd] at e1
    cases e1
    exact absurd (show (Value.type "dict") = .type "tuple" from e2) (by simp)
  obtain ⟨⟨cl, de, da, sm⟩, hq, hc, m, hm⟩ := id hz
  simp only at hc hm
  subst hc hm
  exact rc_ne_decline_or (k := false) ⟨_, hq, rfl⟩ ⟨_, hd, rfl⟩ (by decide) F.sub_dict_tuple F.slot_tuple_ne F.slot_dict_ne_refl
    (fun _ h5 => call_meets F.slot_tuple_ne ⟨_, hq, rfl⟩ F.entry_tuple_ne (F.args_tuple_ne_2 _ _) (tuplene_d p es n dd sl q zs m de sm) ⟨hd, hq, h5⟩)
    (fun _ h5 => call_meets F.slot_dict_ne_refl ⟨_, hd, rfl⟩ F.entry_dict_ne (F.args_dict_ne_2 _ _) (dne_tuple p es n dd sl q zs m de sm) ⟨hd, hq, h5⟩)
    (fun _ h5 => wpAny_isSame_ref_other' (Ne.symm hpq) hq hd (by simp) h5) (.inr hu) h
theorem EqAt_d_none {p : Addr} (hp : IsD s.heap p) (hu : A.units < cLine) : EqAt A s (.ref p) (.none) false := fun prog w E Q h5 => by
  unfold eqBool
  refine wpAny_holding ?_
  refine wpAny_ite_split (fun e => absurd (eq_of_beq e) nofun) (fun _ => ?_)
  exact wpAny_bind (RcAt_d_none hp hu prog w E _ (wpAny_truthy_bool h5))
theorem EqAt_none_d {p : Addr} (hp : IsD s.heap p) (hu : A.units < cLine) : EqAt A s (.none) (.ref p) false := fun prog w E Q h5 => by
  unfold eqBool
  refine wpAny_holding ?_
  refine wpAny_ite_split (fun e => absurd (eq_of_beq e) nofun) (fun _ => ?_)
  exact wpAny_bind (RcAt_none_d hp hu prog w E _ (wpAny_truthy_bool h5))
theorem EqAt_d_bool {p : Addr} (y : Bool) (hp : IsD s.heap p) (hu : A.units < cLine) : EqAt A s (.ref p) (.bool y) false := fun prog w E Q h5 => by
  unfold eqBool
  refine wpAny_holding ?_
  refine wpAny_ite_split (fun e => absurd (eq_of_beq e) nofun) (fun _ => ?_)
  exact wpAny_bind (RcAt_d_bool y hp hu prog w E _ (wpAny_truthy_bool h5))
theorem EqAt_bool_d {p : Addr} (y : Bool) (hp : IsD s.heap p) (hu : A.units < cLine) : EqAt A s (.bool y) (.ref p) false := fun prog w E Q h5 => by
  unfold eqBool
  refine wpAny_holding ?_
  refine wpAny_ite_split (fun e => absurd (eq_of_beq e) nofun) (fun _ => ?_)
  exact wpAny_bind (RcAt_bool_d y hp hu prog w E _ (wpAny_truthy_bool h5))
theorem EqAt_d_int {p : Addr} (y : Int) (yt : Tok) (hp : IsD s.heap p) (hu : A.units < cLine) : EqAt A s (.ref p) (.int y yt) false := fun prog w E Q h5 => by
  unfold eqBool
  refine wpAny_holding ?_
  refine wpAny_ite_split (fun e => absurd (eq_of_beq e) nofun) (fun _ => ?_)
  exact wpAny_bind (RcAt_d_int y yt hp hu prog w E _ (wpAny_truthy_bool h5))
theorem EqAt_int_d {p : Addr} (y : Int) (yt : Tok) (hp : IsD s.heap p) (hu : A.units < cLine) : EqAt A s (.int y yt) (.ref p) false := fun prog w E Q h5 => by
  unfold eqBool
  refine wpAny_holding ?_
  refine wpAny_ite_split (fun e => absurd (eq_of_beq e) nofun) (fun _ => ?_)
  exact wpAny_bind (RcAt_int_d y yt hp hu prog w E _ (wpAny_truthy_bool h5))
theorem EqAt_d_str {p : Addr} (y : Str) (yt : Tok) (hp : IsD s.heap p) (hu : A.units < cLine) : EqAt A s (.ref p) (.str y yt) false := fun prog w E Q h5 => by
  unfold eqBool
  refine wpAny_holding ?_
  refine wpAny_ite_split (fun e => absurd (eq_of_beq e) nofun) (fun _ => ?_)
  exact wpAny_bind (RcAt_d_str y yt hp hu prog w E _ (wpAny_truthy_bool h5))
theorem EqAt_str_d {p : Addr} (y : Str) (yt : Tok) (hp : IsD s.heap p) (hu : A.units < cLine) : EqAt A s (.str y yt) (.ref p) false := fun prog w E Q h5 => by
  unfold eqBool
  refine wpAny_holding ?_
  refine wpAny_ite_split (fun e => absurd (eq_of_beq e) nofun) (fun _ => ?_)
  exact wpAny_bind (RcAt_str_d y yt hp hu prog w E _ (wpAny_truthy_bool h5))
theorem ne_d_list {p : Addr} {q : Addr} {zs : Array Value} (hz : s.heap.IsList q zs) (hp : IsD s.heap p) : p ≠ q := fun e => by
  subst e
  obtain ⟨dd, es, n, sl, hd⟩ := hp
  obtain ⟨ob, e1, e2, _⟩ := hz
  rw [hd] at e1
  cases e1
  exact absurd (show (Value.type "dict") = .type "list" from e2) (by simp)
theorem EqAt_d_list {p : Addr} {q : Addr} {zs : Array Value} (hz : s.heap.IsList q zs) (hp : IsD s.heap p) (hu : A.units < cLine) : EqAt A s (.ref p) (.ref q) false := .of_refs (ne_d_list hz hp) (RcAt_d_list hz hp hu)
theorem EqAt_list_d {p : Addr} {q : Addr} {zs : Array Value} (hz : s.heap.IsList q zs) (hp : IsD s.heap p) (hu : A.units < cLine) : EqAt A s (.ref q) (.ref p) false := .of_refs (Ne.symm (ne_d_list hz hp)) (RcAt_list_d hz hp hu)
theorem ne_d_tuple {p : Addr} {q : Addr} {zs : Array Value} (hz : s.heap.IsTuple q zs) (hp : IsD s.heap p) : p ≠ q := fun e => by
  subst e
  obtain ⟨dd, es, n, sl, hd⟩ := hp
  obtain ⟨ob, e1, e2, _⟩ := hz
  rw [hd] at e1
  cases e1
  exact absurd (show (Value.type "dict") = .type "tuple" from e2) (by simp)
theorem EqAt_d_tuple {p : Addr} {q : Addr} {zs : Array Value} (hz : s.heap.IsTuple q zs) (hp : IsD s.heap p) (hu : A.units < cLine) : EqAt A s (.ref p) (.ref q) false := .of_refs (ne_d_tuple hz hp) (RcAt_d_tuple hz hp hu)
theorem EqAt_tuple_d {p : Addr} {q : Addr} {zs : Array Value} (hz : s.heap.IsTuple q zs) (hp : IsD s.heap p) (hu : A.units < cLine) : EqAt A s (.ref q) (.ref p) false := .of_refs (Ne.symm (ne_d_tuple hz hp)) (RcAt_tuple_d hz hp hu)
end
end Em
end Dl
namespace Dl
open PySem PySem.Spec PyProof.Rows L2 NdefX
namespace Em
open PySem.SeqAt MeetsSeq
mutual
theorem lay_of : ∀ d : D, d.okS = true → d.dep < bigD → PyData.canLay0 d.py = true
  | .non, _, _ => rfl
  | .bl _, _, _ => rfl
  | .int _, _, _ => rfl
  | .str _, h, _ => h
  | .dic _, _, h => absurd h (Nat.lt_irrefl _)
  | .lst l, h, hd => lay_ofL l h (by have : D.depL l + 1 < bigD := hd; omega)
  | .tup l, h, hd => lay_ofL l h (by have : D.depL l + 1 < bigD := hd; omega)
theorem lay_ofL : ∀ l : List D, D.okSL l = true → D.depL l < bigD → PyData.canLayAll0 (D.pyAll l) = true
  | [], _, _ => rfl
  | d :: l, h, hd => by
    have h' : d.okS = true ∧ D.okSL l = true := by simpa [D.okSL] using h
    have hd' : max d.dep (D.depL l) < bigD := hd
    show (PyData.canLay0 d.py && PyData.canLayAll0 (D.pyAll l)) = true
    rw [lay_of d h'.1 (by omega), lay_ofL l h'.2 (by omega)]
    rfl
end
mutual
theorem dp_of {K : PySem.W.Frag} {F : Hp} : ∀ (d : D) (v : V), d.dep < bigD → Rp K F v d → Dp K F v d.py
  | .non, _, _, h => by cases h; exact .non
  | .bl b, _, _, h => by cases h; exact .bl b
  | .int i, _, _, h => by cases h; exact .int i
  | .str s, _, _, h => by cases h; exact .str s
  | .dic _, _, hd, _ => absurd hd (Nat.lt_irrefl _)
  | .lst l, _, hd, h => by
    cases h with
    | lst hz hs hp => exact .lst hs (dp_ofL l _ (by have : D.depL l + 1 < bigD := hd; omega) hp)
  | .tup l, _, hd, h => by
    cases h with
    | tup hz hs hp => exact .tup hs (dp_ofL l _ (by have : D.depL l + 1 < bigD := hd; omega) hp)
theorem dp_ofL {K : PySem.W.Frag} {F : Hp} : ∀ (l : List D) (vs : List V), D.depL l < bigD → Paired (Rp K F) vs l → DpAll K F vs (D.pyAll l)
  | [], _, _, h => by cases h; exact .nil
  | d :: l, _, hd, h => by
    have hd' : max d.dep (D.depL l) < bigD := hd
    cases h with
    | cons h1 h2 => exact .cons (dp_of d _ (by omega) h1) (dp_ofL l _ (by omega) h2)
end
theorem isD_of {h : Heap} {p : Addr} {as : List Addr} {kvs : List (PyData × PyData)} (r : Reads h (.ref p) (.dict kvs) as) : IsD h p := by
  generalize hk : ([] : List (PyData × PyData)) = kvs at r
  cases r with
  | @dict _ ob es n _ _ _ e1 e2 e3 e4 e5 =>
    obtain ⟨cl, dd, da, sl⟩ := ob
    simp only at e2 e3
    subst e2 e3
    exact ⟨dd, es, n, sl, e1⟩
theorem isL_of {h : Heap} {v : Value} {xs : List PyData} {as : List Addr} (r : Reads h v (.list xs) as) : ∃ l vs bs, v = .ref l ∧ h.IsList l vs ∧ ReadsAll h vs.toList xs bs := by
  cases r with
  | list h1 h2 h3 h4 => exact ⟨_, _, _, rfl, ⟨_, h1, h2, _, h3⟩, h4⟩
theorem isT_of {h : Heap} {v : Value} {xs : List PyData} {as : List Addr} (r : Reads h v (.tuple xs) as) : ∃ l vs bs, v = .ref l ∧ h.IsTuple l vs ∧ ReadsAll h vs.toList xs bs := by
  cases r with
  | tuple h1 h2 h3 h4 => exact ⟨_, _, _, rfl, ⟨_, h1, h2, _, h3⟩, h4⟩
theorem isD_of' {h : Heap} {v : Value} {as : List Addr} {kvs : List (PyData × PyData)} (r : Reads h v (.dict kvs) as) : ∃ p, v = .ref p ∧ IsD h p := by
  cases v with
  | ref p => exact ⟨p, rfl, isD_of r⟩
  | _ => cases r
mutual
theorem eqD : ∀ (d e : D) (A : Around) (s : Shared) (a b : Value) (as bs : List Addr), Reads s.heap a d.py as → Reads s.heap b e.py bs → d.okS = true → e.okS = true → (d.dep < bigD ∨ e.dep < bigD) → A.units + min d.py.depth e.py.depth < cLine → EqAt A s a b (PyData.eqv d.py e.py) := by
  intro d e A s a b as bs ra rb hd he_ hs hu
  by_cases hb : d.dep < bigD ∧ e.dep < bigD
  · exact eqAt_reads d.py e.py A s a b as bs ra rb (lay_of d hd hb.1) (lay_of e he_ hb.2) hu
  have ru := room_here hu
  match d, e with
  | .non, .non => exact absurd ⟨(show (0 : Nat) < bigD by decide), (show (0 : Nat) < bigD by decide)⟩ hb
  | .non, .bl z => exact absurd ⟨(show (0 : Nat) < bigD by decide), (show (0 : Nat) < bigD by decide)⟩ hb
  | .non, .int z => exact absurd ⟨(show (0 : Nat) < bigD by decide), (show (0 : Nat) < bigD by decide)⟩ hb
  | .non, .str z => exact absurd ⟨(show (0 : Nat) < bigD by decide), (show (0 : Nat) < bigD by decide)⟩ hb
  | .bl y, .non => exact absurd ⟨(show (0 : Nat) < bigD by decide), (show (0 : Nat) < bigD by decide)⟩ hb
  | .bl y, .bl z => exact absurd ⟨(show (0 : Nat) < bigD by decide), (show (0 : Nat) < bigD by decide)⟩ hb
  | .bl y, .int z => exact absurd ⟨(show (0 : Nat) < bigD by decide), (show (0 : Nat) < bigD by decide)⟩ hb
  | .bl y, .str z => exact absurd ⟨(show (0 : Nat) < bigD by decide), (show (0 : Nat) < bigD by decide)⟩ hb
  | .int y, .non => exact absurd ⟨(show (0 : Nat) < bigD by decide), (show (0 : Nat) < bigD by decide)⟩ hb
  | .int y, .bl z => exact absurd ⟨(show (0 : Nat) < bigD by decide), (show (0 : Nat) < bigD by decide)⟩ hb
  | .int y, .int z => exact absurd ⟨(show (0 : Nat) < bigD by decide), (show (0 : Nat) < bigD by decide)⟩ hb
  | .int y, .str z => exact absurd ⟨(show (0 : Nat) < bigD by decide), (show (0 : Nat) < bigD by decide)⟩ hb
  | .str y, .non => exact absurd ⟨(show (0 : Nat) < bigD by decide), (show (0 : Nat) < bigD by decide)⟩ hb
  | .str y, .bl z => exact absurd ⟨(show (0 : Nat) < bigD by decide), (show (0 : Nat) < bigD by decide)⟩ hb
  | .str y, .int z => exact absurd ⟨(show (0 : Nat) < bigD by decide), (show (0 : Nat) < bigD by decide)⟩ hb
  | .str y, .str z => exact absurd ⟨(show (0 : Nat) < bigD by decide), (show (0 : Nat) < bigD by decide)⟩ hb
  | .non, .dic _ => obtain ⟨p, e1, h1⟩ := isD_of' rb; subst e1; cases ra; exact EqAt_none_d h1 ru
  | .non, .lst l => obtain ⟨p, vs, cs, e1, h1, _⟩ := isL_of rb; subst e1; cases ra; exact EqAt.none_list h1 ru
  | .non, .tup l => obtain ⟨p, vs, cs, e1, h1, _⟩ := isT_of rb; subst e1; cases ra; exact EqAt.none_tuple h1 ru
  | .dic _, .non => obtain ⟨p, e1, h1⟩ := isD_of' ra; subst e1; cases rb; exact EqAt_d_none h1 ru
  | .lst l, .non => obtain ⟨p, vs, cs, e1, h1, _⟩ := isL_of ra; subst e1; cases rb; exact EqAt.list_none h1 ru
  | .tup l, .non => obtain ⟨p, vs, cs, e1, h1, _⟩ := isT_of ra; subst e1; cases rb; exact EqAt.tuple_none h1 ru
  | .bl y, .dic _ => obtain ⟨p, e1, h1⟩ := isD_of' rb; subst e1; cases ra; exact EqAt_bool_d _ h1 ru
  | .bl y, .lst l => obtain ⟨p, vs, cs, e1, h1, _⟩ := isL_of rb; subst e1; cases ra; exact EqAt.bool_list _ h1 ru
  | .bl y, .tup l => obtain ⟨p, vs, cs, e1, h1, _⟩ := isT_of rb; subst e1; cases ra; exact EqAt.bool_tuple _ h1 ru
  | .dic _, .bl y => obtain ⟨p, e1, h1⟩ := isD_of' ra; subst e1; cases rb; exact EqAt_d_bool _ h1 ru
  | .lst l, .bl y => obtain ⟨p, vs, cs, e1, h1, _⟩ := isL_of ra; subst e1; cases rb; exact EqAt.list_bool _ h1 ru
  | .tup l, .bl y => obtain ⟨p, vs, cs, e1, h1, _⟩ := isT_of ra; subst e1; cases rb; exact EqAt.tuple_bool _ h1 ru
  | .int y, .dic _ => obtain ⟨p, e1, h1⟩ := isD_of' rb; subst e1; cases ra; exact EqAt_int_d _ _ h1 ru
  | .int y, .lst l => obtain ⟨p, vs, cs, e1, h1, _⟩ := isL_of rb; subst e1; cases ra; exact EqAt.int_list _ _ h1 ru
  | .int y, .tup l => obtain ⟨p, vs, cs, e1, h1, _⟩ := isT_of rb; subst e1; cases ra; exact EqAt.int_tuple _ _ h1 ru
  | .dic _, .int y => obtain ⟨p, e1, h1⟩ := isD_of' ra; subst e1; cases rb; exact EqAt_d_int _ _ h1 ru
  | .lst l, .int y => obtain ⟨p, vs, cs, e1, h1, _⟩ := isL_of ra; subst e1; cases rb; exact EqAt.list_int _ _ h1 ru
  | .tup l, .int y => obtain ⟨p, vs, cs, e1, h1, _⟩ := isT_of ra; subst e1; cases rb; exact EqAt.tuple_int _ _ h1 ru
  | .str y, .dic _ => obtain ⟨p, e1, h1⟩ := isD_of' rb; subst e1; cases ra; exact EqAt_str_d _ _ h1 ru
  | .str y, .lst l => obtain ⟨p, vs, cs, e1, h1, _⟩ := isL_of rb; subst e1; cases ra; exact EqAt.str_list _ _ h1 ru
  | .str y, .tup l => obtain ⟨p, vs, cs, e1, h1, _⟩ := isT_of rb; subst e1; cases ra; exact EqAt.str_tuple _ _ h1 ru
  | .dic _, .str y => obtain ⟨p, e1, h1⟩ := isD_of' ra; subst e1; cases rb; exact EqAt_d_str _ _ h1 ru
  | .lst l, .str y => obtain ⟨p, vs, cs, e1, h1, _⟩ := isL_of ra; subst e1; cases rb; exact EqAt.list_str _ _ h1 ru
  | .tup l, .str y => obtain ⟨p, vs, cs, e1, h1, _⟩ := isT_of ra; subst e1; cases rb; exact EqAt.tuple_str _ _ h1 ru
  | .dic _, .dic _ => exact hs.elim (fun z => absurd z (Nat.lt_irrefl _)) fun z => absurd z (Nat.lt_irrefl _)
  | .dic _, .lst l => obtain ⟨p, e1, h1⟩ := isD_of' ra; obtain ⟨q, vs, cs, e2, h2, _⟩ := isL_of rb; subst e1 e2; exact EqAt_d_list h2 h1 ru
  | .lst l, .dic _ => obtain ⟨p, e1, h1⟩ := isD_of' rb; obtain ⟨q, vs, cs, e2, h2, _⟩ := isL_of ra; subst e1 e2; exact EqAt_list_d h2 h1 ru
  | .dic _, .tup l => obtain ⟨p, e1, h1⟩ := isD_of' ra; obtain ⟨q, vs, cs, e2, h2, _⟩ := isT_of rb; subst e1 e2; exact EqAt_d_tuple h2 h1 ru
  | .tup l, .dic _ => obtain ⟨p, e1, h1⟩ := isD_of' rb; obtain ⟨q, vs, cs, e2, h2, _⟩ := isT_of ra; subst e1 e2; exact EqAt_tuple_d h2 h1 ru
  | .lst l, .tup k => obtain ⟨p, vs, cs, e1, h1, _⟩ := isL_of ra; obtain ⟨q, ws, ds, e2, h2, _⟩ := isT_of rb; subst e1 e2; exact EqAt.list_tuple h1 h2 ru
  | .tup l, .lst k => obtain ⟨p, vs, cs, e1, h1, _⟩ := isT_of ra; obtain ⟨q, ws, ds, e2, h2, _⟩ := isL_of rb; subst e1 e2; exact EqAt.tuple_list h1 h2 ru
  | .lst l, .lst k =>
    obtain ⟨p, vs, cs, e1, h1, r1⟩ := isL_of ra
    obtain ⟨q, ws, ds, e2, h2, r2⟩ := isL_of rb
    subst e1 e2
    show EqAt A s (.ref p) (.ref q) (PyData.eqvAll (D.pyAll l) (D.pyAll k))
    have n1 : vs.size = (D.pyAll l).length := by simpa using ReadsAll.length _ _ _ r1
    have n2 : ws.size = (D.pyAll k).length := by simpa using ReadsAll.length _ _ _ r2
    have hs' : D.depL l < bigD ∨ D.depL k < bigD := hs.imp (fun z => Nat.lt_of_succ_lt z) fun z => Nat.lt_of_succ_lt z
    have he : ∀ j (j1 : j < vs.size) (j2 : j < ws.size), EqAt A.in1 s vs[j] ws[j] (pairEq (D.pyAll l) (D.pyAll k) j) := fun j j1 j2 => by
      have := eqDL l k A.in1 s vs.toList ws.toList _ _ r1 r2 hd he_ hs' (room_in hu) j (by simpa using j1) (by simpa using j2)
      simpa using this
    by_cases hpq : p = q
    · subst hpq
      have e : PyData.list (D.pyAll l) = PyData.list (D.pyAll k) := by
        rcases hs' with z | z
        · exact PySem.SeqAt.Reads.unique (PyData.list (D.pyAll l)) (PyData.list (D.pyAll k)) _ _ _ (lay_ofL l hd z) ra rb
        · exact (PySem.SeqAt.Reads.unique (PyData.list (D.pyAll k)) (PyData.list (D.pyAll l)) _ _ _ (lay_ofL k he_ z) rb ra).symm
      injection e with e
      have hr : PyData.eqvAll (D.pyAll l) (D.pyAll k) = true := by
        rcases hs' with z | z
        · rw [← e]; exact eqvAll_refl _ (lay_ofL l hd z)
        · rw [e]; exact eqvAll_refl _ (lay_ofL k he_ z)
      rw [hr]
      exact EqAt.same _
    refine EqAt.of_refs hpq ?_
    by_cases hsz : vs.size = ws.size
    · rw [← eqvAll_same_length (by omega : (D.pyAll l).length = (D.pyAll k).length), ← n1]
      exact RcAt.lists h1 h2 hsz ru he
    · rw [eqvAll_other_length (by omega : (D.pyAll l).length ≠ (D.pyAll k).length)]
      exact RcAt.lists_lengths h1 h2 (by simpa using hsz) ru
  | .tup l, .tup k =>
    obtain ⟨p, vs, cs, e1, h1, r1⟩ := isT_of ra
    obtain ⟨q, ws, ds, e2, h2, r2⟩ := isT_of rb
    subst e1 e2
    show EqAt A s (.ref p) (.ref q) (PyData.eqvAll (D.pyAll l) (D.pyAll k))
    have n1 : vs.size = (D.pyAll l).length := by simpa using ReadsAll.length _ _ _ r1
    have n2 : ws.size = (D.pyAll k).length := by simpa using ReadsAll.length _ _ _ r2
    have hs' : D.depL l < bigD ∨ D.depL k < bigD := hs.imp (fun z => Nat.lt_of_succ_lt z) fun z => Nat.lt_of_succ_lt z
    have he : ∀ j (j1 : j < vs.size) (j2 : j < ws.size), EqAt A.in1 s vs[j] ws[j] (pairEq (D.pyAll l) (D.pyAll k) j) := fun j j1 j2 => by
      have := eqDL l k A.in1 s vs.toList ws.toList _ _ r1 r2 hd he_ hs' (room_in hu) j (by simpa using j1) (by simpa using j2)
      simpa using this
    by_cases hpq : p = q
    · subst hpq
      have e : PyData.tuple (D.pyAll l) = PyData.tuple (D.pyAll k) := by
        rcases hs' with z | z
        · exact PySem.SeqAt.Reads.unique (PyData.tuple (D.pyAll l)) (PyData.tuple (D.pyAll k)) _ _ _ (lay_ofL l hd z) ra rb
        · exact (PySem.SeqAt.Reads.unique (PyData.tuple (D.pyAll k)) (PyData.tuple (D.pyAll l)) _ _ _ (lay_ofL k he_ z) rb ra).symm
      injection e with e
      have hr : PyData.eqvAll (D.pyAll l) (D.pyAll k) = true := by
        rcases hs' with z | z
        · rw [← e]; exact eqvAll_refl _ (lay_ofL l hd z)
        · rw [e]; exact eqvAll_refl _ (lay_ofL k he_ z)
      rw [hr]
      exact EqAt.same _
    refine EqAt.of_refs hpq ?_
    rw [← eqvAll_eq (D.pyAll l) (D.pyAll k), ← n1, ← n2]
    exact RcAt.tuples h1 h2 ru he
termination_by d => sizeOf d
theorem eqDL : ∀ (xs ys : List D) (A : Around) (s : Shared) (vs ws : List Value) (as bs : List Addr), ReadsAll s.heap vs (D.pyAll xs) as → ReadsAll s.heap ws (D.pyAll ys) bs → D.okSL xs = true → D.okSL ys = true → (D.depL xs < bigD ∨ D.depL ys < bigD) →
    A.units + min (PyData.depthAll (D.pyAll xs)) (PyData.depthAll (D.pyAll ys)) < cLine → ∀ j (k1 : j < vs.length) (k2 : j < ws.length), EqAt A s vs[j] ws[j] (pairEq (D.pyAll xs) (D.pyAll ys) j)
  | [], _, _, _, _, _, _, _, ra, _, _, _, _, _, j, k1, _ => by cases ra; exact absurd k1 (Nat.not_lt_zero _)
  | _ :: _, [], _, _, _, _, _, _, _, rb, _, _, _, _, j, _, k2 => by cases rb; exact absurd k2 (Nat.not_lt_zero _)
  | x :: xs, y :: ys, A, s, _, _, _, _, ra, rb, hd, he, hs, hu, j, k1, k2 => by
    have hd' : x.okS = true ∧ D.okSL xs = true := by simpa [D.okSL] using hd
    have he' : y.okS = true ∧ D.okSL ys = true := by simpa [D.okSL] using he
    have hs1 : x.dep < bigD ∨ y.dep < bigD := hs.imp (fun z => Nat.lt_of_le_of_lt (Nat.le_max_left _ _) z) fun z => Nat.lt_of_le_of_lt (Nat.le_max_left _ _) z
    have hs2 : D.depL xs < bigD ∨ D.depL ys < bigD := hs.imp (fun z => Nat.lt_of_le_of_lt (Nat.le_max_right _ _) z) fun z => Nat.lt_of_le_of_lt (Nat.le_max_right _ _) z
    cases ra with
    | cons r rs =>
      cases rb with
      | cons r' rs' =>
        cases j with
        | zero => exact eqD x y A s _ _ _ _ r r' hd'.1 he'.1 hs1 (room_head hu)
        | succ j => exact eqDL xs ys A s _ _ _ _ rs rs' hd'.2 he'.2 hs2 (room_tail hu) j (Nat.lt_of_succ_lt_succ k1) (Nat.lt_of_succ_lt_succ k2)
termination_by xs => sizeOf xs
end
theorem rcD : ∀ (d e : D) (A : Around) (s : Shared) (a b : Value) (as bs : List Addr), Reads s.heap a d.py as → Reads s.heap b e.py bs → d.okS = true → e.okS = true → (d.dep < bigD ∨ e.dep < bigD) → A.units + min d.py.depth e.py.depth < cLine → RcAt A s a b (PyData.eqv d.py e.py) := by
  intro d e A s a b as bs ra rb hd he_ hs hu
  by_cases hb : d.dep < bigD ∧ e.dep < bigD
  · exact rcAt_reads ra rb (lay_of d hd hb.1) (lay_of e he_ hb.2) hu
  have ru := room_here hu
  match d, e with
  | .non, .non => exact absurd ⟨(show (0 : Nat) < bigD by decide), (show (0 : Nat) < bigD by decide)⟩ hb
  | .non, .bl z => exact absurd ⟨(show (0 : Nat) < bigD by decide), (show (0 : Nat) < bigD by decide)⟩ hb
  | .non, .int z => exact absurd ⟨(show (0 : Nat) < bigD by decide), (show (0 : Nat) < bigD by decide)⟩ hb
  | .non, .str z => exact absurd ⟨(show (0 : Nat) < bigD by decide), (show (0 : Nat) < bigD by decide)⟩ hb
  | .bl y, .non => exact absurd ⟨(show (0 : Nat) < bigD by decide), (show (0 : Nat) < bigD by decide)⟩ hb
  | .bl y, .bl z => exact absurd ⟨(show (0 : Nat) < bigD by decide), (show (0 : Nat) < bigD by decide)⟩ hb
  | .bl y, .int z => exact absurd ⟨(show (0 : Nat) < bigD by decide), (show (0 : Nat) < bigD by decide)⟩ hb
  | .bl y, .str z => exact absurd ⟨(show (0 : Nat) < bigD by decide), (show (0 : Nat) < bigD by decide)⟩ hb
  | .int y, .non => exact absurd ⟨(show (0 : Nat) < bigD by decide), (show (0 : Nat) < bigD by decide)⟩ hb
  | .int y, .bl z => exact absurd ⟨(show (0 : Nat) < bigD by decide), (show (0 : Nat) < bigD by decide)⟩ hb
  | .int y, .int z => exact absurd ⟨(show (0 : Nat) < bigD by decide), (show (0 : Nat) < bigD by decide)⟩ hb
  | .int y, .str z => exact absurd ⟨(show (0 : Nat) < bigD by decide), (show (0 : Nat) < bigD by decide)⟩ hb
  | .str y, .non => exact absurd ⟨(show (0 : Nat) < bigD by decide), (show (0 : Nat) < bigD by decide)⟩ hb
  | .str y, .bl z => exact absurd ⟨(show (0 : Nat) < bigD by decide), (show (0 : Nat) < bigD by decide)⟩ hb
  | .str y, .int z => exact absurd ⟨(show (0 : Nat) < bigD by decide), (show (0 : Nat) < bigD by decide)⟩ hb
  | .str y, .str z => exact absurd ⟨(show (0 : Nat) < bigD by decide), (show (0 : Nat) < bigD by decide)⟩ hb
  | .non, .dic _ => obtain ⟨p, e1, h1⟩ := isD_of' rb; subst e1; cases ra; exact RcAt_none_d h1 ru
  | .non, .lst l => obtain ⟨p, vs, cs, e1, h1, _⟩ := isL_of rb; subst e1; cases ra; exact RcAt.none_list h1 ru
  | .non, .tup l => obtain ⟨p, vs, cs, e1, h1, _⟩ := isT_of rb; subst e1; cases ra; exact RcAt.none_tuple h1 ru
  | .dic _, .non => obtain ⟨p, e1, h1⟩ := isD_of' ra; subst e1; cases rb; exact RcAt_d_none h1 ru
  | .lst l, .non => obtain ⟨p, vs, cs, e1, h1, _⟩ := isL_of ra; subst e1; cases rb; exact RcAt.list_none h1 ru
  | .tup l, .non => obtain ⟨p, vs, cs, e1, h1, _⟩ := isT_of ra; subst e1; cases rb; exact RcAt.tuple_none h1 ru
  | .bl y, .dic _ => obtain ⟨p, e1, h1⟩ := isD_of' rb; subst e1; cases ra; exact RcAt_bool_d _ h1 ru
  | .bl y, .lst l => obtain ⟨p, vs, cs, e1, h1, _⟩ := isL_of rb; subst e1; cases ra; exact RcAt.bool_list _ h1 ru
  | .bl y, .tup l => obtain ⟨p, vs, cs, e1, h1, _⟩ := isT_of rb; subst e1; cases ra; exact RcAt.bool_tuple _ h1 ru
  | .dic _, .bl y => obtain ⟨p, e1, h1⟩ := isD_of' ra; subst e1; cases rb; exact RcAt_d_bool _ h1 ru
  | .lst l, .bl y => obtain ⟨p, vs, cs, e1, h1, _⟩ := isL_of ra; subst e1; cases rb; exact RcAt.list_bool _ h1 ru
  | .tup l, .bl y => obtain ⟨p, vs, cs, e1, h1, _⟩ := isT_of ra; subst e1; cases rb; exact RcAt.tuple_bool _ h1 ru
  | .int y, .dic _ => obtain ⟨p, e1, h1⟩ := isD_of' rb; subst e1; cases ra; exact RcAt_int_d _ _ h1 ru
  | .int y, .lst l => obtain ⟨p, vs, cs, e1, h1, _⟩ := isL_of rb; subst e1; cases ra; exact RcAt.int_list _ _ h1 ru
  | .int y, .tup l => obtain ⟨p, vs, cs, e1, h1, _⟩ := isT_of rb; subst e1; cases ra; exact RcAt.int_tuple _ _ h1 ru
  | .dic _, .int y => obtain ⟨p, e1, h1⟩ := isD_of' ra; subst e1; cases rb; exact RcAt_d_int _ _ h1 ru
  | .lst l, .int y => obtain ⟨p, vs, cs, e1, h1, _⟩ := isL_of ra; subst e1; cases rb; exact RcAt.list_int _ _ h1 ru
  | .tup l, .int y => obtain ⟨p, vs, cs, e1, h1, _⟩ := isT_of ra; subst e1; cases rb; exact RcAt.tuple_int _ _ h1 ru
  | .str y, .dic _ => obtain ⟨p, e1, h1⟩ := isD_of' rb; subst e1; cases ra; exact RcAt_str_d _ _ h1 ru
  | .str y, .lst l => obtain ⟨p, vs, cs, e1, h1, _⟩ := isL_of rb; subst e1; cases ra; exact RcAt.str_list _ _ h1 ru
  | .str y, .tup l => obtain ⟨p, vs, cs, e1, h1, _⟩ := isT_of rb; subst e1; cases ra; exact RcAt.str_tuple _ _ h1 ru
  | .dic _, .str y => obtain ⟨p, e1, h1⟩ := isD_of' ra; subst e1; cases rb; exact RcAt_d_str _ _ h1 ru
  | .lst l, .str y => obtain ⟨p, vs, cs, e1, h1, _⟩ := isL_of ra; subst e1; cases rb; exact RcAt.list_str _ _ h1 ru
  | .tup l, .str y => obtain ⟨p, vs, cs, e1, h1, _⟩ := isT_of ra; subst e1; cases rb; exact RcAt.tuple_str _ _ h1 ru
  | .dic _, .dic _ => exact hs.elim (fun z => absurd z (Nat.lt_irrefl _)) fun z => absurd z (Nat.lt_irrefl _)
  | .dic _, .lst l => obtain ⟨p, e1, h1⟩ := isD_of' ra; obtain ⟨q, vs, cs, e2, h2, _⟩ := isL_of rb; subst e1 e2; exact RcAt_d_list h2 h1 ru
  | .lst l, .dic _ => obtain ⟨p, e1, h1⟩ := isD_of' rb; obtain ⟨q, vs, cs, e2, h2, _⟩ := isL_of ra; subst e1 e2; exact RcAt_list_d h2 h1 ru
  | .dic _, .tup l => obtain ⟨p, e1, h1⟩ := isD_of' ra; obtain ⟨q, vs, cs, e2, h2, _⟩ := isT_of rb; subst e1 e2; exact RcAt_d_tuple h2 h1 ru
  | .tup l, .dic _ => obtain ⟨p, e1, h1⟩ := isD_of' rb; obtain ⟨q, vs, cs, e2, h2, _⟩ := isT_of ra; subst e1 e2; exact RcAt_tuple_d h2 h1 ru
  | .lst l, .tup k => obtain ⟨p, vs, cs, e1, h1, _⟩ := isL_of ra; obtain ⟨q, ws, ds, e2, h2, _⟩ := isT_of rb; subst e1 e2; exact RcAt.list_tuple h1 h2 ru
  | .tup l, .lst k => obtain ⟨p, vs, cs, e1, h1, _⟩ := isT_of ra; obtain ⟨q, ws, ds, e2, h2, _⟩ := isL_of rb; subst e1 e2; exact RcAt.tuple_list h1 h2 ru
  | .lst l, .lst k =>
    obtain ⟨p, vs, cs, e1, h1, r1⟩ := isL_of ra
    obtain ⟨q, ws, ds, e2, h2, r2⟩ := isL_of rb
    subst e1 e2
    show RcAt A s (.ref p) (.ref q) (PyData.eqvAll (D.pyAll l) (D.pyAll k))
    have n1 : vs.size = (D.pyAll l).length := by simpa using ReadsAll.length _ _ _ r1
    have n2 : ws.size = (D.pyAll k).length := by simpa using ReadsAll.length _ _ _ r2
    have hs' : D.depL l < bigD ∨ D.depL k < bigD := hs.imp (fun z => Nat.lt_of_succ_lt z) fun z => Nat.lt_of_succ_lt z
    have he : ∀ j (j1 : j < vs.size) (j2 : j < ws.size), EqAt A.in1 s vs[j] ws[j] (pairEq (D.pyAll l) (D.pyAll k) j) := fun j j1 j2 => by
      have := Em.eqDL l k A.in1 s vs.toList ws.toList _ _ r1 r2 hd he_ hs' (room_in hu) j (by simpa using j1) (by simpa using j2)
      simpa using this
    by_cases hsz : vs.size = ws.size
    · rw [← eqvAll_same_length (by omega : (D.pyAll l).length = (D.pyAll k).length), ← n1]
      exact RcAt.lists h1 h2 hsz ru he
    · rw [eqvAll_other_length (by omega : (D.pyAll l).length ≠ (D.pyAll k).length)]
      exact RcAt.lists_lengths h1 h2 (by simpa using hsz) ru
  | .tup l, .tup k =>
    obtain ⟨p, vs, cs, e1, h1, r1⟩ := isT_of ra
    obtain ⟨q, ws, ds, e2, h2, r2⟩ := isT_of rb
    subst e1 e2
    show RcAt A s (.ref p) (.ref q) (PyData.eqvAll (D.pyAll l) (D.pyAll k))
    have n1 : vs.size = (D.pyAll l).length := by simpa using ReadsAll.length _ _ _ r1
    have n2 : ws.size = (D.pyAll k).length := by simpa using ReadsAll.length _ _ _ r2
    have hs' : D.depL l < bigD ∨ D.depL k < bigD := hs.imp (fun z => Nat.lt_of_succ_lt z) fun z => Nat.lt_of_succ_lt z
    have he : ∀ j (j1 : j < vs.size) (j2 : j < ws.size), EqAt A.in1 s vs[j] ws[j] (pairEq (D.pyAll l) (D.pyAll k) j) := fun j j1 j2 => by
      have := Em.eqDL l k A.in1 s vs.toList ws.toList _ _ r1 r2 hd he_ hs' (room_in hu) j (by simpa using j1) (by simpa using j2)
      simpa using this
    rw [← eqvAll_eq (D.pyAll l) (D.pyAll k), ← n1, ← n2]
    exact RcAt.tuples h1 h2 ru he
theorem neD : ∀ (d e : D) (A : Around) (s : Shared) (a b : Value) (as bs : List Addr), Reads s.heap a d.py as → Reads s.heap b e.py bs → d.okS = true → e.okS = true → (d.dep < bigD ∨ e.dep < bigD) → A.units + min d.py.depth e.py.depth < cLine → RcNeAt A s a b (!PyData.eqv d.py e.py) := by
  intro d e A s a b as bs ra rb hd he_ hs hu
  by_cases hb : d.dep < bigD ∧ e.dep < bigD
  · exact rcNeAt_reads ra rb (lay_of d hd hb.1) (lay_of e he_ hb.2) hu
  have ru := room_here hu
  match d, e with
  | .non, .non => exact absurd ⟨(show (0 : Nat) < bigD by decide), (show (0 : Nat) < bigD by decide)⟩ hb
  | .non, .bl z => exact absurd ⟨(show (0 : Nat) < bigD by decide), (show (0 : Nat) < bigD by decide)⟩ hb
  | .non, .int z => exact absurd ⟨(show (0 : Nat) < bigD by decide), (show (0 : Nat) < bigD by decide)⟩ hb
  | .non, .str z => exact absurd ⟨(show (0 : Nat) < bigD by decide), (show (0 : Nat) < bigD by decide)⟩ hb
  | .bl y, .non => exact absurd ⟨(show (0 : Nat) < bigD by decide), (show (0 : Nat) < bigD by decide)⟩ hb
  | .bl y, .bl z => exact absurd ⟨(show (0 : Nat) < bigD by decide), (show (0 : Nat) < bigD by decide)⟩ hb
  | .bl y, .int z => exact absurd ⟨(show (0 : Nat) < bigD by decide), (show (0 : Nat) < bigD by decide)⟩ hb
  | .bl y, .str z => exact absurd ⟨(show (0 : Nat) < bigD by decide), (show (0 : Nat) < bigD by decide)⟩ hb
  | .int y, .non => exact absurd ⟨(show (0 : Nat) < bigD by decide), (show (0 : Nat) < bigD by decide)⟩ hb
  | .int y, .bl z => exact absurd ⟨(show (0 : Nat) < bigD by decide), (show (0 : Nat) < bigD by decide)⟩ hb
  | .int y, .int z => exact absurd ⟨(show (0 : Nat) < bigD by decide), (show (0 : Nat) < bigD by decide)⟩ hb
  | .int y, .str z => exact absurd ⟨(show (0 : Nat) < bigD by decide), (show (0 : Nat) < bigD by decide)⟩ hb
  | .str y, .non => exact absurd ⟨(show (0 : Nat) < bigD by decide), (show (0 : Nat) < bigD by decide)⟩ hb
  | .str y, .bl z => exact absurd ⟨(show (0 : Nat) < bigD by decide), (show (0 : Nat) < bigD by decide)⟩ hb
  | .str y, .int z => exact absurd ⟨(show (0 : Nat) < bigD by decide), (show (0 : Nat) < bigD by decide)⟩ hb
  | .str y, .str z => exact absurd ⟨(show (0 : Nat) < bigD by decide), (show (0 : Nat) < bigD by decide)⟩ hb
  | .non, .dic _ => obtain ⟨p, e1, h1⟩ := isD_of' rb; subst e1; cases ra; exact RcNeAt_none_d h1 ru
  | .non, .lst l => obtain ⟨p, vs, cs, e1, h1, _⟩ := isL_of rb; subst e1; cases ra; exact RcNeAt.none_list h1 ru
  | .non, .tup l => obtain ⟨p, vs, cs, e1, h1, _⟩ := isT_of rb; subst e1; cases ra; exact RcNeAt.none_tuple h1 ru
  | .dic _, .non => obtain ⟨p, e1, h1⟩ := isD_of' ra; subst e1; cases rb; exact RcNeAt_d_none h1 ru
  | .lst l, .non => obtain ⟨p, vs, cs, e1, h1, _⟩ := isL_of ra; subst e1; cases rb; exact RcNeAt.list_none h1 ru
  | .tup l, .non => obtain ⟨p, vs, cs, e1, h1, _⟩ := isT_of ra; subst e1; cases rb; exact RcNeAt.tuple_none h1 ru
  | .bl y, .dic _ => obtain ⟨p, e1, h1⟩ := isD_of' rb; subst e1; cases ra; exact RcNeAt_bool_d _ h1 ru
  | .bl y, .lst l => obtain ⟨p, vs, cs, e1, h1, _⟩ := isL_of rb; subst e1; cases ra; exact RcNeAt.bool_list _ h1 ru
  | .bl y, .tup l => obtain ⟨p, vs, cs, e1, h1, _⟩ := isT_of rb; subst e1; cases ra; exact RcNeAt.bool_tuple _ h1 ru
  | .dic _, .bl y => obtain ⟨p, e1, h1⟩ := isD_of' ra; subst e1; cases rb; exact RcNeAt_d_bool _ h1 ru
  | .lst l, .bl y => obtain ⟨p, vs, cs, e1, h1, _⟩ := isL_of ra; subst e1; cases rb; exact RcNeAt.list_bool _ h1 ru
  | .tup l, .bl y => obtain ⟨p, vs, cs, e1, h1, _⟩ := isT_of ra; subst e1; cases rb; exact RcNeAt.tuple_bool _ h1 ru
  | .int y, .dic _ => obtain ⟨p, e1, h1⟩ := isD_of' rb; subst e1; cases ra; exact RcNeAt_int_d _ _ h1 ru
  | .int y, .lst l => obtain ⟨p, vs, cs, e1, h1, _⟩ := isL_of rb; subst e1; cases ra; exact RcNeAt.int_list _ _ h1 ru
  | .int y, .tup l => obtain ⟨p, vs, cs, e1, h1, _⟩ := isT_of rb; subst e1; cases ra; exact RcNeAt.int_tuple _ _ h1 ru
  | .dic _, .int y => obtain ⟨p, e1, h1⟩ := isD_of' ra; subst e1; cases rb; exact RcNeAt_d_int _ _ h1 ru
  | .lst l, .int y => obtain ⟨p, vs, cs, e1, h1, _⟩ := isL_of ra; subst e1; cases rb; exact RcNeAt.list_int _ _ h1 ru
  | .tup l, .int y => obtain ⟨p, vs, cs, e1, h1, _⟩ := isT_of ra; subst e1; cases rb; exact RcNeAt.tuple_int _ _ h1 ru
  | .str y, .dic _ => obtain ⟨p, e1, h1⟩ := isD_of' rb; subst e1; cases ra; exact RcNeAt_str_d _ _ h1 ru
  | .str y, .lst l => obtain ⟨p, vs, cs, e1, h1, _⟩ := isL_of rb; subst e1; cases ra; exact RcNeAt.str_list _ _ h1 ru
  | .str y, .tup l => obtain ⟨p, vs, cs, e1, h1, _⟩ := isT_of rb; subst e1; cases ra; exact RcNeAt.str_tuple _ _ h1 ru
  | .dic _, .str y => obtain ⟨p, e1, h1⟩ := isD_of' ra; subst e1; cases rb; exact RcNeAt_d_str _ _ h1 ru
  | .lst l, .str y => obtain ⟨p, vs, cs, e1, h1, _⟩ := isL_of ra; subst e1; cases rb; exact RcNeAt.list_str _ _ h1 ru
  | .tup l, .str y => obtain ⟨p, vs, cs, e1, h1, _⟩ := isT_of ra; subst e1; cases rb; exact RcNeAt.tuple_str _ _ h1 ru
  | .dic _, .dic _ => exact hs.elim (fun z => absurd z (Nat.lt_irrefl _)) fun z => absurd z (Nat.lt_irrefl _)
  | .dic _, .lst l => obtain ⟨p, e1, h1⟩ := isD_of' ra; obtain ⟨q, vs, cs, e2, h2, _⟩ := isL_of rb; subst e1 e2; exact RcNeAt_d_list h2 h1 ru
  | .lst l, .dic _ => obtain ⟨p, e1, h1⟩ := isD_of' rb; obtain ⟨q, vs, cs, e2, h2, _⟩ := isL_of ra; subst e1 e2; exact RcNeAt_list_d h2 h1 ru
  | .dic _, .tup l => obtain ⟨p, e1, h1⟩ := isD_of' ra; obtain ⟨q, vs, cs, e2, h2, _⟩ := isT_of rb; subst e1 e2; exact RcNeAt_d_tuple h2 h1 ru
  | .tup l, .dic _ => obtain ⟨p, e1, h1⟩ := isD_of' rb; obtain ⟨q, vs, cs, e2, h2, _⟩ := isT_of ra; subst e1 e2; exact RcNeAt_tuple_d h2 h1 ru
  | .lst l, .tup k => obtain ⟨p, vs, cs, e1, h1, _⟩ := isL_of ra; obtain ⟨q, ws, ds, e2, h2, _⟩ := isT_of rb; subst e1 e2; exact RcNeAt.list_tuple h1 h2 ru
  | .tup l, .lst k => obtain ⟨p, vs, cs, e1, h1, _⟩ := isT_of ra; obtain ⟨q, ws, ds, e2, h2, _⟩ := isL_of rb; subst e1 e2; exact RcNeAt.tuple_list h1 h2 ru
  | .lst l, .lst k =>
    obtain ⟨p, vs, cs, e1, h1, r1⟩ := isL_of ra
    obtain ⟨q, ws, ds, e2, h2, r2⟩ := isL_of rb
    subst e1 e2
    show RcNeAt A s (.ref p) (.ref q) (!PyData.eqvAll (D.pyAll l) (D.pyAll k))
    have n1 : vs.size = (D.pyAll l).length := by simpa using ReadsAll.length _ _ _ r1
    have n2 : ws.size = (D.pyAll k).length := by simpa using ReadsAll.length _ _ _ r2
    have hs' : D.depL l < bigD ∨ D.depL k < bigD := hs.imp (fun z => Nat.lt_of_succ_lt z) fun z => Nat.lt_of_succ_lt z
    have he : ∀ j (j1 : j < vs.size) (j2 : j < ws.size), EqAt A.in1 s vs[j] ws[j] (pairEq (D.pyAll l) (D.pyAll k) j) := fun j j1 j2 => by
      have := Em.eqDL l k A.in1 s vs.toList ws.toList _ _ r1 r2 hd he_ hs' (room_in hu) j (by simpa using j1) (by simpa using j2)
      simpa using this
    by_cases hsz : vs.size = ws.size
    · rw [← eqvAll_same_length (by omega : (D.pyAll l).length = (D.pyAll k).length), ← n1]
      exact RcNeAt.lists h1 h2 hsz ru he
    · rw [eqvAll_other_length (by omega : (D.pyAll l).length ≠ (D.pyAll k).length)]
      exact RcNeAt.lists_lengths h1 h2 (by simpa using hsz) ru
  | .tup l, .tup k =>
    obtain ⟨p, vs, cs, e1, h1, r1⟩ := isT_of ra
    obtain ⟨q, ws, ds, e2, h2, r2⟩ := isT_of rb
    subst e1 e2
    show RcNeAt A s (.ref p) (.ref q) (!PyData.eqvAll (D.pyAll l) (D.pyAll k))
    have n1 : vs.size = (D.pyAll l).length := by simpa using ReadsAll.length _ _ _ r1
    have n2 : ws.size = (D.pyAll k).length := by simpa using ReadsAll.length _ _ _ r2
    have hs' : D.depL l < bigD ∨ D.depL k < bigD := hs.imp (fun z => Nat.lt_of_succ_lt z) fun z => Nat.lt_of_succ_lt z
    have he : ∀ j (j1 : j < vs.size) (j2 : j < ws.size), EqAt A.in1 s vs[j] ws[j] (pairEq (D.pyAll l) (D.pyAll k) j) := fun j j1 j2 => by
      have := Em.eqDL l k A.in1 s vs.toList ws.toList _ _ r1 r2 hd he_ hs' (room_in hu) j (by simpa using j1) (by simpa using j2)
      simpa using this
    rw [← eqvAll_eq (D.pyAll l) (D.pyAll k), ← n1, ← n2]
    exact RcNeAt.tuples h1 h2 ru he
theorem bad_ne {x : Str} (h : PyData.strOk x = true) : x ≠ noTxt := fun e => by
  rw [e] at h
  exact absurd h (by decide +kernel)
mutual
theorem eq_py : ∀ d e : D, d.okS = true → e.okS = true → (d.dep < bigD ∨ e.dep < bigD) → PyData.eqv d.py e.py = PyData.eqv d.pq e.pq
  | .lst l, .lst k, hd, he, hs => eq_pyL l k hd he (hs.imp (fun z => Nat.lt_of_succ_lt z) fun z => Nat.lt_of_succ_lt z)
  | .tup l, .tup k, hd, he, hs => eq_pyL l k hd he (hs.imp (fun z => Nat.lt_of_succ_lt z) fun z => Nat.lt_of_succ_lt z)
  | .dic _, .dic _, _, _, hs => hs.elim (fun z => absurd z (Nat.lt_irrefl _)) fun z => absurd z (Nat.lt_irrefl _)
  | .dic _, .str x, _, he, _ => by
    show false = (noTxt == x)
    exact (beq_eq_false_iff_ne.mpr (Ne.symm (bad_ne he))).symm
  | .str x, .dic _, hd, _, _ => by
    show false = (x == noTxt)
    exact (beq_eq_false_iff_ne.mpr (bad_ne hd)).symm
  | .non, .non, _, _, _ => rfl
  | .non, .bl _, _, _, _ => rfl
  | .non, .int _, _, _, _ => rfl
  | .non, .str _, _, _, _ => rfl
  | .non, .lst _, _, _, _ => rfl
  | .non, .tup _, _, _, _ => rfl
  | .non, .dic _, _, _, _ => rfl
  | .bl _, .non, _, _, _ => rfl
  | .bl _, .bl _, _, _, _ => rfl
  | .bl _, .int _, _, _, _ => rfl
  | .bl _, .str _, _, _, _ => rfl
  | .bl _, .lst _, _, _, _ => rfl
  | .bl _, .tup _, _, _, _ => rfl
  | .bl _, .dic _, _, _, _ => rfl
  | .int _, .non, _, _, _ => rfl
  | .int _, .bl _, _, _, _ => rfl
  | .int _, .int _, _, _, _ => rfl
  | .int _, .str _, _, _, _ => rfl
  | .int _, .lst _, _, _, _ => rfl
  | .int _, .tup _, _, _, _ => rfl
  | .int _, .dic _, _, _, _ => rfl
  | .str _, .non, _, _, _ => rfl
  | .str _, .bl _, _, _, _ => rfl
  | .str _, .int _, _, _, _ => rfl
  | .str _, .str _, _, _, _ => rfl
  | .str _, .lst _, _, _, _ => rfl
  | .str _, .tup _, _, _, _ => rfl
  | .lst _, .non, _, _, _ => rfl
  | .lst _, .bl _, _, _, _ => rfl
  | .lst _, .int _, _, _, _ => rfl
  | .lst _, .str _, _, _, _ => rfl
  | .lst _, .tup _, _, _, _ => rfl
  | .lst _, .dic _, _, _, _ => rfl
  | .tup _, .non, _, _, _ => rfl
  | .tup _, .bl _, _, _, _ => rfl
  | .tup _, .int _, _, _, _ => rfl
  | .tup _, .str _, _, _, _ => rfl
  | .tup _, .lst _, _, _, _ => rfl
  | .tup _, .dic _, _, _, _ => rfl
  | .dic _, .non, _, _, _ => rfl
  | .dic _, .bl _, _, _, _ => rfl
  | .dic _, .int _, _, _, _ => rfl
  | .dic _, .lst _, _, _, _ => rfl
  | .dic _, .tup _, _, _, _ => rfl
theorem eq_pyL : ∀ l k : List D, D.okSL l = true → D.okSL k = true → (D.depL l < bigD ∨ D.depL k < bigD) → PyData.eqvAll (D.pyAll l) (D.pyAll k) = PyData.eqvAll (D.pqAll l) (D.pqAll k)
  | [], [], _, _, _ => rfl
  | [], _ :: _, _, _, _ => rfl
  | _ :: _, [], _, _, _ => rfl
  | x :: l, y :: k, hd, he, hs => by
    have hd' : x.okS = true ∧ D.okSL l = true := by simpa [D.okSL] using hd
    have he' : y.okS = true ∧ D.okSL k = true := by simpa [D.okSL] using he
    have hs1 : x.dep < bigD ∨ y.dep < bigD := hs.imp (fun z => Nat.lt_of_le_of_lt (Nat.le_max_left _ _) z) fun z => Nat.lt_of_le_of_lt (Nat.le_max_left _ _) z
    have hs2 : D.depL l < bigD ∨ D.depL k < bigD := hs.imp (fun z => Nat.lt_of_le_of_lt (Nat.le_max_right _ _) z) fun z => Nat.lt_of_le_of_lt (Nat.le_max_right _ _) z
    show (PyData.eqv x.py y.py && PyData.eqvAll (D.pyAll l) (D.pyAll k)) = (PyData.eqv x.pq y.pq && PyData.eqvAll (D.pqAll l) (D.pqAll k))
    rw [eq_py x y hd'.1 he'.1 hs1, eq_pyL l k hd'.2 he'.2 hs2]
end
theorem any_pq {d : D} (hd : d.okS = true) : ∀ l : List D, D.okSL l = true → (D.depL l < bigD ∨ d.dep < bigD) → (l.any fun y => PyData.eqv y.py d.py) = l.any fun y => PyData.eqv y.pq d.pq
  | [], _, _ => rfl
  | x :: l, he, hs => by
    have he' : x.okS = true ∧ D.okSL l = true := by simpa [D.okSL] using he
    rw [List.any_cons, List.any_cons, eq_py x d he'.1 hd (hs.imp (fun z => Nat.lt_of_le_of_lt (Nat.le_max_left _ _) z) id), any_pq hd l he'.2 (hs.imp (fun z => Nat.lt_of_le_of_lt (Nat.le_max_right _ _) z) id)]
def kindT : PyData → String
  | .list _ => "list"
  | .tuple _ => "tuple"
  | .dict _ => "dict"
  | _ => ""
theorem kind_of {h : Heap} {p : Addr} {d : PyData} {as : List Addr} (r : Reads h (.ref p) d as) : ∃ o, h.get? p = some o ∧ o.cls = .type (kindT d) := by
  cases r with
  | list h1 h2 _ _ => exact ⟨_, h1, h2⟩
  | tuple h1 h2 _ _ => exact ⟨_, h1, h2⟩
  | dict h1 h2 _ _ _ => exact ⟨_, h1, h2⟩
theorem ref_of {h : Heap} {v : Value} {d : PyData} {as : List Addr} (r : Reads h v d as) (hk : kindT d ≠ "") : ∃ p, v = .ref p := by
  cases r with
  | list h1 h2 _ _ => exact ⟨_, rfl⟩
  | tuple h1 h2 _ _ => exact ⟨_, rfl⟩
  | dict h1 h2 _ _ _ => exact ⟨_, rfl⟩
  | _ => exact absurd rfl hk
theorem kind_eq {h : Heap} {v : Value} {d e : PyData} {as bs : List Addr} (ra : Reads h v d as) (rb : Reads h v e bs) (hk : kindT d ≠ "" := by simp [kindT]) : kindT d = kindT e := by
  obtain ⟨p, rfl⟩ := ref_of ra hk
  obtain ⟨o1, e1, e2⟩ := kind_of ra
  obtain ⟨o2, e3, e4⟩ := kind_of rb
  rw [e1] at e3
  cases e3
  rw [e2] at e4
  simpa using e4
theorem uniqS {h : Heap} : ∀ {k l : List Str} {vs : List Value} {as bs : List Addr}, ReadsAll h vs (k.map PyData.str) as → ReadsAll h vs (l.map PyData.str) bs → k = l
  | [], [], _, _, _, _, _ => rfl
  | [], _ :: _, _, _, _, ra, rb => by cases ra; cases rb
  | _ :: _, [], _, _, _, ra, rb => by cases rb; cases ra
  | x :: k, y :: l, _, _, _, ra, rb => by
    cases ra with
    | cons a1 a2 =>
      cases rb with
      | cons b1 b2 =>
        have e := uniqS a2 b2
        cases a1
        cases b1
        rw [e]
theorem pair_ext : ∀ {k l : List (Str × Str)}, k.map (·.1) = l.map (·.1) → k.map (·.2) = l.map (·.2) → k = l
  | [], [], _, _ => rfl
  | [], _ :: _, h, _ => by cases h
  | _ :: _, [], h, _ => by cases h
  | (a, b) :: k, (c, d) :: l, h1, h2 => by
    simp only [List.map_cons, List.cons.injEq] at h1 h2
    rw [h1.1, h2.1, pair_ext h1.2 h2.2]
mutual
theorem uniq {h : Heap} : ∀ (d d' : D) (v : Value) (as bs : List Addr), Reads h v d.py as → Reads h v d'.py bs → d.py = d'.py := by
  intro d d' v as bs ra rb
  match d, d' with
  | .non, .non => rfl
  | .bl _, .bl _ => cases ra; cases rb; rfl
  | .int _, .int _ => cases ra; cases rb; rfl
  | .str _, .str _ => cases ra; cases rb; rfl
  | .dic k, .dic l =>
    cases ra with
    | dict h1 h2 h3 h4 h5 =>
      cases rb with
      | dict k1 k2 k3 k4 k5 =>
        rw [h1] at k1; cases k1
        rw [h3] at k3; cases k3
        simp only [List.map_map] at h4 h5 k4 k5
        have e1 := uniqS (k := k.map (·.1)) (l := l.map (·.1)) (by rw [List.map_map]; exact h4) (by rw [List.map_map]; exact k4)
        have e2 := uniqS (k := k.map (·.2)) (l := l.map (·.2)) (by rw [List.map_map]; exact h5) (by rw [List.map_map]; exact k5)
        rw [pair_ext e1 e2]
  | .lst l, .lst k =>
    cases ra with
    | list h1 h2 h3 h4 =>
      cases rb with
      | list k1 k2 k3 k4 =>
        rw [h1] at k1; cases k1
        rw [h3] at k3; cases k3
        exact congrArg PyData.list (uniqL l k _ _ _ h4 k4)
  | .tup l, .tup k =>
    cases ra with
    | tuple h1 h2 h3 h4 =>
      cases rb with
      | tuple k1 k2 k3 k4 =>
        rw [h1] at k1; cases k1
        rw [h3] at k3; cases k3
        exact congrArg PyData.tuple (uniqL l k _ _ _ h4 k4)
  | .non, .bl _ => cases ra <;> cases rb
  | .non, .int _ => cases ra <;> cases rb
  | .non, .str _ => cases ra <;> cases rb
  | .non, .lst _ => cases ra <;> cases rb
  | .non, .tup _ => cases ra <;> cases rb
  | .non, .dic _ => cases ra <;> cases rb
  | .bl _, .non => cases ra <;> cases rb
  | .bl _, .int _ => cases ra <;> cases rb
  | .bl _, .str _ => cases ra <;> cases rb
  | .bl _, .lst _ => cases ra <;> cases rb
  | .bl _, .tup _ => cases ra <;> cases rb
  | .bl _, .dic _ => cases ra <;> cases rb
  | .int _, .non => cases ra <;> cases rb
  | .int _, .bl _ => cases ra <;> cases rb
  | .int _, .str _ => cases ra <;> cases rb
  | .int _, .lst _ => cases ra <;> cases rb
  | .int _, .tup _ => cases ra <;> cases rb
  | .int _, .dic _ => cases ra <;> cases rb
  | .str _, .non => cases ra <;> cases rb
  | .str _, .bl _ => cases ra <;> cases rb
  | .str _, .int _ => cases ra <;> cases rb
  | .str _, .lst _ => cases ra <;> cases rb
  | .str _, .tup _ => cases ra <;> cases rb
  | .str _, .dic _ => cases ra <;> cases rb
  | .lst _, .non => cases ra <;> cases rb
  | .lst _, .bl _ => cases ra <;> cases rb
  | .lst _, .int _ => cases ra <;> cases rb
  | .lst _, .str _ => cases ra <;> cases rb
  | .lst _, .tup _ => exact absurd (kind_eq ra rb (by simp [D.py, kindT])) (by simp [D.py, kindT])
  | .lst _, .dic _ => exact absurd (kind_eq ra rb (by simp [D.py, kindT])) (by simp [D.py, kindT])
  | .tup _, .non => cases ra <;> cases rb
  | .tup _, .bl _ => cases ra <;> cases rb
  | .tup _, .int _ => cases ra <;> cases rb
  | .tup _, .str _ => cases ra <;> cases rb
  | .tup _, .lst _ => exact absurd (kind_eq ra rb (by simp [D.py, kindT])) (by simp [D.py, kindT])
  | .tup _, .dic _ => exact absurd (kind_eq ra rb (by simp [D.py, kindT])) (by simp [D.py, kindT])
  | .dic _, .non => cases ra <;> cases rb
  | .dic _, .bl _ => cases ra <;> cases rb
  | .dic _, .int _ => cases ra <;> cases rb
  | .dic _, .str _ => cases ra <;> cases rb
  | .dic _, .lst _ => exact absurd (kind_eq ra rb (by simp [D.py, kindT])) (by simp [D.py, kindT])
  | .dic _, .tup _ => exact absurd (kind_eq ra rb (by simp [D.py, kindT])) (by simp [D.py, kindT])
termination_by d => sizeOf d
theorem uniqL {h : Heap} : ∀ (l k : List D) (vs : List Value) (as bs : List Addr), ReadsAll h vs (D.pyAll l) as → ReadsAll h vs (D.pyAll k) bs → D.pyAll l = D.pyAll k
  | [], [], _, _, _, _, _ => rfl
  | [], _ :: _, _, _, _, ra, rb => by cases ra; cases rb
  | _ :: _, [], _, _, _, ra, rb => by cases rb; cases ra
  | d :: l, e :: k, _, _, _, ra, rb => by
    cases ra with
    | cons r1 r2 =>
      cases rb with
      | cons q1 q2 =>
        show d.py :: D.pyAll l = e.py :: D.pyAll k
        rw [uniq d e _ _ _ r1 q1, uniqL l k _ _ _ r2 q2]
termination_by l => sizeOf l
end
section
open Classical
noncomputable def anyE (h : Heap) (l : List D) (d : D) (y : Value) : Bool := decide (∃ e ∈ l, ∃ cs, Reads h y e.py cs ∧ PyData.eqv e.py d.py = true)
theorem anyE_is {h : Heap} {l : List D} {d e : D} {y : Value} {cs : List Addr} (he : e ∈ l) (r : Reads h y e.py cs) : anyE h l d y = PyData.eqv e.py d.py := by
  unfold anyE
  cases q : PyData.eqv e.py d.py with
  | true => exact decide_eq_true ⟨e, he, cs, r, q⟩
  | false =>
    refine decide_eq_false fun ⟨e', he', cs', r', q'⟩ => ?_
    rw [uniq e' e y _ _ r' r, q] at q'
    cases q'
theorem mem_reads {h : Heap} : ∀ (l : List D) (vs : List Value) (as : List Addr), ReadsAll h vs (D.pyAll l) as → ∀ y ∈ vs, ∃ e ∈ l, ∃ cs, Reads h y e.py cs
  | [], _, _, r, y, hy => by cases r; cases hy
  | d :: l, _, _, r, y, hy => by
    cases r with
    | cons r1 r2 =>
      rcases List.mem_cons.mp hy with z | z
      · exact ⟨d, .head _, _, by rw [z]; exact r1⟩
      · obtain ⟨e, he, cs, q⟩ := mem_reads l _ _ r2 y z
        exact ⟨e, .tail _ he, cs, q⟩
theorem anyE_all {h : Heap} {L : List D} {d : D} : ∀ (l : List D) (vs : List Value) (as : List Addr), (∀ e ∈ l, e ∈ L) → ReadsAll h vs (D.pyAll l) as → vs.any (anyE h L d) = l.any fun y => PyData.eqv y.py d.py
  | [], _, _, _, r => by cases r; rfl
  | e :: l, _, _, hl, r => by
    cases r with
    | cons r1 r2 => rw [List.any_cons, List.any_cons, anyE_all l _ _ (fun x hx => hl x (.tail _ hx)) r2, anyE_is (hl e (.head _)) r1]
theorem dep_mem : ∀ {l : List D} {e : D}, e ∈ l → e.dep ≤ D.depL l
  | d :: l, e, h => by
    rcases List.mem_cons.mp h with rfl | h
    · exact Nat.le_max_left _ _
    · exact Nat.le_trans (dep_mem h) (Nat.le_max_right _ _)
theorem okS_mem : ∀ {l : List D} {e : D}, D.okSL l = true → e ∈ l → e.okS = true
  | d :: l, e, h, he => by
    have h' : d.okS = true ∧ D.okSL l = true := by simpa [D.okSL] using h
    rcases List.mem_cons.mp he with rfl | he
    · exact h'.1
    · exact okS_mem h'.2 he
theorem in_at {l : List D} {d : D} {A : Around} {s : Shared} {x : Value} {vs : Array Value} {as bs : List Addr} (rs : ReadsAll s.heap vs.toList (D.pyAll l) as) (rx : Reads s.heap x d.py bs) (hl : D.okSL l = true) (hd : d.okS = true)
    (hs : D.depL l < bigD ∨ d.dep < bigD) (hu : A.units + 1 + min (D.depL l) d.dep < cLine) : ∀ y, y ∈ vs → EqAt A.in1 s y x (anyE s.heap l d y) := fun y hy => by
  obtain ⟨e, he, cs, r⟩ := mem_reads l _ _ rs y (by simpa using hy)
  rw [anyE_is he r]
  have h1 := dep_mem he
  have h2 := e.dep_py
  have h3 := d.dep_py
  refine eqD e d A.in1 s y x _ _ r rx (okS_mem hl he) hd (hs.imp (fun z => Nat.lt_of_le_of_lt h1 z) id) ?_
  show A.units + 1 + min e.py.depth d.py.depth < cLine
  omega
theorem in_arr {l : List D} {d : D} {h : Heap} {vs : Array Value} {as : List Addr} (rs : ReadsAll h vs.toList (D.pyAll l) as) : vs.any (anyE h l d) = l.any fun y => PyData.eqv y.py d.py := by
  rw [← Array.any_toList]
  exact anyE_all l _ _ (fun _ z => z) rs
end
end Em
end Dl
namespace Dl
open PySem PySem.Spec PyProof.Rows L2 NdefX
def D.eq (d e : D) : Bool := PyData.eqv d.pq e.pq
theorem pyAll_eq (l : List D) : D.pyAll l = l.map D.py := by
  induction l with
  | nil => rfl
  | cons d l ih => show d.py :: D.pyAll l = _; rw [ih]; rfl
theorem paired_nil {α β : Type} {F : α → β → Prop} {xs : List α} {ys : List β} (h : Paired F xs ys) : xs = [] ↔ ys = [] := by
  cases h <;> simp
section
variable {X : Cx} {pins : List (Addr × Obj)} {σ : St} {H : Hp} {s : Shared}
theorem op_catR : OpR X (binaryOp .Add) (fun x y H Q => ∃ l b xs zs, x = .ref l ∧ y = .ref b ∧ SqL X.K H l xs ∧ SqL X.K H b zs ∧ xs.length + zs.length ≤ sizeLine ∧ ∀ p, H p = none → Q (.ref p) (upd H p (.lst (xs ++ zs)))) := by
  intro pins s σ H x y v u Q I rx ry h
  obtain ⟨l, b, xs, zs, rfl, rfl, hH, hB, hz, q⟩ := h
  cases rx
  cases ry
  obtain ⟨its, r, ⟨⟨cls, dd, data, sl⟩, n, ho, hc, hdn, hd⟩, z⟩ := I.list hH
  obtain ⟨its2, r2, ⟨⟨cls2, dd2, data2, sl2⟩, n2, ho2, hc2, hdn2, hd2⟩, z2⟩ := I.list hB
  simp only at hc hd hc2 hd2
  subst hc hd hc2 hd2
  have hl := r.length
  have hl2 := r2.length
  refine concat_meets ⟨_, ho, rfl⟩ ⟨_, ho2, rfl⟩ noFill_list_add seq_list_add PySem.F.slot_list_add PySem.F.entry_list_add (PySem.F.args_list_add_2 _ _) (list_addW l b its.toArray its2.toArray n n2 dd dd2 sl sl2 (by rw [List.size_toArray, List.size_toArray]; omega)) ⟨ho, ho2, ?_⟩
  have ea : its.toArray ++ its2.toArray = (its ++ its2).toArray := by simp
  rw [ea]
  exact ⟨.ref _, _, I.lnew (t' := s.toks) (r.append r2) (by rw [List.length_append]; omega), rfl, q _ I.fresh⟩
theorem os_add : OpS X (binaryOp .Add) gAdd := by
  refine ⟨_, op_add.or (op_add_str.or (op_catA.or op_catR)), fun x y d e rv H F fh nt rx ry h Q q => ?_⟩
  cases d <;> cases e <;> first | (simp only [gAdd] at h; cases h; done) | skip
  · simp only [gAdd, Option.some.injEq] at h; subst h
    cases rx; cases ry
    exact .inl ⟨_, _, rfl, rfl, new_val fh nt q (.int _)⟩
  · simp only [gAdd] at h
    split at h
    · rename_i hc
      simp only [Option.some.injEq] at h; subst h
      cases rx with | str _ q1 => cases ry with | str _ q2 => exact .inr (.inl ⟨_, _, rfl, rfl, hc, new_val fh nt q (.str _ (sOk_app q1 q2 hc))⟩)
    · cases h
  · simp only [gAdd] at h
    split at h
    · rename_i hc
      simp only [Option.some.injEq] at h; subst h
      obtain ⟨_, a, xs, e1, s1, p1⟩ := rx
      obtain ⟨_, b, ys, e2, s2, p2⟩ := ry
      have l1 := p1.length
      have l2 := p2.length
      exact .inr (.inr (.inr ⟨a, b, xs, ys, e1, e2, s1, s2, by omega, fun p hp => new_lst fh nt q hp (by rw [List.length_append]; exact hc) (Pr.append p1 p2)⟩))
    · cases h
  · simp only [gAdd] at h
    split at h
    · rename_i hc
      simp only [Option.some.injEq] at h; subst h
      cases rx with
      | @tup a xs _ z1' s1 p1 =>
      cases ry with
      | @tup b ys _ z2' s2 p2 =>
        have l1 := p1.length
        have l2 := p2.length
        refine .inr (.inr (.inl ⟨a, b, xs, ys, rfl, rfl, sqT_mono fh s1, sqT_mono fh s2, by omega, fun z => ?_, fun z1 z => ?_, fun z1 z2 p hp => new_tup fh nt q hp (by rw [List.length_append]; exact hc) (Pr.append p1 p2)⟩))
        · have z' := (paired_nil p1).mp z
          subst z'
          exact new_val fh nt q (.tup z2' s2 p2)
        · have z' := (paired_nil p2).mp z
          subst z'
          refine new_val fh nt q ?_
          rw [List.append_nil]
          exact .tup z1' s1 p1
    · cases h
theorem small_of {u rm : Nat} {d e : D} (hu : u + rm < cLine) (hm : min d.dep e.dep ≤ rm) : d.dep < bigD ∨ e.dep < bigD := by
  have c : cLine < bigD := by decide
  omega
def gEq (rm : Nat) (d e : D) : Option RV := if min d.dep e.dep ≤ rm then some (.dat (.bl (d.eq e))) else none
def gNe (rm : Nat) (d e : D) : Option RV := if min d.dep e.dep ≤ rm then some (.dat (.bl (!d.eq e))) else none
theorem os_eq {rm : Nat} (hu : X.A.units + rm < cLine) : OpS X (compareOp .Eq) (gEq rm) := by
  refine ⟨fun x y H Q => ∃ d e : D, Rp X.K H x d ∧ Rp X.K H y e ∧ min d.dep e.dep ≤ rm ∧ Q (.bl (d.eq e)) H, ?_, fun x y d e rv H F fh nt rx ry h Q q => ?_⟩
  · intro pins s σ H x y v u Q I rx ry h
    obtain ⟨d, e, h1, h2, hm, q⟩ := h
    obtain ⟨as, r1⟩ := Rp.reads I d x v h1 rx
    obtain ⟨bs, r2⟩ := Rp.reads I e y u h2 ry
    have a1 := d.dep_py
    have a2 := e.dep_py
    refine Em.rcD d e X.A s v u as bs r1 r2 (h1.okS d x) (h2.okS e y) (small_of hu hm) (by omega) X.prog X.w _ _ ?_
    rw [Em.eq_py d e (h1.okS d x) (h2.okS e y) (small_of hu hm)]
    exact ⟨.bl _, H, I, rfl, q⟩
  · unfold gEq at h
    split at h
    · rename_i hc
      simp only [Option.some.injEq] at h; subst h
      exact ⟨d, e, rx.rp fh, ry.rp fh, hc, new_val fh nt q (.bl _)⟩
    · cases h
theorem os_ne {rm : Nat} (hu : X.A.units + rm < cLine) : OpS X (compareOp .NotEq) (gNe rm) := by
  refine ⟨fun x y H Q => ∃ d e : D, Rp X.K H x d ∧ Rp X.K H y e ∧ min d.dep e.dep ≤ rm ∧ Q (.bl (!d.eq e)) H, ?_, fun x y d e rv H F fh nt rx ry h Q q => ?_⟩
  · intro pins s σ H x y v u Q I rx ry h
    obtain ⟨d, e, h1, h2, hm, q⟩ := h
    obtain ⟨as, r1⟩ := Rp.reads I d x v h1 rx
    obtain ⟨bs, r2⟩ := Rp.reads I e y u h2 ry
    have a1 := d.dep_py
    have a2 := e.dep_py
    refine Em.neD d e X.A s v u as bs r1 r2 (h1.okS d x) (h2.okS e y) (small_of hu hm) (by omega) X.prog X.w _ _ ?_
    rw [Em.eq_py d e (h1.okS d x) (h2.okS e y) (small_of hu hm)]
    exact ⟨.bl _, H, I, rfl, q⟩
  · unfold gNe at h
    split at h
    · rename_i hc
      simp only [Option.some.injEq] at h; subst h
      exact ⟨d, e, rx.rp fh, ry.rp fh, hc, new_val fh nt q (.bl _)⟩
    · cases h
def D.lt (d e : D) : Bool := PySem.W.dataLt d.py e.py
def ordOk (rm : Nat) (d e : D) : Bool := PySem.W.alike d.py e.py && (match d with | .non => false | _ => true) && decide (min d.dep e.dep ≤ rm)
def gOrd (fi : Int → Int → Bool) (fd : D → D → Bool) (rm : Nat) : D → D → Option RV
  | .int i, .int j => some (.dat (.bl (fi i j)))
  | d, e => if ordOk rm d e then some (.dat (.bl (fd d e))) else none
def gLt := gOrd (fun i j => decide (i < j)) fun d e => d.lt e
def gGt := gOrd (fun i j => decide (j < i)) fun d e => e.lt d
def gLe := gOrd (fun i j => decide (i ≤ j)) fun d e => !e.lt d
def gGe := gOrd (fun i j => decide (j ≤ i)) fun d e => !d.lt e
theorem os_ord {op : CmpOp} {fi : Int → Int → Bool} {fd : D → D → Bool} {rm : Nat} (hu : X.A.units + rm < cLine) (hi : OpR X (compareOp op) (rI0 fun i j => .bl (fi i j)))
    (hd : ∀ (s : Shared) (a b : Value) (d e : D) (as bs : List Addr) (Q E : Value → Shared → Prop), Reads s.heap a d.py as → Reads s.heap b e.py bs → PySem.W.alike d.py e.py = true → d.py ≠ .none → X.A.units + min d.py.depth e.py.depth < cLine → Q (.bool (fd d e)) s →
      wpAny (model X.prog X.w) X.A (compareOp op a b) Q E s) : OpS X (compareOp op) (gOrd fi fd rm) := by
  have h2 : OpR X (compareOp op) (fun x y H Q => ∃ d e : D, Rp X.K H x d ∧ Rp X.K H y e ∧ ordOk rm d e = true ∧ Q (.bl (fd d e)) H) := by
    intro pins s σ H x y v u Q I rx ry h
    obtain ⟨d, e, h1, h2, hm, q⟩ := h
    obtain ⟨as, r1⟩ := Rp.reads I d x v h1 rx
    obtain ⟨bs, r2⟩ := Rp.reads I e y u h2 ry
    unfold ordOk at hm
    simp only [Bool.and_eq_true, decide_eq_true_eq] at hm
    obtain ⟨⟨m1, m2⟩, m3⟩ := hm
    have a1 := d.dep_py
    have a2 := e.dep_py
    have m3' : min d.py.depth e.py.depth ≤ rm := by omega
    refine hd s v u d e as bs _ _ r1 r2 m1 (fun z => ?_) (by omega) ⟨.bl _, H, I, rfl, q⟩
    cases d <;> first | (cases z; done) | (simp at m2)
  refine ⟨_, hi.or h2, fun x y d e rv H F fh nt rx ry h Q q => ?_⟩
  unfold gOrd at h
  split at h
  · simp only [Option.some.injEq] at h; subst h
    cases rx; cases ry
    exact .inl ⟨_, _, rfl, rfl, new_val fh nt q (.bl _)⟩
  · split at h
    · rename_i hc
      simp only [Option.some.injEq] at h; subst h
      exact .inr ⟨d, e, rx.rp fh, ry.rp fh, hc, new_val fh nt q (.bl _)⟩
    · cases h
theorem os_lt {rm : Nat} (hu : X.A.units + rm < cLine) : OpS X (compareOp .Lt) (gLt rm) := os_ord hu op_lt fun _ _ _ _ _ _ _ _ _ r1 r2 h1 h2 h3 q => PySem.W.lt_data r1 r2 h1 h2 h3 q
theorem os_gt {rm : Nat} (hu : X.A.units + rm < cLine) : OpS X (compareOp .Gt) (gGt rm) := os_ord hu op_gt fun _ _ _ _ _ _ _ _ _ r1 r2 h1 h2 h3 q => PySem.W.gt_data r1 r2 h1 h2 h3 q
theorem os_le {rm : Nat} (hu : X.A.units + rm < cLine) : OpS X (compareOp .LtE) (gLe rm) := os_ord hu op_le fun _ _ _ _ _ _ _ _ _ r1 r2 h1 h2 h3 q => PySem.W.le_data r1 r2 h1 h2 h3 q
theorem os_ge {rm : Nat} (hu : X.A.units + rm < cLine) : OpS X (compareOp .GtE) (gGe rm) := os_ord hu op_ge fun _ _ _ _ _ _ _ _ _ r1 r2 h1 h2 h3 q => PySem.W.ge_data r1 r2 h1 h2 h3 q
def D.isN : D → Bool
  | .non => true
  | _ => false
def gIs : D → D → Option RV
  | .bl a, .bl b => some (.dat (.bl (decide (a = b))))
  | d, .non => some (.dat (.bl d.isN))
  | _, _ => none
def gIsNot : D → D → Option RV
  | .bl a, .bl b => some (.dat (.bl (!decide (a = b))))
  | d, .non => some (.dat (.bl (!d.isN)))
  | _, _ => none
theorem rv_isN {F : Hp} {x : V} {d : D} (h : Rv X.K F H x d) : decide (x = .non) = d.isN := by
  cases d with
  | lst l => obtain ⟨_, p, vs, e, _⟩ := h; subst e; rfl
  | _ => cases h <;> rfl
theorem os_is : OpS X (compareOp .Is) gIs := by
  refine ⟨_, op_isN.or op_isBl, fun x y d e rv H F fh nt rx ry h Q q => ?_⟩
  unfold gIs at h
  split at h
  · simp only [Option.some.injEq] at h; subst h
    cases rx; cases ry
    exact .inr ⟨_, _, rfl, rfl, new_val fh nt q (.bl _)⟩
  · simp only [Option.some.injEq] at h; subst h
    cases ry
    exact .inl ⟨rfl, new_val fh nt q (by rw [rv_isN rx]; exact .bl _)⟩
  · cases h
abbrev depAll (l : List D) : Nat := D.depL l
def inD (neg : Bool) (rm : Nat) : D → D → Option RV
  | d, .lst l => if 1 + min (depAll l) d.dep ≤ rm then some (.dat (.bl (neg ^^ l.any fun y => y.eq d))) else none
  | d, .tup l => if 1 + min (depAll l) d.dep ≤ rm then some (.dat (.bl (neg ^^ l.any fun y => y.eq d))) else none
  | .str ⟨⟨[c]⟩⟩, .str z => some (.dat (.bl (neg ^^ decide (c ∈ z.cps.toList))))
  | _, _ => none
theorem small_in {u rm a : Nat} {d : D} (hu : u + rm < cLine) (hm : 1 + min a d.dep ≤ rm) : a < bigD ∨ d.dep < bigD := by
  have c : cLine < bigD := by decide
  omega
theorem os_in {rm : Nat} (hu : X.A.units + rm < cLine) : OpS X (compareOp .In) (inD false rm) := by
  refine ⟨fun x y H Q => (∃ d l, Rp X.K H x d ∧ (Rp X.K H y (.lst l) ∨ Rp X.K H y (.tup l)) ∧ 1 + min (depAll l) d.dep ≤ rm ∧ Q (.bl (l.any fun y => y.eq d)) H) ∨ _, OpR.or ?_ op_in_sign, fun x y d e rv H F fh nt rx ry h Q q => ?_⟩
  · intro pins s σ H x y v u Q I rx ry h
    obtain ⟨d, l, h1, h2 | h2, hm, q⟩ := h
    · obtain ⟨as, r1⟩ := Rp.reads I d x v h1 rx
      obtain ⟨bs, r2⟩ := Rp.reads I (.lst l) y u h2 ry
      obtain ⟨p, vs, cs, rfl, e2, r3⟩ := Em.isL_of r2
      refine SeqAt.in_listAt _ e2 (Em.in_at r3 r1 (h2.okS (.lst l) y) (h1.okS d x) (small_in hu hm) (by have z : 1 + min (D.depL l) d.dep ≤ rm := hm; omega)) ?_
      rw [Em.in_arr r3, Em.any_pq (h1.okS d x) l (h2.okS (.lst l) y) (small_in hu hm)]
      exact ⟨.bl _, H, I, rfl, q⟩
    · obtain ⟨as, r1⟩ := Rp.reads I d x v h1 rx
      obtain ⟨bs, r2⟩ := Rp.reads I (.tup l) y u h2 ry
      obtain ⟨p, vs, cs, rfl, e2, r3⟩ := Em.isT_of r2
      refine SeqAt.in_tupleAt _ e2 (Em.in_at r3 r1 (h2.okS (.tup l) y) (h1.okS d x) (small_in hu hm) (by have z : 1 + min (D.depL l) d.dep ≤ rm := hm; omega)) ?_
      rw [Em.in_arr r3, Em.any_pq (h1.okS d x) l (h2.okS (.tup l) y) (small_in hu hm)]
      exact ⟨.bl _, H, I, rfl, q⟩
  · unfold inD at h
    split at h
    · split at h
      · rename_i hc
        simp only [Option.some.injEq, Bool.false_bne] at h; subst h
        exact .inl ⟨d, _, rx.rp fh, .inl (ry.rp fh), hc, new_val fh nt q (.bl _)⟩
      · cases h
    · split at h
      · rename_i hc
        simp only [Option.some.injEq, Bool.false_bne] at h; subst h
        exact .inl ⟨d, _, rx.rp fh, .inr (ry.rp fh), hc, new_val fh nt q (.bl _)⟩
      · cases h
    · simp only [Option.some.injEq, Bool.false_bne] at h; subst h
      cases rx; cases ry
      exact .inr ⟨_, _, rfl, rfl, new_val fh nt q (.bl _)⟩
    · cases h
end
end Dl
namespace Dl
open PySem PySem.Spec PyProof.Rows L2 NdefX
def vals1 (g : D → Option RV) (a : RV) : Option RV := match a.val with
  | some x => g x
  | none => none
theorem vals1_some {g : D → Option RV} {a r : RV} (h : vals1 g a = some r) : ∃ x, a.val = some x ∧ g x = some r := by
  unfold vals1 at h
  cases e : a.val with
  | none => rw [e] at h; cases h
  | some x => rw [e] at h; exact ⟨x, rfl, h⟩
def dUn (g : D → Option RV) (a : Ex) : Ex := fun env w => (a env w).bind fun ra w1 => lift (vals1 g ra) w1
def gNeg : D → Option RV
  | .int i => some (.dat (.int (-i)))
  | _ => none
def gNot : D → Option RV
  | .bl b => some (.dat (.bl (!b)))
  | _ => none
section
variable {X : Cx} {T : Tbs} {Wi : WX} {pos : Pos} {a b c : Expr} {da db dc : Ex} {rest : List Expr}
theorem un_read {g : D → Option RV} {r : V → Hp → VK → Prop} (hr : ∀ x d rv H F, Same F H → NoTbl F → Rv X.K F H x d → g d = some rv → ∀ Q : VK, (∀ v H' F', Xt H F H' F' → rv.newAt X.K H H' F' v → Q v H') → r x H Q)
    {σ : St} {H : Hp} {Q : VK} (q : tD (Cx.tx X T) Wi (dUn g da) σ H Q) : tD (Cx.tx X T) Wi da σ H (fun x H1 => r x H1 Q) := by
  obtain ⟨B, env, w, F, O, M, s, q⟩ := q
  refine ⟨B, env, w, F, O, M, s, q.bind.imp fun ra w1 q1 x H1 F1 M1 s1 st1 r1 => ?_⟩
  obtain ⟨rv, e, q3⟩ := q1.lift
  obtain ⟨d, ea, eg⟩ := vals1_some e
  refine hr x d rv H1 F1 s1.fh s1.nt (RV.rv s1 r1 ea) eg Q fun v H' F' xt nw => ?_
  exact q3 v H' F' M1 (s1.xt xt) (st1.trans xt.stp) (RV.of_new nw s1 st1.th)
theorem je_neg (ha : JE X T Wi a da) : JE X T Wi (.UnaryOp .USub a pos) (dUn gNeg da) := by
  refine (pe_un un_neg ha).impD fun σ H Q q => un_read (r := rU fun i => .int (-i)) (fun x d rv H F fh nt rx h Q q => ?_) q
  cases d <;> first | (simp only [gNeg] at h; cases h; done) | skip
  simp only [gNeg, Option.some.injEq] at h; subst h
  cases rx
  exact ⟨_, rfl, new_val fh nt q (.int _)⟩
def dAnd (a b : Ex) : Ex := fun env w => (a env w).bind fun ra w1 => match ra with
  | .dat (.bl true) => b env w1
  | .dat (.bl false) => .ok (.dat (.bl false)) w1
  | _ => .stuck
def dOr (a b : Ex) : Ex := fun env w => (a env w).bind fun ra w1 => match ra with
  | .dat (.bl false) => b env w1
  | .dat (.bl true) => .ok (.dat (.bl true)) w1
  | _ => .stuck
abbrev Tst := Ev → World → Out Bool
def dTst (a : Ex) : Tst := fun env w => (a env w).bind fun ra w1 => match ra with
  | .dat (.bl b) => .ok b w1
  | _ => .stuck
def D.truth : D → Option Bool
  | .non => some false
  | .bl b => some b
  | .int i => some (i != 0)
  | .str s => some ((s.length : Int) != 0)
  | .lst l => some (!l.isEmpty)
  | .tup l => some (!l.isEmpty)
  | .dic kvs => some (!kvs.isEmpty)
def dTru (a : Ex) : Tst := fun env w => (a env w).bind fun ra w1 => match ra.val with
  | some d => (match d.truth with
    | some b => .ok b w1
    | none => .stuck)
  | none => .stuck
theorem tst_read {σ : St} {H : Hp} {Q : Bool → Hp → Prop} (q : tT (Cx.tx X T) Wi (dTst da) σ H Q) : tD (Cx.tx X T) Wi da σ H (fun x H1 => ∃ c, x = .bl c ∧ Q c H1) := by
  obtain ⟨B, env, w, F, O, M, s, q⟩ := q
  refine ⟨B, env, w, F, O, M, s, q.bind.imp fun ra w1 q1 x H1 F1 M1 s1 st1 r1 => ?_⟩
  split at q1
  · cases r1; exact ⟨_, rfl, q1 _ _ _ s1 st1⟩
  · exact q1.elim
theorem jt_cmp {op : CmpOp} {g : D → D → Option RV} (h : OpS X (compareOp op) g) (ha : JE X T Wi a da) (hb : JE X T Wi b db) (hm : behindInMarks op b = false := by first | exact nomark _ | rfl) : JT X T Wi (.Compare a [op] [b] pos) (dTst (dBin g da db)) := by
  obtain ⟨r, ho, hr⟩ := h
  exact (pt_cmpR ho ha hb hm).impD fun σ H Q q => op_read (f := compareOp op) hr (tst_read q)
theorem jt_truth (ha : JE X T Wi a da) (he : ∀ whole, isTrue a X.env whole = (do let v ← whole; standAt a.pos; holding [v] (truthy v)) := by intro _; rfl) : JT X T Wi a (dTru da) := by
  refine (pt_truth ha he).impD fun σ H Q q => ?_
  obtain ⟨B, env, w, F, O, M, s, q⟩ := q
  refine ⟨B, env, w, F, O, M, s, q.bind.imp fun ra w1 q1 x H1 F1 M1 s1 st1 r1 => ?_⟩
  split at q1
  · rename_i d ed
    split at q1
    · rename_i k ek
      refine ⟨k, ?_, q1 _ _ _ s1 st1⟩
      have rv := RV.rv s1 r1 ed
      cases d with
      | non => cases rv; simp only [D.truth, Option.some.injEq] at ek; exact ek.symm
      | bl b => cases rv; simp only [D.truth, Option.some.injEq] at ek; exact ek.symm
      | int i => cases rv; simp only [D.truth, Option.some.injEq] at ek; exact ek.symm
      | str y =>
        cases rv with
        | str _ ok => simp only [D.truth, Option.some.injEq] at ek; exact ⟨ok.2, ek.symm⟩
      | lst l =>
        obtain ⟨_, p, vs, e, hs, hp⟩ := rv
        subst e
        simp only [D.truth, Option.some.injEq] at ek
        refine .inl ⟨vs, hs, ?_⟩
        rw [← ek]
        cases hp <;> rfl
      | tup l =>
        cases rv with
        | tup hz hs hp =>
          simp only [D.truth, Option.some.injEq] at ek
          refine .inr (.inl ⟨_, sqT_mono s1.fh hs, ?_⟩)
          rw [← ek]
          cases hp <;> rfl
      | dic kvs =>
        cases rv with
        | dic hk qd =>
          simp only [D.truth, Option.some.injEq] at ek
          exact .inr (.inr ⟨mapK kvs, s1.fh _ _ qd, by rw [← ek]; cases kvs <;> rfl⟩)
    · exact q1.elim
  · exact q1.elim
def tNot' (a : Tst) : Tst := fun env w => (a env w).bind fun b w1 => .ok (!b) w1
def tAnd' (a b : Tst) : Tst := fun env w => (a env w).bind fun c w1 => if c = true then b env w1 else .ok false w1
def tOr' (a b : Tst) : Tst := fun env w => (a env w).bind fun c w1 => if c = true then .ok true w1 else b env w1
variable {ta tb : Tst}
theorem jt_not (ha : JT X T Wi a ta) : JT X T Wi (.UnaryOp .Not a pos) (tNot' ta) := by
  refine (pt_not ha).impD fun σ H Q q => ?_
  obtain ⟨B, env, w, F, O, M, s, q⟩ := q
  exact ⟨B, env, w, F, O, M, s, q.bind.imp fun c w1 q1 H1 F1 M1 s1 st1 => q1 H1 F1 M1 s1 st1⟩
theorem jw_and1 (ha : JT X T Wi a ta) : JW X T Wi (.BoolOp .And [a] pos) ta := pw_and1 ha
theorem jw_or1 (ha : JT X T Wi a ta) : JW X T Wi (.BoolOp .Or [a] pos) ta := pw_or1 ha
theorem jw_and (ha : JT X T Wi a ta) (hb : JW X T Wi (.BoolOp .And (b :: rest) pos) tb) : JW X T Wi (.BoolOp .And (a :: b :: rest) pos) (tAnd' ta tb) := by
  refine (pw_and ha hb).impD fun σ H Q q => ?_
  obtain ⟨B, env, w, F, O, M, s, q⟩ := q
  refine ⟨B, env, w, F, O, M, s, q.bind.imp fun c w1 q1 H1 F1 M1 s1 st1 => ?_⟩
  cases c with
  | true =>
    rw [if_pos rfl] at q1 ⊢
    exact ⟨B, env, w1, F1, O, M1, s1, q1.imp fun _ w2 q2 H2 F2 M2 s2 st2 => q2 H2 F2 M2 s2 (st1.trans st2)⟩
  | false =>
    rw [if_neg Bool.false_ne_true] at q1 ⊢
    exact q1 H1 F1 M1 s1 st1
theorem jw_or (ha : JT X T Wi a ta) (hb : JW X T Wi (.BoolOp .Or (b :: rest) pos) tb) : JW X T Wi (.BoolOp .Or (a :: b :: rest) pos) (tOr' ta tb) := by
  refine (pw_or ha hb).impD fun σ H Q q => ?_
  obtain ⟨B, env, w, F, O, M, s, q⟩ := q
  refine ⟨B, env, w, F, O, M, s, q.bind.imp fun c w1 q1 H1 F1 M1 s1 st1 => ?_⟩
  cases c with
  | true =>
    rw [if_pos rfl] at q1 ⊢
    exact q1 H1 F1 M1 s1 st1
  | false =>
    rw [if_neg Bool.false_ne_true] at q1 ⊢
    exact ⟨B, env, w1, F1, O, M1, s1, q1.imp fun _ w2 q2 H2 F2 M2 s2 st2 => q2 H2 F2 M2 s2 (st1.trans st2)⟩
theorem jt_bool {op} (h : JW X T Wi (.BoolOp op (a :: rest) pos) ta) : JT X T Wi (.BoolOp op (a :: rest) pos) ta := PW.pt h
def dIf (t : Tst) (a b : Ex) : Ex := fun env w => (t env w).bind fun c w1 => if c = true then a env w1 else b env w1
def dChain (g g' : D → D → Option RV) (a b c : Ex) : Ex := fun env w => (a env w).bind fun ra w1 => (b env w1).bind fun rb w2 => match vals2 g ra rb with
  | some (.dat (.bl true)) => (c env w2).bind fun rc w3 => lift (vals2 g' rb rc) w3
  | some (.dat (.bl false)) => .ok (.dat (.bl false)) w2
  | _ => .stuck
theorem chain_read {f f' : Value → Value → Sem Value} {g g' : D → D → Option RV} {r r' : R2} (hr : ∀ x y d e rv H F, Same F H → NoTbl F → Rv X.K F H x d → Rv X.K F H y e → g d e = some rv → ∀ Q : VK, (∀ v H' F', Xt H F H' F' → rv.newAt X.K H H' F' v → Q v H') → r x y H Q)
    (hr' : ∀ x y d e rv H F, Same F H → NoTbl F → Rv X.K F H x d → Rv X.K F H y e → g' d e = some rv → ∀ Q : VK, (∀ v H' F', Xt H F H' F' → rv.newAt X.K H H' F' v → Q v H') → r' x y H Q)
    {σ : St} {H : Hp} {Q : VK} (q : tD (Cx.tx X T) Wi (dChain g g' da db dc) σ H Q) : tChain r r' (tD (Cx.tx X T) Wi da) (tD (Cx.tx X T) Wi db) (tD (Cx.tx X T) Wi dc) σ H Q := by
  obtain ⟨B, env, w, F, O, M, s, q⟩ := q
  refine ⟨B, env, w, F, O, M, s, q.bind.imp fun ra w1 q1 x H1 F1 M1 s1 st1 r1 => ?_⟩
  refine ⟨B, env, w1, F1, O, M1, s1, q1.bind.imp fun rb w2 q2 y H2 F2 M2 s2 st2 r2 => ?_⟩
  split at q2
  · rename_i e
    obtain ⟨d, e', ea, eb, eg⟩ := vals2_some e
    refine hr x y d e' _ H2 F2 s2.fh s2.nt (RV.rv s2 (RV.step r1 st2) ea) (RV.rv s2 r2 eb) eg _ fun v H3 F3 xt nw => ?_
    cases nw
    refine ⟨true, rfl, ?_⟩
    rw [if_pos rfl]
    have s3 := s2.xt xt
    have r2' := RV.step r2 (xt.stp (M := M2))
    refine ⟨B, env, w2, F3, O, M2, s3, q2.bind.imp fun rc w4 q4 z H4 F4 M4 s4 st4 r4 => ?_⟩
    obtain ⟨rv, e2, q5⟩ := q4.lift
    obtain ⟨d2, e2', ea2, eb2, eg2⟩ := vals2_some e2
    refine hr' y z d2 e2' rv H4 F4 s4.fh s4.nt (RV.rv s4 (RV.step r2' st4) ea2) (RV.rv s4 r4 eb2) eg2 Q fun v5 H5 F5 xt5 nw5 => ?_
    have st := ((st1.trans st2).trans xt.stp).trans st4
    exact q5 v5 H5 F5 M4 (s4.xt xt5) (st.trans xt5.stp) (RV.of_new nw5 s4 st.th)
  · rename_i e
    obtain ⟨d, e', ea, eb, eg⟩ := vals2_some e
    refine hr x y d e' _ H2 F2 s2.fh s2.nt (RV.rv s2 (RV.step r1 st2) ea) (RV.rv s2 r2 eb) eg _ fun v H3 F3 xt nw => ?_
    cases nw
    refine ⟨false, rfl, ?_⟩
    rw [if_neg Bool.false_ne_true]
    exact q2 _ _ _ _ (s2.xt xt) ((st1.trans st2).trans xt.stp) (.bl false)
  · exact q2.elim
theorem jt_chain {op op' : CmpOp} {g g' : D → D → Option RV} (h : OpS X (compareOp op) g) (h' : OpS X (compareOp op') g') (ha : JE X T Wi a da) (hb : JE X T Wi b db) (hc : JE X T Wi c dc) (hm : lastMarks [op, op'] [b, c] = false := by with_unfolding_all rfl) :
    JT X T Wi (.Compare a [op, op'] [b, c] pos) (dTst (dChain g g' da db dc)) := by
  obtain ⟨r, ho, hr⟩ := h
  obtain ⟨r', ho', hr'⟩ := h'
  exact (pt_chain ho ho' ha hb hc hm).impD fun σ H Q q => chain_read (f := compareOp op) (f' := compareOp op') hr hr' (tst_read q)
theorem atI_pair {α β : Type} {F : α → β → Prop} {vs : List α} {l : List β} {i : Int} {d : β} (h : Paired F vs l) (e : atI l i = some d) : ∃ v, atI vs i = some v ∧ F v d := by
  unfold atI at e ⊢
  rw [h.length]
  cases q : ixN l.length i with
  | none => rw [q] at e; cases e
  | some j => rw [q] at e; exact Pr.get h e
def gIx : D → D → Option RV
  | .lst l, .int i => (atI l i).map .dat
  | .tup l, .int i => (atI l i).map .dat
  | .str s, .int i => (atI s.cps.toList i).map fun c => .dat (.str ⟨#[c]⟩)
  | _, _ => none
theorem sOk_mem {s : Str} {c : Nat} (h : SOk s) (hc : c ∈ s.cps.toList) : SOk ⟨#[c]⟩ := by
  obtain ⟨h, _⟩ := h
  refine ⟨?_, by show 1 ≤ sizeLine; rw [sizeLine_eq]; decide⟩
  unfold PyData.strOk at *
  rw [Array.all_eq_true_iff_forall_mem] at h
  have := h c (by simpa using hc)
  simpa using this
theorem atI_mem {α : Type} {l : List α} {i : Int} {d : α} (e : atI l i = some d) : d ∈ l := by
  obtain ⟨j, _, h, _⟩ := atI_get e
  exact List.mem_of_getElem? h
theorem je_ix (ha : JE X T Wi a da) (hb : JE X T Wi b db) (hs : PlainIx b := by exact fun _ _ => rfl) : JE X T Wi (.Subscript a b pos) (dBin gIx da db) := by
  refine (pe_ix ix_seq ha hb hs).impD fun σ H Q q => op_read (f := getItem) (r := rIx X.K) (fun x y d e rv H F fh nt rx ry h Q q => ?_) q
  cases d <;> cases e <;> first | (simp only [gIx] at h; cases h; done) | skip
  · rename_i z i
    simp only [gIx] at h
    cases ec : atI z.cps.toList i with
    | none => rw [ec] at h; cases h
    | some c =>
      rw [ec] at h
      simp only [Option.map_some, Option.some.injEq] at h; subst h
      cases rx with
      | str _ ok =>
        cases ry
        exact .inr (.inr ⟨_, _, c, rfl, rfl, ok.2, ec, new_val fh nt q (.str _ (sOk_mem ok (atI_mem ec)))⟩)
  · rename_i l i
    simp only [gIx] at h
    cases ec : atI l i with
    | none => rw [ec] at h; cases h
    | some c =>
      rw [ec] at h
      simp only [Option.map_some, Option.some.injEq] at h; subst h
      obtain ⟨_, p, vs, e, hs, hp⟩ := rx
      subst e
      cases ry
      obtain ⟨v, ev, rv⟩ := atI_pair hp ec
      exact .inl ⟨p, vs, _, v, rfl, rfl, hs, ev, new_val fh nt q rv⟩
  · rename_i l i
    simp only [gIx] at h
    cases ec : atI l i with
    | none => rw [ec] at h; cases h
    | some c =>
      rw [ec] at h
      simp only [Option.map_some, Option.some.injEq] at h; subst h
      cases rx with
      | tup hz hs hp =>
        cases ry
        obtain ⟨v, ev, rv⟩ := atI_pair hp ec
        exact .inr (.inl ⟨_, _, _, v, rfl, rfl, sqT_mono fh hs, ev, new_val fh nt q rv⟩)
def optI (o : Option Ex) (env : Ev) (w : World) : Out (Option Int) := match o with
  | none => .ok none w
  | some e => (e env w).bind fun r w1 => match r with
    | .dat (.int i) => .ok (some i) w1
    | _ => .stuck
def cutD {α : Type} (l : List α) (lo hi : Option Int) : List α := (l.drop (HT.sIx l.length 0 lo)).take (HT.sIx l.length l.length hi - HT.sIx l.length 0 lo)
def gSl (lo hi : Option Int) : D → Option RV
  | .lst l => some (.fresh (cutD l lo hi))
  | .tup l => some (.dat (.tup (cutD l lo hi)))
  | .str s => some (.dat (.str ⟨(cutD s.cps.toList lo hi).toArray⟩))
  | _ => none
def dSl (a : Ex) (lo hi : Option Ex) : Ex := fun env w => (a env w).bind fun ra w1 => (optI lo env w1).bind fun l w2 => (optI hi env w2).bind fun u w3 => lift (vals1 (gSl l u) ra) w3
def tOpt (X : Tx) (Wi : WX) (o : Option Ex) : TO := fun σ H Q => ∃ B env w F O M, SR X B env w σ H F O M ∧
  Pst (optI o env w) (fun l w' => ∀ H' F' M', SR X B env w' σ H' F' O M' → Stp H F M H' F' M' → Q l H') (badX X B Wi)
abbrev JO (X : Cx) (T : Tbs) (Wi : WX) (e : Option Expr) (d : Option Ex) : Prop := PO X e (tOpt (Cx.tx X T) Wi d)
theorem jo_none : JO X T Wi none none := ⟨fun pins s σ H Q I q => by
  obtain ⟨B, env, w, F, O, M, sr, q⟩ := q
  exact po_none.run pins s σ H Q I (q H F M sr .refl)⟩
theorem jo_some (ha : JE X T Wi a da) : JO X T Wi (some a) (some da) := ⟨fun pins s σ H Q I q => by
  refine (po_some ha).run pins s σ H Q I ?_
  obtain ⟨B, env, w, F, O, M, sr, q⟩ := q
  have q := (show Pst ((da env w).bind fun r w1 => match r with
    | .dat (.int i) => Out.ok (some i) w1
    | _ => .stuck) _ _ from q).bind
  refine ⟨B, env, w, F, O, M, sr, q.imp fun ra w1 q1 x H1 F1 M1 s1 st1 r1 => ?_⟩
  split at q1
  · cases r1; exact ⟨_, rfl, q1 _ _ _ s1 st1⟩
  · exact q1.elim⟩
theorem drop_take_mem {α : Type} {l : List α} {m n : Nat} {c : α} (h : c ∈ (l.drop m).take n) : c ∈ l := List.mem_of_mem_drop (List.mem_of_mem_take h)
theorem cutD_len {α : Type} (l : List α) (lo hi : Option Int) : (cutD l lo hi).length ≤ l.length := by
  unfold cutD
  rw [List.length_take, List.length_drop]
  omega
theorem sOk_cut {s : Str} {lo hi : Option Int} (h : SOk s) : SOk ⟨(cutD s.cps.toList lo hi).toArray⟩ := by
  obtain ⟨h, hz⟩ := h
  refine ⟨?_, Nat.le_trans ?_ hz⟩
  · unfold PyData.strOk at *
    rw [Array.all_eq_true_iff_forall_mem] at h ⊢
    intro c hc
    refine h c ?_
    have : c ∈ cutD s.cps.toList lo hi := by simpa using hc
    have := drop_take_mem this
    simpa using this
  · show (cutD s.cps.toList lo hi).toArray.size ≤ s.cps.size
    have := cutD_len s.cps.toList lo hi
    rw [List.size_toArray]
    simpa using this
theorem cutD_whole {α : Type} {l : List α} {lo hi : Option Int} (h : HT.sIx l.length 0 lo = 0 ∧ HT.sIx l.length l.length hi = l.length) : cutD l lo hi = l := by
  unfold cutD
  rw [h.1, h.2, List.drop_zero, Nat.sub_zero, List.take_length]
theorem cut_pair {α β : Type} {F : α → β → Prop} {vs : List α} {l : List β} {lo hi : Option Int} (h : Paired F vs l) : Paired F ((vs.drop (HT.sIx vs.length 0 lo)).take (HT.sIx vs.length vs.length hi - HT.sIx vs.length 0 lo)) (cutD l lo hi) := by
  unfold cutD
  rw [h.length]
  exact Pr.take _ (Pr.drop _ h)
theorem je_slice {lo hi : Option Expr} {dl dh : Option Ex} {p2 : Pos} (ha : JE X T Wi a da) (hl : JO X T Wi lo dl) (hh : JO X T Wi hi dh) : JE X T Wi (.Subscript a (.Slice lo hi none p2) pos) (dSl da dl dh) := by
  refine (pe_slice (SlR.or sl_list (SlR.or sl_tupA sl_str)) ha hl hh).impD fun σ H Q q => ?_
  obtain ⟨B, env, w, F, O, M, s, q⟩ := q
  refine ⟨B, env, w, F, O, M, s, q.bind.imp fun ra w1 q1 x H1 F1 M1 s1 st1 r1 => ?_⟩
  refine ⟨B, env, w1, F1, O, M1, s1, q1.bind.imp fun l w2 q2 H2 F2 M2 s2 st2 => ?_⟩
  refine ⟨B, env, w2, F2, O, M2, s2, q2.bind.imp fun u w3 q3 H3 F3 M3 s3 st3 => ?_⟩
  obtain ⟨rv, e, q4⟩ := q3.lift
  obtain ⟨d, ea, eg⟩ := vals1_some e
  have rx := RV.rv s3 (RV.step r1 (st2.trans st3)) ea
  have st := (st1.trans st2).trans st3
  have fin : ∀ v H' F', Xt H3 F3 H' F' → rv.newAt X.K H3 H' F' v → Q v H' := fun v H' F' xt nw => q4 v H' F' M3 (s3.xt xt) (st.trans xt.stp) (RV.of_new nw s3 st.th)
  cases d <;> first | (simp only [gSl] at eg; cases eg; done) | skip
  · simp only [gSl, Option.some.injEq] at eg; subst eg
    cases rx with
    | str _ ok => exact .inr (.inr ⟨_, rfl, ok.2, new_val s3.fh s3.nt fin (.str _ (sOk_cut ok))⟩)
  · simp only [gSl, Option.some.injEq] at eg; subst eg
    obtain ⟨hz, p, vs, e, hs, hp⟩ := rx
    subst e
    exact .inl ⟨p, vs, rfl, hs, fun p' hp' => new_lst s3.fh s3.nt fin hp' (Nat.le_trans (cutD_len _ _ _) hz) (cut_pair hp)⟩
  · rename_i k
    simp only [gSl, Option.some.injEq] at eg; subst eg
    cases rx with
    | @tup a vs _ hz hs hp =>
      refine .inr (.inl ⟨a, vs, rfl, sqT_mono s3.fh hs, fun hw => ?_, fun _ p' hp' => new_tup s3.fh s3.nt fin hp' (Nat.le_trans (cutD_len _ _ _) hz) (cut_pair hp)⟩)
      have hw' : HT.sIx k.length 0 l = 0 ∧ HT.sIx k.length k.length u = k.length := by rw [← hp.length]; exact hw
      refine new_val s3.fh s3.nt fin ?_
      rw [cutD_whole hw']
      exact .tup hz hs hp
end
end Dl
namespace Dl
open PySem PySem.Spec PyProof.Rows L2 NdefX
def RV.arg : RV → Option RV
  | .dat d => some (.dat d)
  | .fresh l => some (.dat (.lst l))
  | .bor _ _ => none
  | .wref k => some (.wref k)
def argAt (X : Tx) (F : Hp) (M : List Addr) (v : V) : RV → Prop
  | .dat d => Rp X.K F v d
  | .wref k => ∃ m, M[k]? = some m ∧ v = .ref m
  | _ => False
abbrev Exs := Ev → World → Out (List RV)
def aNil : Exs := fun _ w => .ok [] w
def aCons (e : Ex) (r : Exs) : Exs := fun env w => (e env w).bind fun x w1 => match x.arg with
  | some a => (r env w1).bind fun as w2 => .ok (a :: as) w2
  | none => .stuck
def rNil : Exs := fun _ w => .ok [] w
def rCons (e : Ex) (r : Exs) : Exs := fun env w => (e env w).bind fun x w1 => (r env w1).bind fun xs w2 => .ok (x :: xs) w2
def tA (X : Tx) (Wi : WX) (e : Exs) : TA := fun σ H Q => ∃ B env w F O M, SR X B env w σ H F O M ∧
  Pst (e env w) (fun rs w' => ∀ vs H' F' M', SR X B env w' σ H' F' O M' → Stp H F M H' F' M' → Paired (argAt X F' M') vs rs → Q vs H') (badX X B Wi)
abbrev JA (X : Cx) (T : Tbs) (Wi : WX) (es : List Expr) (d : Exs) : Prop := PA X es (tA (Cx.tx X T) Wi d)
section
variable {X : Tx} {H F H' F' : Hp} {M M' : List Addr}
theorem Stp.freeze {p : Addr} {o : HO} (st : Stp H F M H' F' M') (hp : H p = none) (hF : F' p = none) : Stp H F M H' (upd F' p o) M' :=
  ⟨st.fg.trans (same_upd hF), st.fr, st.th, fun a h e => by
    by_cases z : a = p
    · subst z; exact absurd hp h
    · rw [upd_ne z]; exact st.nf a h e, st.mw⟩
theorem argAt_step {v : V} {r : RV} (h : argAt X F M v r) (st : Stp H F M H' F' M') : argAt X F' M' v r := by
  obtain ⟨nw, em, _⟩ := id st.mw
  cases r with
  | dat d => exact Rp.mono st.fg _ _ h
  | wref k => obtain ⟨m, e1, e2⟩ := h; exact ⟨m, mem_of_pfx em e1, e2⟩
  | fresh l => exact h.elim
  | bor i l => exact h.elim
theorem keep_arg {B : Base} {env : Ev} {w w1 : World} {σ : St} {O : Nat → Addr} {v : V} {r a : RV} (s : SR X B env w σ H F O M) (s1 : SR X B env w1 σ H' F' O M') (st : Stp H F M H' F' M') (h : r.isAt X H env O H' F' M' v) (e : r.arg = some a) :
    ∃ F1, SR X B env w1 σ H' F1 O M' ∧ Stp H F M H' F1 M' ∧ argAt X F1 M' v a := by
  cases r with
  | dat d => cases e; exact ⟨F', s1, st, h⟩
  | wref k => cases e; exact ⟨F', s1, st, h⟩
  | bor i l => cases e
  | fresh l =>
    cases e
    obtain ⟨hz, p, vs, e1, e2, e3, e4, e5, e6⟩ := h
    have hB : B.H p = none := by
      cases q : B.H p with
      | none => rfl
      | some o => exact absurd e2 (s.st.th p (by rw [q]; simp))
    have hO : ∀ i l, env[i]? = some (.own l) → O i ≠ p := fun i l e z => by
      obtain ⟨_, _, _, _, _, ws, q, _⟩ := s.sl i _ e
      rw [z, e2] at q; cases q
    refine ⟨upd F' p (.lst vs), s1.freeze hB e4 hO e5 e3, st.freeze e2 e3, ?_⟩
    subst e1
    exact .lst hz (SqL.of upd_same) (Rp.monoAll (same_upd e3) _ _ e6)
end
section
variable {X : Cx} {T : Tbs} {Wi : WX} {pos : Pos} {e : Expr} {es : List Expr} {d : Ex} {ds : Exs}
theorem ja_nil : JA X T Wi [] aNil := pa_nil.impD fun σ H Q q => by
  obtain ⟨B, env, w, F, O, M, s, q⟩ := q
  exact q [] H F M s .refl .nil
theorem ja_cons (h : JE X T Wi e d) (hs : JA X T Wi es ds) (hst : starEach (e :: es) X.env = (false, eval e X.env) :: starEach es X.env := by rfl) : JA X T Wi (e :: es) (aCons d ds) := by
  refine (pa_cons h hs hst).impD fun σ H Q q => ?_
  obtain ⟨B, env, w, F, O, M, s, q⟩ := q
  refine ⟨B, env, w, F, O, M, s, q.bind.imp fun r w1 q1 x H1 F1 M1 s1 st1 r1 => ?_⟩
  split at q1
  · rename_i a ea
    obtain ⟨F2, s2, st2, a2⟩ := keep_arg s s1 st1 r1 ea
    exact ⟨B, env, w1, F2, O, M1, s2, q1.bind.imp fun as w3 q3 vs H3 F3 M3 s3 st3 p3 => q3 (x :: vs) H3 F3 M3 s3 (st2.trans st3) (.cons (argAt_step a2 st3) p3)⟩
  · exact q1.elim
theorem jr_nil : JR X T Wi [] rNil := pa_nil.impD fun σ H Q q => by
  obtain ⟨B, env, w, F, O, M, s, q⟩ := q
  exact q [] H F M s .refl .nil
theorem jr_cons (h : JE X T Wi e d) (hs : JR X T Wi es ds) (hst : starEach (e :: es) X.env = (false, eval e X.env) :: starEach es X.env := by rfl) : JR X T Wi (e :: es) (rCons d ds) := by
  refine (pa_cons h hs hst).impD fun σ H Q q => ?_
  obtain ⟨B, env, w, F, O, M, s, q⟩ := q
  refine ⟨B, env, w, F, O, M, s, q.bind.imp fun r w1 q1 x H1 F1 M1 s1 st1 r1 => ?_⟩
  exact ⟨B, env, w1, F1, O, M1, s1, q1.bind.imp fun as w3 q3 vs H3 F3 M3 s3 st3 p3 => q3 (x :: vs) H3 F3 M3 s3 (st1.trans st3) (.cons (RV.step r1 st3) (Paired.mapP p3 fun _ _ z => RV.since z st1.th))⟩
def RV.dd : RV → Option D
  | .dat d => some d
  | _ => none
def dats : List RV → Option (List D)
  | [] => some []
  | r :: rs => match r.dd, dats rs with
    | some d, some ds => some (d :: ds)
    | _, _ => none
theorem dats_at {X : Tx} {F : Hp} {M : List Addr} : ∀ {vs : List V} {rs : List RV} {ds : List D}, Paired (argAt X F M) vs rs → dats rs = some ds → Paired (Rp X.K F) vs ds
  | _, _, _, .nil, e => by cases e; exact .nil
  | _, r :: rs, ds, .cons h t, e => by
    unfold dats at e
    split at e
    · rename_i d ds' e1 e2
      cases e
      refine .cons ?_ (dats_at t e2)
      cases r with
      | dat d' => cases e1; exact h
      | _ => cases e1
    · cases e
def dTup (es : Exs) : Ex := fun env w => (es env w).bind fun rs w1 => match dats rs with
  | some ds => if ds.length ≤ 1000 then .ok (.dat (.tup ds)) w1 else .stuck
  | none => .stuck
def dLst (es : Exs) : Ex := fun env w => (es env w).bind fun rs w1 => match dats rs with
  | some ds => if ds.length ≤ 1000 then .ok (.fresh ds) w1 else .stuck
  | none => .stuck
theorem je_tup {k : Nat} (h : JA X T Wi es ds) : JE X T Wi (.Tuple es k pos) (dTup ds) := by
  refine (pe_tup h).impD fun σ H Q q => ?_
  obtain ⟨B, env, w, F, O, M, s, q⟩ := q
  refine ⟨B, env, w, F, O, M, s, q.bind.imp fun rs w1 q1 vs H1 F1 M1 s1 st1 p1 => ?_⟩
  split at q1
  · rename_i l el
    split at q1
    · rename_i hz
      have pp := dats_at p1 el
      have hz' : l.length ≤ sizeLine := Nat.le_trans hz (by rw [sizeLine_eq]; decide)
      exact ⟨by rw [pp.length]; exact hz', fun p hp => new_tup s1.fh s1.nt (fun v H' F' xt nw => q1 v H' F' M1 (s1.xt xt) (st1.trans xt.stp) (RV.of_new nw s1 st1.th)) hp hz' pp⟩
    · exact q1.elim
  · exact q1.elim
theorem je_lst (h : JA X T Wi es ds) : JE X T Wi (.List es pos) (dLst ds) := by
  refine (pe_lst h).impD fun σ H Q q => ?_
  obtain ⟨B, env, w, F, O, M, s, q⟩ := q
  refine ⟨B, env, w, F, O, M, s, q.bind.imp fun rs w1 q1 vs H1 F1 M1 s1 st1 p1 => ?_⟩
  split at q1
  · rename_i l el
    split at q1
    · rename_i hz
      have pp := dats_at p1 el
      have hz' : l.length ≤ sizeLine := Nat.le_trans hz (by rw [sizeLine_eq]; decide)
      exact ⟨by rw [pp.length]; exact hz', fun p hp => new_lst s1.fh s1.nt (fun v H' F' xt nw => q1 v H' F' M1 (s1.xt xt) (st1.trans xt.stp) (RV.of_new nw s1 st1.th)) hp hz' pp⟩
    · exact q1.elim
  · exact q1.elim
end
structure Cs where
  call : Nat → List RV → World → Out RV
  room : Nat
def spD (X : Tx) (m : List RV → World → Out RV) : Sp := fun vs H Q E => ∃ F M args w, Same F H ∧ NoTbl F ∧ WRel X F H M w ∧ TabsN X.T.tabs H ∧ Paired (argAt X F M) vs args ∧
  Pst (m args w) (fun r w' => ∀ v H' F' M', Same F' H' → NoTbl F' → WRel X F' H' M' w' → TabsN X.T.tabs H' → Stp H F M H' F' M' → r.isAt X H [] (fun _ => 0) H' F' M' v → Q v H')
    (fun x _ w' => ∀ cls d H' F' M', Same F' H' → NoTbl F' → WRel X F' H' M' w' → TabsN X.T.tabs H' → Stp H F M H' F' M' → x.isAt X F' H' cls d → E cls d H')
structure RoomB (k : Nat) (A : Around) : Prop where
  hd : A.handled = none
  dp : A.depth + k + 5 < recursionLimit
  un : A.units + 16 * k + 200 < cLine
theorem RoomB.deeper {k : Nat} {A : Around} (r : RoomB (k + 1) A) (env : Env) : RoomB k (A.deeper env) :=
  ⟨r.hd, by have := r.dp; show A.depth + 1 + k + 5 < _; omega, by have := r.un; show A.units + 3 + 16 * k + 200 < _; omega⟩
theorem RoomB.depth {k : Nat} {A : Around} (r : RoomB k A) : A.depth < recursionLimit := by have := r.dp; omega
structure RoomG (k : Nat) (A : Around) : Prop extends RoomB k A where
  gd : A.guards = some []
theorem RoomG.deep {k : Nat} {A : Around} (r : RoomG (k + 1) A) (env : Env) : RoomG k (A.deeper env) := ⟨r.toRoomB.deeper env, r.gd⟩
structure FnG (P : Program) (w : PySem.World) (K : PySem.W.Frag) (mg : Str → Option Value) (base : Heap) (CX : CXT) (k : Nat) (f : Addr) (fd : FuncData) (ps : List Str) (sp : Sp) : Prop where
  many : ∀ vs H Q E, sp vs H Q E → vs.length = ps.length
  goes : ∀ (A : Around) (outer : List Env) (s : Shared) (H : Hp) (args : Args) (us : List Value) (vs : List V) (Q : VK) (E : XK), RoomG k A → Env0 P w K mg base A outer s H → BindsTo s fd args (ps.zip us) → Vals vs us → sp vs H Q E →
    codeAny (model P w) A (.call (.ref f) args) (CR CX outer P w H s Q E) s
theorem pe_callG {X : Cx} {CX : CXT} {k : Nat} {f : Addr} {fd : FuncData} {ps : List Str} {sp : Sp} {E : St → XK} {x : Str} {p pos : Pos} {e : Expr} {es : List Expr} {t : TA}
    (F : FnG X.prog X.w X.K X.mg X.base CX k f fd ps sp) (hr : RoomG k X.A) (hg : Gl X x) (hm : X.mg x = some (.ref f)) (hk : PySem.W.keepIn X.K (.ref f) = true) (hb : Binds X.K fd ps []) (hx : ∀ σ, PassesAt CX X σ (E σ)) (ha : PA X (e :: es) t)
    (hdb : (x == ("__debug__" : Str)) = false := by decide) (he : starEach (e :: es) X.env = (false, eval e X.env) :: starEach es X.env := by rfl) (hpl : (backTo pos (starEach es X.env)).any (·.1) = false := by rfl) :
    PE X (.Call (.Name x p) (e :: es) [] pos) (tCallS sp E t) := by
  constructor
  intro pins s σ H Q I q
  apply wpAny_Call_Name_kw (ld_glob I hg hm ?_ hdb)
  apply PySem.W.callWith_K (h₀ := X.base) I.ok.mod.kin hk (thn (ha.run pos pins s σ H _ I q) ?_) he hpl
  rintro us s2 ⟨vs, H2, I2, rv, q2⟩
  refine ⟨I2.kIn, wpAny_call (codeAny_mono (F.goes X.A X.stack s2 H2 ⟨us, []⟩ us vs Q (E σ) hr I2.env0 ?_ rv q2) ?_)⟩
  · have b := hb s2 us I2.kIn (by rw [List.append_nil, ← rv.length]; exact F.many _ _ _ _ q2)
    rwa [List.append_nil] at b
  · rintro (e | fl) s3 hq
    · exact hx σ pins H2 s2 e s3 I2 hq
    · cases fl <;> first | exact I2.after hq | exact False.elim hq
structure Cal (X : Cx) (T : Tbs) (n : Nat) (C : Cs) (x : Str) (i : Nat) : Prop where
  ex : ∃ (a : Addr) (fd : FuncData) (ps : List Str), X.mg x = some (.ref a) ∧ PySem.W.keepIn X.K (.ref a) = true ∧ Binds X.K fd ps [] ∧ FnG X.prog X.w X.K X.mg X.base (L2N.CX X.prog X.w) n a fd ps (spD (Cx.tx X T) (C.call i))
def withEnv {α : Type} (env : Ev) (o : Out α) : Out α := match o with
  | .ok a w => .ok a w
  | .exc x _ w => .exc x env w
  | .stuck => .stuck
def dCall (C : Cs) (i : Nat) (as : Exs) : Ex := fun env w => (as env w).bind fun rs w1 => withEnv env (C.call i rs w1)
@[simp] theorem withEnv_ok {α : Type} (env : Ev) (a : α) (w : World) : withEnv env (.ok a w) = .ok a w := rfl
theorem isAt_nil {X : Tx} {Hs H F : Hp} {M : List Addr} {v : V} {r : RV} {env : Ev} {O : Nat → Addr} (h : r.isAt X Hs [] (fun _ => 0) H F M v) : r.isAt X Hs env O H F M v := by
  cases r with
  | bor i l => obtain ⟨e, _⟩ := h; cases i <;> cases e
  | dat d => exact h
  | fresh l => exact h
  | wref k => exact h
section
variable {X : Cx} {T : Tbs} {Wi : WX} {pos p : Pos} {e : Expr} {es : List Expr} {d : Ex} {ds : Exs} {C : Cs} {n i : Nat} {x : Str}
theorem je_call (c : Cal X T n C x i) (hr : RoomG n X.A) (tk : L2N.Takes X Wi) (hg : Gl X x) (h : JA X T Wi (e :: es) ds) (hdb : (x == ("__debug__" : Str)) = false := by decide)
    (he : starEach (e :: es) X.env = (false, eval e X.env) :: starEach es X.env := by rfl) (hpl : (backTo pos (starEach es X.env)).any (·.1) = false := by rfl) : JE X T Wi (.Call (.Name x p) (e :: es) [] pos) (dCall C i ds) := by
  obtain ⟨a, fd, ps, hm, hk, hb, F⟩ := c.ex
  refine (pe_callG F hr hg hm hk hb (fun σ => L2N.passAt tk σ) h hdb he hpl).impD fun σ H Q q => ?_
  obtain ⟨B, env, w, F, O, M, s, q⟩ := q
  refine ⟨B, env, w, F, O, M, s, q.bind.imp fun rs w1 q1 vs H1 F1 M1 s1 st1 p1 => ?_⟩
  refine ⟨F1, M1, rs, w1, s1.fh, s1.nt, s1.wr, s1.tb, p1, ?_⟩
  cases ec : C.call i rs w1 with
  | stuck => rw [ec] at q1; exact q1.elim
  | ok r w2 =>
    rw [ec] at q1
    intro v H2 F2 M2 fh nt wr tb st2 r2
    exact q1 v H2 F2 M2 (s1.step st2 fh nt wr tb) (st1.trans st2) (RV.since (isAt_nil r2) st1.th)
  | exc x' env' w2 =>
    rw [ec] at q1
    intro cls d' H2 F2 M2 fh nt wr tb st2 r2
    exact q1 cls d' σ H2 F2 O M2 (s1.step st2 fh nt wr tb) r2
end
def CaS (X : Cx) (f : Value) (g : List D → Option RV) : Prop :=
  ∃ r, CallR X f r ∧ ∀ xs ds rv H F, Same F H → NoTbl F → Paired (Rv X.K F H) xs ds → g ds = some rv → ∀ Q : VK, (∀ v H' F', Xt H F H' F' → rv.newAt X.K H H' F' v → Q v H') → r xs H Q
def vals : List RV → Option (List D)
  | [] => some []
  | r :: rs => match r.val, vals rs with
    | some d, some ds => some (d :: ds)
    | _, _ => none
def dBlt (g : List D → Option RV) (es : Exs) : Ex := fun env w => (es env w).bind fun rs w1 => match vals rs with
  | some ds => lift (g ds) w1
  | none => .stuck
theorem vals_at {X : Tx} {B : Base} {env : Ev} {w : World} {σ : St} {Hs H F : Hp} {O : Nat → Addr} {M : List Addr} (s : SR X B env w σ H F O M) : ∀ {vs : List V} {rs : List RV} {ds : List D}, Paired (fun v r => RV.isAt X Hs env O H F M v r) vs rs → vals rs = some ds → Paired (Rv X.K F H) vs ds
  | _, _, _, .nil, e => by cases e; exact .nil
  | _, r :: rs, ds, .cons h t, e => by
    unfold vals at e
    split at e
    · rename_i d ds' e1 e2
      cases e
      exact .cons (RV.rv s h e1) (vals_at s t e2)
    · cases e
section
variable {X : Cx} {T : Tbs} {Wi : WX} {pos p : Pos} {e : Expr} {es : List Expr} {d : Ex} {ds : Exs} {x : Str}
theorem blt_read {g : List D → Option RV} {r : List V → Hp → VK → Prop} (hr : ∀ xs ds rv H F, Same F H → NoTbl F → Paired (Rv X.K F H) xs ds → g ds = some rv → ∀ Q : VK, (∀ v H' F', Xt H F H' F' → rv.newAt X.K H H' F' v → Q v H') → r xs H Q)
    {σ : St} {H : Hp} {Q : VK} (q : tD (Cx.tx X T) Wi (dBlt g ds) σ H Q) : tR (Cx.tx X T) Wi ds σ H (fun vs H1 => r vs H1 Q) := by
  obtain ⟨B, env, w, F, O, M, s, q⟩ := q
  refine ⟨B, env, w, F, O, M, s, q.bind.imp fun rs w1 q1 vs H1 F1 M1 s1 st1 p1 => ?_⟩
  split at q1
  · rename_i l el
    obtain ⟨rv, e, q3⟩ := q1.lift
    refine hr vs l rv H1 F1 s1.fh s1.nt (vals_at s1 p1 el) e Q fun v H' F' xt nw => ?_
    exact q3 v H' F' M1 (s1.xt xt) (st1.trans xt.stp) (RV.of_new nw s1 st1.th)
  · exact q1.elim
theorem je_blt {id : String} {g : List D → Option RV} (hc : CaS X (.builtin id) g) (hg : Gl X x) (hm : X.mg x = none) (hv : bootBuiltins x = some (.builtin id)) (h : JR X T Wi (e :: es) ds)
    (hd : (x == ("__debug__" : Str)) = false := by decide) (hn : x ≠ "__name__" := by decide)
    (he : starEach (e :: es) X.env = (false, eval e X.env) :: starEach es X.env := by rfl) (hpl : (backTo pos (starEach es X.env)).any (·.1) = false := by rfl) : JE X T Wi (.Call (.Name x p) (e :: es) [] pos) (dBlt g ds) := by
  obtain ⟨r, hc, hr⟩ := hc
  exact (pe_callB hc hg hm hv h hn hd he hpl).impD fun σ H Q q => blt_read hr q
theorem je_bty {id : String} {g : List D → Option RV} (hc : CaS X (.type id) g) (hg : Gl X x) (hm : X.mg x = none) (hv : bootBuiltins x = some (.type id)) (h : JR X T Wi (e :: es) ds)
    (hd : (x == ("__debug__" : Str)) = false := by decide) (hn : x ≠ "__name__" := by decide)
    (he : starEach (e :: es) X.env = (false, eval e X.env) :: starEach es X.env := by rfl) (hpl : (backTo pos (starEach es X.env)).any (·.1) = false := by rfl) : JE X T Wi (.Call (.Name x p) (e :: es) [] pos) (dBlt g ds) := by
  obtain ⟨r, hc, hr⟩ := hc
  exact (pe_callTy hc hg hm hv h hn hd he hpl).impD fun σ H Q q => blt_read hr q
end
end Dl
namespace Dl
open PySem PySem.Spec PyProof.Rows L2 NdefX
def intsOf : List D → Option (List Int)
  | [] => some []
  | .int i :: l => (intsOf l).map (i :: ·)
  | _ :: _ => none
def bolsOf : List D → Option (List Bool)
  | [] => some []
  | .bl i :: l => (bolsOf l).map (i :: ·)
  | _ :: _ => none
@[simp] theorem intsOf_map (ns : List Int) : intsOf (ns.map D.int) = some ns := by
  induction ns with
  | nil => rfl
  | cons n ns ih => simp [intsOf, ih]
@[simp] theorem bolsOf_map (ns : List Bool) : bolsOf (ns.map D.bl) = some ns := by
  induction ns with
  | nil => rfl
  | cons n ns ih => simp [bolsOf, ih]
def D.items : D → Option (List D)
  | .lst l => some l
  | .tup l => some l
  | _ => none
def cLen : List D → Option RV
  | [.str s] => some (.dat (.int s.length))
  | [.lst l] => some (.dat (.int l.length))
  | [.tup l] => some (.dat (.int l.length))
  | _ => none
def cInt : List D → Option RV
  | [.int i] => some (.dat (.int i))
  | [.bl b] => some (.dat (.int (if b then 1 else 0)))
  | _ => none
def cTuple : List D → Option RV
  | [.lst l] => some (.dat (.tup l))
  | [.tup l] => some (.dat (.tup l))
  | _ => none
def cList : List D → Option RV
  | [.lst l] => some (.fresh l)
  | [.tup l] => some (.fresh l)
  | _ => none
def cSum : List D → Option RV
  | [.lst l] => (intsOf l).map fun ns => .dat (.int ns.sum)
  | _ => none
def cAll : List D → Option RV
  | [.lst l] => (bolsOf l).map fun ns => .dat (.bl (ns.all id))
  | _ => none
def cAny : List D → Option RV
  | [.lst l] => (bolsOf l).map fun ns => .dat (.bl (ns.any id))
  | _ => none
def cMax2 : List D → Option RV
  | [.int i, .int j] => some (.dat (.int (if j > i then j else i)))
  | _ => none
def cMin2 : List D → Option RV
  | [.int i, .int j] => some (.dat (.int (if j < i then j else i)))
  | _ => none
section
variable {X : Cx}
theorem cs_len : CaS X (.builtin "len") cLen := by
  refine ⟨_, call_len_str.or call_len_seq, fun xs ds rv H F fh nt p h Q q => ?_⟩
  unfold cLen at h
  split at h
  · simp only [Option.some.injEq] at h; subst h
    cases p with | cons h1 h2 => cases h2; cases h1 with | str _ ok => exact .inl ⟨_, rfl, ok.2, new_val fh nt q (.int _)⟩
  · simp only [Option.some.injEq] at h; subst h
    cases p with
    | cons h1 h2 =>
      cases h2
      obtain ⟨_, a, vs, e, h3, h4⟩ := h1
      subst e
      refine .inr ⟨a, vs, rfl, .inl h3, ?_⟩
      rw [h4.length]
      exact new_val fh nt q (.int _)
  · simp only [Option.some.injEq] at h; subst h
    cases p with
    | cons h1 h2 =>
      cases h2
      cases h1 with
      | tup hz h3 h4 =>
        refine .inr ⟨_, _, rfl, .inr (sqT_mono fh h3), ?_⟩
        rw [h4.length]
        exact new_val fh nt q (.int _)
  · cases h
theorem cs_int : CaS X (.type "int") cInt := by
  refine ⟨_, call_int1, fun xs ds rv H F fh nt p h Q q => ?_⟩
  unfold cInt at h
  split at h
  · simp only [Option.some.injEq] at h; subst h
    cases p with | cons h1 h2 => cases h2; cases h1; exact .inl ⟨_, rfl, new_val fh nt q (.int _)⟩
  · simp only [Option.some.injEq] at h; subst h
    cases p with | cons h1 h2 => cases h2; cases h1; exact .inr ⟨_, rfl, new_val fh nt q (.int _)⟩
  · cases h
theorem cs_tuple : CaS X (.type "tuple") cTuple := by
  refine ⟨_, call_tuple_of, fun xs ds rv H F fh nt p h Q q => ?_⟩
  unfold cTuple at h
  split at h
  · simp only [Option.some.injEq] at h; subst h
    cases p with
    | cons h1 h2 =>
      cases h2
      obtain ⟨hz, a, vs, e, h3, h4⟩ := h1
      subst e
      exact ⟨a, vs, rfl, .inl ⟨h3, fun p hp => new_tup fh nt q hp hz h4⟩⟩
  · simp only [Option.some.injEq] at h; subst h
    cases p with
    | cons h1 h2 =>
      cases h2
      cases h1 with
      | tup hz h3 h4 => exact ⟨_, _, rfl, .inr ⟨sqT_mono fh h3, new_val fh nt q (.tup hz h3 h4)⟩⟩
  · cases h
theorem cs_list : CaS X (.type "list") cList := by
  refine ⟨_, call_list_of, fun xs ds rv H F fh nt p h Q q => ?_⟩
  unfold cList at h
  split at h
  · simp only [Option.some.injEq] at h; subst h
    cases p with
    | cons h1 h2 =>
      cases h2
      obtain ⟨hz, a, vs, e, h3, h4⟩ := h1
      subst e
      exact ⟨a, vs, rfl, .inl h3, fun p hp => new_lst fh nt q hp hz h4⟩
  · simp only [Option.some.injEq] at h; subst h
    cases p with
    | cons h1 h2 =>
      cases h2
      cases h1 with
      | tup hz h3 h4 => exact ⟨_, _, rfl, .inr (sqT_mono fh h3), fun p hp => new_lst fh nt q hp hz h4⟩
  · cases h
end
def D.tyName : D → String
  | .non => "NoneType"
  | .bl _ => "bool"
  | .int _ => "int"
  | .str _ => "str"
  | .lst _ => "list"
  | .tup _ => "tuple"
  | .dic _ => "dict"
inductive Ty where
  | int | bool | str | tuple | list | dict
def Ty.nm : Ty → String
  | .int => "int"
  | .bool => "bool"
  | .str => "str"
  | .tuple => "tuple"
  | .list => "list"
  | .dict => "dict"
def D.isTy : D → Ty → Bool
  | .int _, .int => true
  | .bl _, .int => true
  | .bl _, .bool => true
  | .str _, .str => true
  | .tup _, .tuple => true
  | .lst _, .list => true
  | .dic _, .dict => true
  | _, _ => false
theorem kit_isTy (d : D) (t : Ty) : kitB d.tyName t.nm = some (d.isTy t) := by
  cases d <;> cases t <;> (show kitB _ _ = some _; simp only [D.tyName, Ty.nm, D.isTy]; decide +kernel)
def gIsi (ts : List Ty) (d : D) : Option RV := some (.dat (.bl (ts.any d.isTy)))
theorem tyX_of {K : PySem.W.Frag} {F H : Hp} {v : V} {d : D} (fh : Same F H) (h : Rv K F H v d) : TyX K H v (.type d.tyName) := by
  cases d with
  | non => cases h; exact .base .non
  | bl b => cases h; exact .base (.bl b)
  | int i => cases h; exact .base (.int i)
  | str s => cases h; exact .base (.str s)
  | lst l =>
    obtain ⟨_, p, vs, e, h1, _⟩ := h
    subst e
    rcases h1 with (h1 | ⟨o, h1⟩) | ⟨o, its, n, h1, h2, _⟩
    · exact .base (.lst h1)
    · exact .base (.frz h1)
    · exact .kList h1 h2
  | tup l =>
    cases h with
    | tup hz h1 _ =>
      rcases h1 with (h1 | ⟨o, h1⟩) | ⟨o, its, n, h1, h2, _⟩
      · exact .base (.tup (fh _ _ h1))
      · exact .fTuple (fh _ _ h1)
      · exact .kTuple h1 h2
  | dic kvs =>
    cases h with
    | dic hk q => exact .base (.dK (fh _ _ q))
section
variable {X : Cx} {T : Tbs} {Wi : WX} {pos p p1 p2 pt : Pos} {a : Expr} {da : Ex} {x : Str}
theorem tyX_obj {X : Tx} {F H : Hp} {m : Addr} {x : Str} {M : List Addr} {fs : List (Str × FV)} (h : ObjAt X F H M m x fs) : ∃ C, ObjC X.K X.mg x C ∧ TyX X.K H (.ref m) (.ref C) := by
  obtain ⟨C, dx, gs, c, e, _⟩ := h.ex
  exact ⟨C, c, .base (.ins e c.cls c.ha c.hn c.htk c.hm)⟩
theorem Ty.nm_mem (t : Ty) : t.nm ∈ ["int", "bool", "str", "tuple", "list", "dict"] := by cases t <;> decide
def isiK (ts : List Ty) (r : RV) (w : World) : Out RV := match r with
  | .wref k => (match w[k]? with
    | some (.obj _ _) => .ok (.dat (.bl false)) w
    | _ => .stuck)
  | r => lift (vals1 (gIsi ts) r) w
def dIsi (t : Ty) (a : Ex) : Ex := fun env w => (a env w).bind (isiK [t])
theorem je_isi {t : Ty} {y : Str} (hg : Gl X "isinstance") (hm : X.mg "isinstance" = none) (hgt : Gl X y) (hmt : X.mg y = none) (hvt : bootBuiltins y = some (.type t.nm)) (ha : JE X T Wi a da)
    (hnt : y ≠ "__name__" := by decide) (hdt : (y == ("__debug__" : Str)) = false := by decide)
    (he : starEach (a :: [.Name y p1]) X.env = (false, eval a X.env) :: starEach [.Name y p1] X.env := by rfl) (hpl : (backTo pos (starEach [.Name y p1] X.env)).any (·.1) = false := by rfl)
    (he2 : starEach [.Name y p1] X.env = (false, eval (.Name y p1) X.env) :: starEach [] X.env := by rfl) : JE X T Wi (.Call (.Name "isinstance" p) [a, .Name y p1] [] pos) (dIsi t da) := by
  refine (pe_callB call_isi hg hm boot_isinstance (pa_cons ha (pa_cons (pe_bltn hgt hmt hvt (v := .ty t.nm) rfl hnt hdt) pa_nil he2) he) (by decide) (by decide) he hpl).impD fun σ H Q q => ?_
  obtain ⟨B, env, w, F, O, M, s, q⟩ := q
  refine ⟨B, env, w, F, O, M, s, q.bind.imp fun ra w1 q1 x H1 F1 M1 s1 st1 r1 => ?_⟩
  have dat : lift (vals1 (gIsi [t]) ra) w1 = isiK [t] ra w1 → rIsi X.K [x, .ty t.nm] H1 Q := fun e => by
    rw [← e] at q1
    obtain ⟨rv, e1, q3⟩ := q1.lift
    obtain ⟨d, ea, eg⟩ := vals1_some e1
    simp only [gIsi, Option.some.injEq] at eg
    subst eg
    refine ⟨x, .ty t.nm, .type d.tyName, .type t.nm, d.isTy t, rfl, .ty _, tyX_of s1.fh (RV.rv s1 r1 ea), kit_ty (kit_isTy d t), ?_⟩
    have := q3 (.bl ([t].any d.isTy)) H1 F1 M1 s1 st1 (.bl _)
    simpa only [List.any_cons, List.any_nil, Bool.or_false] using this
  cases ra with
  | dat d => exact dat rfl
  | fresh l => exact dat rfl
  | bor i l => exact dat rfl
  | wref k =>
    unfold isiK at q1
    simp only at q1
    split at q1
    · rename_i y fs ew
      obtain ⟨m, em, hF, ho⟩ := Pr.get s1.wr.at_ ew
      obtain ⟨m', em', ev⟩ := r1
      rw [em] at em'
      cases em'
      subst ev
      obtain ⟨C, c, ty⟩ := tyX_obj ho
      exact ⟨.ref m, .ty t.nm, .ref C, .type t.nm, false, rfl, .ty _, ty, c.kit _ t.nm_mem, q1 _ H1 F1 M1 s1 st1 (.bl _)⟩
    · exact q1.elim
end
end Dl
namespace Dl
open PySem PySem.Spec PyProof.Rows L2 NdefX
abbrev Src := Ev → World → Out (List D)
structure Walk (K : PySem.W.Frag) (l : List D) (F0 : Hp) (J : It) : Prop where
  bd : l.length ≤ sizeLine
  go : ∀ i H F, Same F0 F → Same F H → i < l.length → J.go i H
  stop : ∀ i H F, Same F0 F → Same F H → l.length ≤ i → J.stop i H
  yld : ∀ i H F x H' d, Same F0 F → Same F H → NoTbl F → J.yld i H x H' → l[i]? = some d → ∃ F', Xt H F H' F' ∧ Rp K F' x d
def tIt (X : Tx) (Wi : WX) (e : Src) : TI := fun σ H R => ∃ B env w F O M, SR X B env w σ H F O M ∧
  Pst (e env w) (fun l w' => ∀ J H' F' M', SR X B env w' σ H' F' O M' → Stp H F M H' F' M' → Walk X.K l F' J → R J H') (badX X B Wi)
abbrev JI (X : Cx) (T : Tbs) (Wi : WX) (tg it : Expr) (d : Src) : Prop := PI X tg it (tIt (Cx.tx X T) Wi d)
def RV.its (r : RV) : Option (List D) := match r.arg with
  | some (.dat d) => d.items
  | _ => none
def iSeq (e : Ex) : Src := fun env w => (e env w).bind fun r w1 => match r.its with
  | some l => .ok l w1
  | none => .stuck
theorem walk_lst {K : PySem.W.Frag} {F : Hp} {a : Addr} {vs : List V} {l : List D} (hz : l.length ≤ sizeLine) (h : SqL K F a vs) (p : Paired (Rp K F) vs l) : Walk K l F (Itl K a) := by
  refine ⟨hz, fun i H F1 e1 e2 hi => ?_, fun i H F1 e1 e2 hi => ?_, fun i H F1 x H' d e1 e2 nt y hd => ?_⟩
  · have hv : i < vs.length := by rw [p.length]; exact hi
    exact ⟨vs, vs[i], e2.seq (e1.seq h), List.getElem?_eq_getElem hv⟩
  · exact ⟨vs, e2.seq (e1.seq h), by rw [p.length]; exact hi⟩
  · obtain ⟨rfl, y⟩ := y
    have q := y vs (e2.seq (e1.seq h))
    obtain ⟨v, ev, rv⟩ := Pr.get p hd
    rw [ev] at q; cases q
    exact ⟨F1, Xt.refl e2 nt, rv.mono e1⟩
theorem walk_tup {K : PySem.W.Frag} {F : Hp} {a : Addr} {vs : List V} {l : List D} (hz : l.length ≤ sizeLine) (h : SqT K F a vs) (p : Paired (Rp K F) vs l) : Walk K l F (Itt K a) := by
  refine ⟨hz, fun i H F1 e1 e2 hi => ?_, fun i H F1 e1 e2 hi => ?_, fun i H F1 x H' d e1 e2 nt y hd => ?_⟩
  · have hv : i < vs.length := by rw [p.length]; exact hi
    exact ⟨vs, vs[i], sqT_mono e2 (sqT_mono e1 h), List.getElem?_eq_getElem hv⟩
  · exact ⟨vs, sqT_mono e2 (sqT_mono e1 h), by rw [p.length]; exact hi⟩
  · obtain ⟨rfl, y⟩ := y
    have q := y vs (sqT_mono e2 (sqT_mono e1 h))
    obtain ⟨v, ev, rv⟩ := Pr.get p hd
    rw [ev] at q; cases q
    exact ⟨F1, Xt.refl e2 nt, rv.mono e1⟩
theorem walk_rng {K : PySem.W.Frag} {F : Hp} {lo : Int} {n : Nat} {l : List D} (hz : n ≤ sizeLine) (hl : l = (List.range n).map fun (i : Nat) => D.int (lo + i)) : Walk K l F (Itr lo n) := by
  subst hl
  refine ⟨by simpa using hz, fun i H F1 e1 e2 hi => by show i < n; simpa using hi, fun i H F1 e1 e2 hi => by show n ≤ i; simpa using hi, fun i H F1 x H' d e1 e2 nt y hd => ?_⟩
  obtain ⟨rfl, rfl⟩ := y
  simp only [List.getElem?_map, List.getElem?_range] at hd
  by_cases hi : i < n
  · rw [List.getElem?_range hi] at hd
    simp only [Option.map_some, Option.some.injEq] at hd; subst hd
    exact ⟨F1, Xt.refl e2 nt, .int _⟩
  · rw [List.getElem?_eq_none (by simpa using hi)] at hd; cases hd
section
variable {X : Cx} {T : Tbs} {Wi : WX} {pos p : Pos} {e a b tg : Expr} {d : Ex} {ds : Exs}
theorem pi_or {wi wi' : TI} (h : PI X tg e wi) (h' : PI X tg e wi') : PI X tg e (fun σ H R => wi σ H R ∨ wi' σ H R) :=
  ⟨fun pins s σ H R I q => q.elim (h.run pins s σ H R I) (h'.run pins s σ H R I)⟩
theorem _root_.L2.PI.impD {t t' : TI} (h : PI X tg e t) (k : ∀ σ H Q, t' σ H Q → t σ H Q) : PI X tg e t' := ⟨fun pins s σ H Q I q => h.run pins s σ H Q I (k σ H Q q)⟩
theorem ji_seq (h : JE X T Wi e d) : JI X T Wi tg e (iSeq d) := by
  refine (pi_or (pi_list h) (pi_tup h)).impD fun σ H Q q => ?_
  obtain ⟨B, env, w, F, O, M, s, q⟩ := q
  have q := q.bind
  cases eo : d env w with
  | stuck => rw [eo] at q; exact q.elim
  | exc x env' w' =>
    rw [eo] at q
    exact .inl ⟨B, env, w, F, O, M, s, by rw [eo]; exact q⟩
  | ok r w1 =>
    rw [eo] at q
    have q1 : Pst (match r.its with
      | some l => Out.ok l w1
      | none => .stuck) _ _ := q
    split at q1
    · rename_i l el
      unfold RV.its at el
      split at el
      · rename_i dd ea
        cases dd with
        | lst m =>
          cases el
          refine .inl ⟨B, env, w, F, O, M, s, ?_⟩
          rw [eo]
          intro v H1 F1 M1 s1 st1 r1
          obtain ⟨F2, s2, st2, a2⟩ := keep_arg s s1 st1 r1 ea
          cases a2 with
          | lst hz h1 h2 => exact ⟨_, rfl, ⟨_, s2.fh.seq h1⟩, q1 _ H1 F2 M1 s2 st2 (walk_lst hz h1 h2)⟩
        | tup m =>
          cases el
          refine .inr ⟨B, env, w, F, O, M, s, ?_⟩
          rw [eo]
          intro v H1 F1 M1 s1 st1 r1
          obtain ⟨F2, s2, st2, a2⟩ := keep_arg s s1 st1 r1 ea
          cases a2 with
          | tup hz h1 h2 => exact ⟨_, rfl, ⟨_, sqT_mono s2.fh h1⟩, q1 _ H1 F2 M1 s2 st2 (walk_tup hz h1 h2)⟩
        | _ => cases el
      · cases el
    · exact q1.elim
def rngD (lo hi : Int) : List D := (List.range (hi - lo).toNat).map fun (i : Nat) => D.int (lo + i)
def iRange (g : List D → Option (Int × Int)) (es : Exs) : Src := fun env w => (es env w).bind fun rs w1 => match vals rs with
  | some ds => (match g ds with
    | some (lo, hi) => if (hi - lo).toNat ≤ 16777216 ∧ -(2 ^ 62) ≤ lo ∧ lo < 2 ^ 62 ∧ -(2 ^ 62) ≤ hi ∧ hi < 2 ^ 62 then .ok (rngD lo hi) w1 else .stuck
    | none => .stuck)
  | none => .stuck
def rg1 : List D → Option (Int × Int)
  | [.int j] => some (0, j)
  | _ => none
def rg2 : List D → Option (Int × Int)
  | [.int i, .int j] => some (i, j)
  | _ => none
theorem ji_range1 (hg : Gl X "range") (hm : X.mg "range" = none) (h : JR X T Wi [a] ds) (hs : starEach [a] X.env = [(false, eval a X.env)] := by rfl) : JI X T Wi tg (.Call (.Name "range" p) [a] [] pos) (iRange rg1 ds) := by
  refine (pi_range1 hg hm h hs).impD fun σ H Q q => ?_
  obtain ⟨B, env, w, F, O, M, s, q⟩ := q
  refine ⟨B, env, w, F, O, M, s, q.bind.imp fun rs w1 q1 vs H1 F1 M1 s1 st1 p1 => ?_⟩
  split at q1
  · rename_i l el
    split at q1
    · rename_i lo hi eg
      split at q1
      · rename_i hc
        have pv := vals_at s1 p1 el
        unfold rg1 at eg
        split at eg
        · cases eg
          cases pv with
          | cons h1 h2 =>
            cases h2; cases h1
            refine ⟨_, rfl, hc.2.2.2.1, hc.2.2.2.2, q1 _ H1 F1 M1 s1 st1 ?_⟩
            have := hc.1
            refine walk_rng (by rw [sizeLine_eq]; omega) ?_
            unfold rngD
            rw [Int.sub_zero]
        · cases eg
      · exact q1.elim
    · exact q1.elim
  · exact q1.elim
end
abbrev Tgt := D → Ev → Option Ev
abbrev Tgts := List D → Ev → Option Ev
def gN (i : Nat) : Tgt := fun d env => some (env.set i (.dat d))
def gT (n : Nat) (ts : Tgts) : Tgt := fun d env => match d with
  | .tup l => if l.length = n then ts l env else none
  | .lst l => if l.length = n then ts l env else none
  | _ => none
def gsNil : Tgts := fun l env => match l with
  | [] => some env
  | _ => none
def gsCons (t : Tgt) (ts : Tgts) : Tgts := fun l env => match l with
  | d :: r => (t d env).bind fun env' => ts r env'
  | [] => none
section
variable {X : Tx} {B : Base} {env : Ev} {w : World} {σ : St} {H F : Hp} {O : Nat → Addr} {M : List Addr}
theorem SR.setDat {i : Nat} {v : V} {d : D} (s : SR X B env w σ H F O M) (r : Rp X.K F v d) : SR X B (env.set i (.dat d)) w (σ.set i (some v)) H F O M := by
  refine ⟨by simpa using s.len, s.fh, s.nt, s.st, s.wr, s.tb, fun j sl e => ?_, fun j k lj lk e1 e2 => ?_⟩
  · by_cases hj : i = j
    · subst hj
      have hlt : i < env.length := by simpa using (List.getElem?_eq_some_iff.mp e).1
      rw [List.getElem?_set_self hlt] at e
      cases e
      refine ⟨v, ?_, r⟩
      rw [List.getElem?_set_self (by rw [s.len]; exact hlt)]
    · rw [List.getElem?_set_ne hj] at e
      have := s.sl j sl e
      rw [List.getElem?_set_ne hj]
      exact this
  · have e1' : env[j]? = some (.own lj) := by
      by_cases hj : i = j
      · subst hj
        have hlt : i < env.length := by simpa using (List.getElem?_eq_some_iff.mp e1).1
        rw [List.getElem?_set_self hlt] at e1; cases e1
      · rw [List.getElem?_set_ne hj] at e1; exact e1
    have e2' : env[k]? = some (.own lk) := by
      by_cases hj : i = k
      · subst hj
        have hlt : i < env.length := by simpa using (List.getElem?_eq_some_iff.mp e2).1
        rw [List.getElem?_set_self hlt] at e2; cases e2
      · rw [List.getElem?_set_ne hj] at e2; exact e2
    exact s.inj j k lj lk e1' e2'
def wipeE (env : Ev) : List Nat → Ev
  | [] => env
  | v :: vs => (wipeE env vs).set v .un
theorem SR.setUn {i : Nat} (s : SR X B env w σ H F O M) : SR X B (env.set i .un) w (σ.set i none) H F O M := by
  refine ⟨by simpa using s.len, s.fh, s.nt, s.st, s.wr, s.tb, fun j sl e => ?_, fun j k lj lk e1 e2 => ?_⟩
  · by_cases hj : i = j
    · subst hj
      have hlt : i < env.length := by simpa using (List.getElem?_eq_some_iff.mp e).1
      rw [List.getElem?_set_self hlt] at e
      cases e
      trivial
    · rw [List.getElem?_set_ne hj] at e
      have := s.sl j sl e
      rw [List.getElem?_set_ne hj]
      exact this
  · have e1' : env[j]? = some (.own lj) := by
      by_cases hj : i = j
      · subst hj
        have hlt : i < env.length := by simpa using (List.getElem?_eq_some_iff.mp e1).1
        rw [List.getElem?_set_self hlt] at e1; cases e1
      · rw [List.getElem?_set_ne hj] at e1; exact e1
    have e2' : env[k]? = some (.own lk) := by
      by_cases hj : i = k
      · subst hj
        have hlt : i < env.length := by simpa using (List.getElem?_eq_some_iff.mp e2).1
        rw [List.getElem?_set_self hlt] at e2; cases e2
      · rw [List.getElem?_set_ne hj] at e2; exact e2
    exact s.inj j k lj lk e1' e2'
theorem SR.wipe (s : SR X B env w σ H F O M) : ∀ vs : List Nat, SR X B (wipeE env vs) w (L2.wipe σ vs) H F O M
  | [] => s
  | v :: vs => (SR.wipe s vs).setUn
theorem wipe_set {σ : St} {i : Nat} {x : Option V} : ∀ {vs : List Nat}, i ∈ vs → L2.wipe (σ.set i x) vs = L2.wipe σ vs
  | [], h => by cases h
  | v :: vs, h => by
    unfold L2.wipe
    by_cases hi : i ∈ vs
    · rw [wipe_set hi]
    · have hv : i = v := by
        rcases List.mem_cons.mp h with z | z
        · exact z
        · exact absurd z hi
      subst hv
      have go : ∀ {us : List Nat}, i ∉ us → L2.wipe (σ.set i x) us = (L2.wipe σ us).set i x := by
        intro us
        induction us with
        | nil => intro _; rfl
        | cons u us ih =>
          intro hu
          unfold L2.wipe
          rw [ih (fun z => hu (List.mem_cons_of_mem _ z)), List.set_comm _ _ (fun z => hu (by rw [z]; exact List.mem_cons_self))]
      rw [go hi, List.set_set]
end
def tG (X : Tx) (g : Tgt) (vs : List Nat) : TG := fun v σ H Q => ∃ B env w F O M d env', SR X B env w σ H F O M ∧ Rp X.K F v d ∧ g d env = some env' ∧
  ∀ σ', SR X B env' w σ' H F O M → (∀ us : List Nat, (∀ i ∈ vs, i ∈ us) → wipe σ' us = wipe σ us) → Q σ' H
def tGs (X : Tx) (g : Tgts) (vs : List Nat) : TGs := fun v σ H Q => ∃ B env w F O M d env', SR X B env w σ H F O M ∧ Paired (Rp X.K F) v d ∧ g d env = some env' ∧
  ∀ σ', SR X B env' w σ' H F O M → (∀ us : List Nat, (∀ i ∈ vs, i ∈ us) → wipe σ' us = wipe σ us) → Q σ' H
abbrev JG (X : Cx) (T : Tbs) (tg : Expr) (g : Tgt) (vs : List Nat) : Prop := PG X tg (tG (Cx.tx X T) g vs)
abbrev JGs (X : Cx) (T : Tbs) (tg : List Expr) (g : Tgts) (vs : List Nat) : Prop := PGs X tg (tGs (Cx.tx X T) g vs)
section
variable {X : Cx} {T : Tbs} {pos : Pos} {e : Expr} {es : List Expr}
theorem _root_.L2.PG.impD {t t' : TG} (h : PG X e t) (k : ∀ v σ H Q, t' v σ H Q → t v σ H Q) : PG X e t' := ⟨fun pins s σ H v u Q I r q => h.run pins s σ H v u Q I r (k v σ H Q q)⟩
theorem _root_.L2.PGs.impD {t t' : TGs} (h : PGs X es t) (k : ∀ v σ H Q, t' v σ H Q → t v σ H Q) : PGs X es t' := ⟨fun pins s σ H v u Q I r q => h.run pins s σ H v u Q I r (k v σ H Q q)⟩
theorem jg_name {i : Nat} {x : Str} (h : PG X (.Name x pos) (gName i)) : JG X T (.Name x pos) (gN i) [i] := by
  refine h.impD fun v σ H Q q => ?_
  obtain ⟨B, env, w, F, O, M, d, env', s, r, e, q⟩ := q
  cases e
  exact q _ (s.setDat r) fun us hu => wipe_set (hu i (by simp))
theorem jgs_nil : JGs X T [] gsNil [] := pgs_nil.impD fun v σ H Q q => by
  obtain ⟨B, env, w, F, O, M, d, env', s, p, e, q⟩ := q
  unfold gsNil at e
  split at e
  · cases e
    cases p
    exact ⟨rfl, q σ s fun _ _ => rfl⟩
  · cases e
theorem jgs_cons {g : Tgt} {gs : Tgts} {vs us : List Nat} (h : JG X T e g vs) (hs : JGs X T es gs us) (hst : (assignEach (e :: es) X.env).map (·.2) = assign e X.env :: (assignEach es X.env).map (·.2) := by rfl) : JGs X T (e :: es) (gsCons g gs) (vs ++ us) := by
  refine (pgs_cons h hs hst).impD fun v σ H Q q => ?_
  obtain ⟨B, env, w, F, O, M, d, env', s, p, e, q⟩ := q
  unfold gsCons at e
  split at e
  · rename_i d0 r0
    cases eg : g d0 env with
    | none => rw [eg] at e; cases e
    | some env1 =>
      rw [eg] at e
      cases p with
      | @cons v0 _ vr _ p1 p2 =>
        refine ⟨v0, vr, rfl, B, env, w, F, O, M, d0, env1, s, p1, eg, fun σ1 s1 h1 => ?_⟩
        refine ⟨B, env1, w, F, O, M, r0, env', s1, p2, e, fun σ2 s2 h2 => q σ2 s2 fun ts ht => ?_⟩
        rw [h2 ts (fun i hi => ht i (List.mem_append_right _ hi)), h1 ts (fun i hi => ht i (List.mem_append_left _ hi))]
  · cases e
theorem pg_any {es : List Expr} {k : Nat} {t : TGs} {n : Nat} (hc : X.calm = true) (h : PGs X es t)
    (hn : (assignEach es X.env).length = n) (hst : (assignEach es X.env).findIdx? (·.1) = none) : PG X (.Tuple es k pos) (fun v σ H Q => gTup X.K n t v σ H Q ∨ gLst X.K n t v σ H Q) :=
  ⟨fun pins s σ H v u Q I r hw => hw.elim ((pg_tup hc h hn hst).run pins s σ H v u Q I r) ((pg_lst hc h hn hst).run pins s σ H v u Q I r)⟩
theorem jg_tup {k n : Nat} {gs : Tgts} {vs : List Nat} (hc : X.calm = true) (h : JGs X T es gs vs) (hn : (assignEach es X.env).length = n := by rfl) (hst : (assignEach es X.env).findIdx? (·.1) = none := by rfl) : JG X T (.Tuple es k pos) (gT n gs) vs := by
  refine (pg_any hc h hn hst).impD fun v σ H Q q => ?_
  obtain ⟨B, env, w, F, O, M, d, env', s, p, e, q⟩ := q
  unfold gT at e
  split at e
  · split at e
    · rename_i hl
      cases p with
      | @tup a xs _ hz h1 h2 =>
        exact .inl ⟨a, xs, rfl, sqT_mono s.fh h1, by rw [h2.length]; exact hl, B, env, w, F, O, M, _, env', s, h2, e, q⟩
    · cases e
  · split at e
    · rename_i hl
      cases p with
      | @lst a xs _ hz h1 h2 =>
        exact .inr ⟨a, xs, rfl, s.fh.seq h1, by rw [h2.length]; exact hl, B, env, w, F, O, M, _, env', s, h2, e, q⟩
    · cases e
  · cases e
end
def noX {α : Type} (o : Out α) : Out α := match o with
  | .ok a w => .ok a w
  | _ => .stuck
@[simp] theorem noX_ok {α : Type} (a : α) (w : World) : noX (.ok a w) = .ok a w := rfl
theorem Pst.noX {α : Type} {o : Out α} {g : α → World → Prop} {b b' : Exn → Ev → World → Prop} (h : Pst (Dl.noX o) g b) : Pst o g b' := by
  cases o with
  | ok a w => exact h
  | exc x e w => exact h.elim
  | stuck => exact h.elim
def RV.st : RV → Option D
  | .dat d => some d
  | .fresh l => some (.lst l)
  | _ => none
theorem st_arg {r : RV} {d : D} (h : r.st = some d) : r.arg = some (.dat d) := by
  cases r <;> first | (cases h; done) | (cases h; rfl)
def compGo (g : Tgt) (tt : Tst) (elt : Ex) (env0 : Ev) : List D → World → Out (List D)
  | [], w => .ok [] w
  | d :: ds, w => match g d env0 with
    | none => .stuck
    | some env1 => (noX (tt env1 w)).bind fun b w1 => if b = true then (noX (elt env1 w1)).bind fun r w2 => (match r.st with
        | some x => (compGo g tt elt env0 ds w2).bind fun xs w3 => .ok (x :: xs) w3
        | none => .stuck)
      else compGo g tt elt env0 ds w1
def dComp (src : Src) (vs : List Nat) (g : Tgt) (tt : Tst) (elt : Ex) : Ex := fun env w => (src env w).bind fun l w1 => (compGo g tt elt (wipeE env vs) l w1).bind fun xs w2 => .ok (.fresh xs) w2
def tYes' : Tst := fun _ w => .ok true w
abbrev noW : WX := fun _ _ _ _ => False
abbrev JTs (X : Cx) (T : Tbs) (es : List Expr) (d : Tst) : Prop := PTs X es (tT (Cx.tx X T) noW d)
section
variable {X : Cx} {T : Tbs} {Wi : WX} {pos : Pos}
theorem _root_.L2.PTs.impD {X : Cx} {es : List Expr} {t t' : TT} (h : PTs X es t) (k : ∀ σ H Q, t' σ H Q → t σ H Q) : PTs X es t' := ⟨fun pins s σ H Q I q => h.run pins s σ H Q I (k σ H Q q)⟩
theorem jts_one {c : Expr} {t : Tst} (h : JT X T noW c t) : JTs X T [c] t := pts_one h
theorem tab_updL {T : List NTab} {H : Hp} {D : Addr} {vs ws : List V} (t : TabsN T H) (e : H D = some (.lst vs)) : TabsN T (upd H D (.lst ws)) := fun p hp => by
  obtain ⟨ps, h1, h2, h3⟩ := t p hp
  have n1 : p.1 ≠ D := ne_of h1 e (by simp)
  refine ⟨ps, by rw [upd_ne n1]; exact h1, h2, fun pos cv hc => ?_⟩
  obtain ⟨c, e1, e2⟩ := h3 pos cv hc
  have n2 : c ≠ D := ne_of e2 e (by unfold LamX.CodeO; simp)
  exact ⟨c, e1, by rw [upd_ne n2]; exact e2⟩
theorem SR.updFree {X : Tx} {B : Base} {env : Ev} {w : World} {σ : St} {H F : Hp} {O : Nat → Addr} {M : List Addr} {D : Addr} {vs ws : List V} (s : SR X B env w σ H F O M) (e : H D = some (.lst vs)) (hB : B.H D = none) (hF : F D = none) (hM : D ∉ M)
    (hO : ∀ i l, env[i]? = some (.own l) → O i ≠ D) : SR X B env w σ (upd H D (.lst ws)) F O M := by
  have ne : ∀ {a : Addr} {o : HO}, H a = some o → a ≠ D → upd H D (.lst ws) a = some o := fun h n => by rw [upd_ne n]; exact h
  refine ⟨s.len, fun b o q => ?_, s.nt, ⟨s.st.fg, fun a o hM' ht q => ?_, fun a h => ?_, s.st.nf, s.st.mw⟩, ⟨s.wr.nd, ?_⟩, tab_updL s.tb e, fun i sl e' => ?_, s.inj⟩
  · exact ne (s.fh _ _ q) (fun z => by subst z; rw [hF] at q; cases q)
  · exact ne (s.st.fr a o hM' ht q) (fun z => by subst z; rw [hB] at q; cases q)
  · by_cases z : a = D
    · subst z; rw [upd_same]; simp
    · rw [upd_ne z]; exact s.st.th a h
  · have go : ∀ {N M : List Addr} {w : World}, D ∉ M → Paired (fun m o => F m = none ∧ WO.isAt X F H N m o) M w → Paired (fun m o => F m = none ∧ WO.isAt X F (upd H D (.lst ws)) N m o) M w := by
      intro N M w hM h
      induction h with
      | nil => exact .nil
      | @cons m o _ _ h1 _ ih =>
        have nm : m ≠ D := fun z => hM (by rw [← z]; exact List.mem_cons_self)
        refine .cons ⟨h1.1, ?_⟩ (ih fun z => hM (List.mem_cons_of_mem _ z))
        cases o with
        | lst l => obtain ⟨_, ez, us, e1, e2⟩ := h1; exact ⟨ez, us, ne e1 nm, e2⟩
        | clo i caps => exact CloAt.keep h1.2 (keepE_upd e) (Same.refl _) (fun _ _ e => e)
        | obj y gs => exact ObjAt.keep h1.2 (Same.refl _) fun _ _ _ q => ne q nm
        | dic kvs => exact DicAt.keep h1.2 (Same.refl _) fun _ q => ne q nm
    exact go hM s.wr.at_
  · have h := s.sl i sl e'
    cases sl with
    | un => trivial
    | dat d => exact h
    | own l =>
      obtain ⟨e1, e2, e3, e4, ez, us, e5, e6⟩ := h
      exact ⟨e1, e2, e3, e4, ez, us, ne e5 (hO i l e'), e6⟩
    | wref k => exact h
    | exn x => obtain ⟨a, cls, d, e1, e2, e3⟩ := h; exact ⟨a, cls, d, e1, e2, Exn.keep e3 (Same.refl _) (keepX_upd fun fs z => by rw [e] at z; cases z)⟩
theorem lc_read {src : Src} {g : Tgt} {tt : Tst} {elt : Ex} {vs us : List Nat} (hvs : ∀ i ∈ us, i ∈ vs) {σ : St} {H : Hp} {Q : VK} (q : tD (Cx.tx X T) Wi (dComp src vs g tt elt) σ H Q) :
    tLc (tIt (Cx.tx X T) Wi src) (tG (Cx.tx X T) g us) (tT (Cx.tx X T) noW tt) (tD (Cx.tx X T) noW elt) vs σ H Q := by
  obtain ⟨B, env, w, F, O, M, s, q⟩ := q
  refine ⟨B, env, w, F, O, M, s, q.bind.imp fun l w1 q1 J H1 F1 M1 s1 st1 wk D hD => ?_⟩
  have q1 := q1.bind
  have hB : B.H D = none := by
    cases z : B.H D with
    | none => rfl
    | some o => exact absurd hD (s1.st.th D (by rw [z]; simp))
  have hH : H D = none := by
    cases z : H D with
    | none => rfl
    | some o => exact absurd hD (st1.th D (by rw [z]; simp))
  have hO : ∀ i k, env[i]? = some (.own k) → O i ≠ D := fun i k e z => by
    obtain ⟨_, _, _, _, _, ws, q', _⟩ := s.sl i _ e
    rw [z, hH] at q'; cases q'
  refine ⟨fun i m H' => m = l.length - i ∧ i ≤ l.length ∧ ∃ w' es F' M' vsD, es.length ≤ i ∧ SR (Cx.tx X T) B env w' σ H' F' O M' ∧ Stp H F M H' F' M' ∧ Same F1 F' ∧ H' D = some (.lst vsD) ∧ F' D = none ∧ D ∉ M' ∧ Paired (Rp X.K F') vsD es ∧
      Pst (compGo g tt elt (wipeE env vs) (l.drop i) w') (fun rest w2 => ∀ v H2 F2 M2, SR (Cx.tx X T) B env w2 σ H2 F2 O M2 → Stp H F M H2 F2 M2 → RV.isAt (Cx.tx X T) H env O H2 F2 M2 v (.fresh (es ++ rest)) → Q v H2) (fun _ _ _ => False), ⟨l.length, by simp, Nat.zero_le _, w1, [], F1, M1, [], Nat.le_refl _, ?_⟩, ?_⟩
  · have xt : Xt H1 F1 (upd H1 D (.lst [])) F1 := Xt.newL s1.fh s1.nt hD
    refine ⟨s1.xt xt, st1.trans xt.stp, Same.refl _, upd_same, s1.fh.free hD, fun z => s1.wr.there z hD, .nil, ?_⟩
    rw [List.drop_zero]
    cases eg : compGo g tt elt (wipeE env vs) l w1 with
    | stuck => rw [eg] at q1; exact q1.elim
    | ok rest w2 => rw [eg] at q1; exact fun v H2 F2 M2 s2 st2 r2 => q1 v H2 F2 M2 s2 st2 r2
    | exc x e' w2 =>
      exfalso
      have nx : ∀ (l : List Dl.D) (w : World) (x : Exn) (e : Ev) (w2 : World), compGo g tt elt (wipeE env vs) l w ≠ .exc x e w2 := by
        intro l
        induction l with
        | nil => intro w x e w2 z; cases z
        | cons d ds ih =>
          intro w x e w2 z
          unfold compGo at z
          split at z
          · cases z
          · rename_i env1 _
            cases h1 : tt env1 w with
            | stuck => rw [h1] at z; cases z
            | exc _ _ _ => rw [h1] at z; cases z
            | ok b w3 =>
              rw [h1] at z
              simp only [noX_ok, bind_ok] at z
              split at z
              · cases h2 : elt env1 w3 with
                | stuck => rw [h2] at z; cases z
                | exc _ _ _ => rw [h2] at z; cases z
                | ok r w4 =>
                  rw [h2] at z
                  simp only [noX_ok, bind_ok] at z
                  split at z
                  · cases h3 : compGo g tt elt (wipeE env vs) ds w4 with
                    | stuck => rw [h3] at z; cases z
                    | exc a b c => exact ih _ _ _ _ h3
                    | ok a b => rw [h3] at z; cases z
                  · cases z
              · exact ih _ _ _ _ z
      exact nx l w1 x e' w2 eg
  · rintro i m H' ⟨rfl, hi, w', es, F', M', vsD, hes, sr, st, sf, hDl, hFD, hMD, pd, qq⟩
    by_cases hlt : i < l.length
    · refine .inr ⟨wk.go i H' F' sf sr.fh hlt, fun H'' => i + 1 ≤ l.length ∧ ∃ w' es F' M' vsD, es.length ≤ i + 1 ∧ SR (Cx.tx X T) B env w' σ H'' F' O M' ∧ Stp H F M H'' F' M' ∧ Same F1 F' ∧ H'' D = some (.lst vsD) ∧ F' D = none ∧ D ∉ M' ∧ Paired (Rp X.K F') vsD es ∧
          Pst (compGo g tt elt (wipeE env vs) (l.drop (i + 1)) w') (fun rest w2 => ∀ v H2 F2 M2, SR (Cx.tx X T) B env w2 σ H2 F2 O M2 → Stp H F M H2 F2 M2 → RV.isAt (Cx.tx X T) H env O H2 F2 M2 v (.fresh (es ++ rest)) → Q v H2) (fun _ _ _ => False), fun H'' ⟨z1, z2⟩ => ⟨l.length - (i + 1), by omega, rfl, z1, z2⟩, fun x H2 hy => ?_⟩
      obtain ⟨F2, xt2, rx⟩ := wk.yld i H' F' x H2 l[i] sf sr.fh sr.nt hy (List.getElem?_eq_getElem hlt)
      have sr2 := sr.xt xt2
      rw [List.drop_eq_getElem_cons hlt] at qq
      unfold compGo at qq
      split at qq
      · exact qq.elim
      · rename_i env1 eg
        refine ⟨B, wipeE env vs, w', F2, O, M', l[i], env1, sr2.wipe vs, rx, eg, fun σ2 s2 hw => ⟨?_, ?_⟩⟩
        · rw [hw vs hvs]
          have idem : ∀ us : List Nat, (∀ i ∈ us, i ∈ vs) → wipe (wipe σ vs) us = wipe σ vs := by
            intro us
            induction us with
            | nil => intro _; rfl
            | cons u us ih =>
              intro hu
              show (wipe (wipe σ vs) us).set u none = wipe σ vs
              rw [ih fun i hi => hu i (List.mem_cons_of_mem _ hi)]
              have hu' := hu u List.mem_cons_self
              have : ∀ {ws : List Nat}, u ∈ ws → (wipe σ ws).set u none = wipe σ ws := by
                intro ws
                induction ws with
                | nil => intro h; cases h
                | cons a ws ih2 =>
                  intro h
                  show ((wipe σ ws).set a none).set u none = (wipe σ ws).set a none
                  by_cases ha : a = u
                  · subst ha; rw [List.set_set]
                  · rcases List.mem_cons.mp h with z | z
                    · exact absurd z.symm ha
                    · rw [List.set_comm _ _ ha, ih2 z]
              exact this hu'
          exact idem vs fun _ h => h
        · have qt := qq.bind.noX (b' := badX (Cx.tx X T) B noW)
          refine ⟨B, env1, w', F2, O, M', s2, qt.imp fun b w3 q3 H3 F3 M3 s3 st3 => ?_⟩
          have sr3 := sr2.step st3 s3.fh s3.nt s3.wr s3.tb
          have hDl3 : H3 D = some (.lst vsD) := st3.fr D _ (fun z => absurd z hMD) (fun _ z => by cases z) (xt2.hh _ _ hDl)
          have hMD3 : D ∉ M3 := notM' st3 hMD (by rw [xt2.hh _ _ hDl]; simp)
          have hFD2 : F2 D = none := xt2.nf D (by rw [hDl]; simp) hFD
          have hFD3 : F3 D = none := st3.nf D (by rw [xt2.hh _ _ hDl]; simp) hFD2
          have st03 := (st.trans xt2.stp).trans st3
          cases b with
          | false =>
            simp only [Bool.false_eq_true, if_false] at q3 ⊢
            exact ⟨hlt, w3, es, F3, M3, vsD, by omega, sr3, st03, (sf.trans xt2.ff).trans st3.fg, hDl3, hFD3, hMD3, Rp.monoAll (xt2.ff.trans st3.fg) _ _ pd, q3⟩
          | true =>
            simp only [if_true] at q3 ⊢
            have qe := q3.bind.noX (b' := badX (Cx.tx X T) B noW)
            refine ⟨B, env1, w3, F3, O, M3, s3, qe.imp fun r w4 q4 y H4 F4 M4 s4 st4 r4 => ?_⟩
            split at q4
            · rename_i d ed
              obtain ⟨F5, s5, st5, a5⟩ := keep_arg s3 s4 st4 r4 (st_arg ed)
              have hDl4 : H4 D = some (.lst vsD) := st5.fr D _ (fun z => absurd z hMD3) (fun _ z => by cases z) hDl3
              have hMD4 : D ∉ M4 := notM' st5 hMD3 (by rw [hDl3]; simp)
              have hFD5 : F5 D = none := st5.nf D (by rw [hDl3]; simp) hFD3
              have sr5 := sr3.step st5 s5.fh s5.nt s5.wr s5.tb
              have st05 := st03.trans st5
              have sr6 := sr5.updFree (ws := vsD ++ [y]) hDl4 hB hFD5 hMD4 hO
              have pd5 := Rp.monoAll ((xt2.ff.trans st3.fg).trans st5.fg) _ _ pd
              have hvl : vsD.length ≤ i := by rw [pd.length]; exact hes
              have hbd := wk.bd
              refine ⟨vsD, hDl4, by omega, hlt, w4, es ++ [d], F5, M4, vsD ++ [y], ?_, sr6, ?_, ((sf.trans xt2.ff).trans st3.fg).trans st5.fg, upd_same, hFD5, hMD4, Pr.append pd5 (.cons a5 .nil), ?_⟩
              · rw [List.length_append, List.length_singleton]; omega
              · exact ⟨st05.fg, fun a o hM' ht q' => by
                  have := st05.fr a o hM' ht q'
                  have na : a ≠ D := fun z => by subst z; rw [hH] at q'; cases q'
                  rw [upd_ne na]; exact this, fun a h => by
                  by_cases z : a = D
                  · subst z; rw [upd_same]; simp
                  · rw [upd_ne z]; exact st05.th a h, st05.nf, st05.mw⟩
              · have q5 := q4.bind
                refine q5.imp fun rest w5 q6 v H6 F6 M6 s6 st6 r6 => q6 v H6 F6 M6 s6 st6 ?_
                rw [List.append_assoc] at r6
                exact r6
            · exact q4.elim
    · have hil : i = l.length := by omega
      subst hil
      refine .inl ⟨wk.stop _ H' F' sf sr.fh (Nat.le_refl _), ?_⟩
      rw [List.drop_length] at qq
      have qq' : ∀ v H2 F2 M2, SR (Cx.tx X T) B env w' σ H2 F2 O M2 → Stp H F M H2 F2 M2 → RV.isAt (Cx.tx X T) H env O H2 F2 M2 v (.fresh (es ++ [])) → Q v H2 := qq
      rw [List.append_nil] at qq'
      exact qq' _ H' F' M' sr st ⟨Nat.le_trans hes wk.bd, D, vsD, rfl, hH, hFD, hMD, hDl, pd⟩
theorem js_setComp {i : Nat} {y : Str} {py spos : Pos} {elt tg iter : Expr} {ifs : List Expr} {scope : Scope} {own : List (Str × Nat)} {src : Src} {g : Tgt} {tt : Tst} {de : Ex} {us : List Nat} (hc : X.calm = true) (hN : X.N.Nodup) (hy : X.N[i]? = some y) (hyl : X.env.scope.names.lookup y = some .local)
    (hsw : swapsWith (.ListComp elt [⟨tg, iter, ifs, 0⟩] scope pos) (some (.Name y py)) spos.line X.env = pure true) (hi : JI X T Wi tg iter src) (ok : BlkOk X.N X.env.scope scope own) (hvs : ∀ i ∈ us, i ∈ own.map (·.2))
    (hg : ∀ (s : Shared) (H : Hp) (C : Addr) (cl : List (Str × Addr)) (fp : List Addr), JG (X.blk s H scope (compEnvC scope cl C X.env) fp) T tg g us)
    (ht : ∀ (s : Shared) (H : Hp) (C : Addr) (cl : List (Str × Addr)) (fp : List Addr), JTs (X.blk s H scope (compEnvC scope cl C X.env) fp) T ifs tt)
    (he : ∀ (s : Shared) (H : Hp) (C : Addr) (cl : List (Str × Addr)) (fp : List Addr), JE (X.blk s H scope (compEnvC scope cl C X.env) fp) T noW elt de) (hs : ∀ x, foldedSetIterable iter X.env x = pure x := by intro _; rfl) :
    PS X (.Assign [.Name y py] (.ListComp elt [⟨tg, iter, ifs, 0⟩] scope pos) spos) (tAsg (tD (Cx.tx X T) Wi (dComp src (own.map (·.2)) g tt de)) (gName i)) :=
  (ps_setLc hc hN hy hyl hsw hi ok hg ht he hs).impD fun D σ H q => lc_read hvs q
end
end Dl
namespace Dl
open PySem PySem.Spec PyProof.Rows L2 NdefX
inductive Fl where
  | nx (env : Ev) | rt (r : RV) | bk (env : Ev) | ct (env : Ev)
abbrev Sd := Ev → World → Out Fl
structure RetAt (X : Tx) (B : Base) (w : World) (H F : Hp) (M : List Addr) (v : V) (r : RV) : Prop where
  st : Stp B.H B.F B.M H F M
  fh : Same F H
  nt : NoTbl F
  wr : WRel X F H M w
  tb : TabsN X.T.tabs H
  at_ : r.isAt X B.H [] (fun _ => 0) H F M v
def flG (X : Tx) (B : Base) (F0 : Hp) (Dn : Ends) (f : Fl) (w : World) : Prop := match f with
  | .nx env => ∀ σ H F O M, SR X B env w σ H F O M → Same F0 F → Dn.nx σ H
  | .rt r => ∀ v H F M, RetAt X B w H F M v r → Dn.rt v H
  | .bk env => ∀ σ H F O M, SR X B env w σ H F O M → Same F0 F → Dn.bk σ H
  | .ct env => ∀ σ H F O M, SR X B env w σ H F O M → Same F0 F → Dn.ct σ H
theorem flG.later {X : Tx} {B : Base} {F0 F1 : Hp} {Dn : Ends} {f : Fl} {w : World} (h : flG X B F0 Dn f w) (e : Same F0 F1) : flG X B F1 Dn f w := by
  cases f with
  | nx env => exact fun σ H F O M s k => h σ H F O M s (e.trans k)
  | bk env => exact fun σ H F O M s k => h σ H F O M s (e.trans k)
  | ct env => exact fun σ H F O M s k => h σ H F O M s (e.trans k)
  | rt r => exact h
def tS (X : Tx) (Wi : WX) (s : Sd) : TS := fun Dn σ H => ∃ B env w F O M, SR X B env w σ H F O M ∧ Pst (s env w) (flG X B F Dn) (badX X B Wi)
abbrev JS (X : Cx) (T : Tbs) (Wi : WX) (st : Stmt) (d : Sd) : Prop := PS X st (tS (Cx.tx X T) Wi d)
abbrev JSs (X : Cx) (T : Tbs) (Wi : WX) (st : List Stmt) (d : Sd) : Prop := PSs X st (tS (Cx.tx X T) Wi d)
def sNil : Sd := fun env w => .ok (.nx env) w
def sSeq (a b : Sd) : Sd := fun env w => (a env w).bind fun f w1 => match f with
  | .nx env1 => b env1 w1
  | f => .ok f w1
section
variable {X : Cx} {T : Tbs} {Wi : WX} {pos : Pos} {st : Stmt} {sts : List Stmt} {a b : Sd} {e : Expr} {d : Ex}
theorem jss_nil : JSs X T Wi [] sNil := pss_nil.impD fun D σ H q => by
  obtain ⟨B, env, w, F, O, M, s, q⟩ := q
  exact q σ H F O M s (Same.refl _)
theorem jss_cons (h : JS X T Wi st a) (hs : JSs X T Wi sts b) : JSs X T Wi (st :: sts) (sSeq a b) := (pss_cons h hs).impD fun D σ H q => by
  obtain ⟨B, env, w, F, O, M, s, q⟩ := q
  refine ⟨B, env, w, F, O, M, s, q.bind.imp fun f w1 q1 => ?_⟩
  cases f with
  | nx env1 => exact fun σ1 H1 F1 O1 M1 s1 k => ⟨B, env1, w1, F1, O1, M1, s1, q1.imp fun f w z => z.later k⟩
  | rt r => exact q1
  | bk env1 => exact q1
  | ct env1 => exact q1
theorem jss_one (h : JS X T Wi st a) : JSs X T Wi [st] a := pss_one h
def sPass : Sd := fun env w => .ok (.nx env) w
def sBreak : Sd := fun env w => .ok (.bk env) w
def sCont : Sd := fun env w => .ok (.ct env) w
def sNever : Sd := fun _ _ => .stuck
theorem js_break : JS X T Wi (.Break pos) sBreak := ps_break.impD fun D σ H q => by
  obtain ⟨B, env, w, F, O, M, s, q⟩ := q
  exact q σ H F O M s (Same.refl _)
theorem js_never : JS X T Wi st sNever := ps_never.impD fun D σ H q => by
  obtain ⟨B, env, w, F, O, M, s, q⟩ := q
  exact q.elim
def sExpr (e : Ex) : Sd := fun env w => (e env w).bind fun _ w1 => .ok (.nx env) w1
theorem js_expr (h : JE X T Wi e d) (hs : swapsWith e none pos.line X.env = pure false := by rfl) : JS X T Wi (.Expr e pos) (sExpr d) := (ps_expr h hs).impD fun D σ H q => by
  obtain ⟨B, env, w, F, O, M, s, q⟩ := q
  exact ⟨B, env, w, F, O, M, s, q.bind.imp fun r w1 q1 v H1 F1 M1 s1 st1 r1 => q1 σ H1 F1 O M1 s1 st1.fg⟩
def RV.ret : RV → RV
  | .bor _ l => .fresh l
  | r => r
def sRet (e : Ex) : Sd := fun env w => (e env w).bind fun r w1 => .ok (.rt r.ret) w1
theorem ret_at {X : Tx} {B : Base} {env : Ev} {w w1 : World} {σ : St} {H F H1 F1 : Hp} {O : Nat → Addr} {M M1 : List Addr} {v : V} {r : RV} (s : SR X B env w σ H F O M) (s1 : SR X B env w1 σ H1 F1 O M1) (h : r.isAt X H env O H1 F1 M1 v) : RetAt X B w1 H1 F1 M1 v r.ret := by
  refine ⟨s1.st, s1.fh, s1.nt, s1.wr, s1.tb, ?_⟩
  cases r with
  | dat d => exact h
  | wref k => exact h
  | fresh l => exact RV.since (r := .fresh l) (env := []) (O := fun _ => 0) h s.st.th
  | bor i l =>
    obtain ⟨e1, e2⟩ := h
    obtain ⟨_, e4, e5, e6, ez, vs, e7, e8⟩ := s1.sl i _ e1
    exact ⟨ez, O i, vs, e2, e4, e5, e6, e7, e8⟩
theorem js_ret (h : JE X T Wi e d) : JS X T Wi (.Return (some e) pos) (sRet d) := (ps_ret h).impD fun D σ H q => by
  obtain ⟨B, env, w, F, O, M, s, q⟩ := q
  exact ⟨B, env, w, F, O, M, s, q.bind.imp fun r w1 q1 v H1 F1 M1 s1 st1 r1 => q1 v H1 F1 M1 (ret_at s s1 r1)⟩
def sRetN : Sd := fun _ w => .ok (.rt (.dat .non)) w
def sIf (c : Tst) (a b : Sd) : Sd := fun env w => (c env w).bind fun k w1 => if k = true then a env w1 else b env w1
theorem js_if {c : Expr} {tc : Tst} {sa sb : List Stmt} (hc : JT X T Wi c tc) (ha : JSs X T Wi sa a) (hb : JSs X T Wi sb b) : JS X T Wi (.If c sa sb pos) (sIf tc a b) := (ps_if hc ha hb).impD fun D σ H q => by
  obtain ⟨B, env, w, F, O, M, s, q⟩ := q
  refine ⟨B, env, w, F, O, M, s, q.bind.imp fun k w1 q1 H1 F1 M1 s1 st1 => ?_⟩
  cases k with
  | true => rw [if_pos rfl] at q1 ⊢; exact ⟨B, env, w1, F1, O, M1, s1, q1.imp fun f w z => z.later st1.fg⟩
  | false => rw [if_neg Bool.false_ne_true] at q1 ⊢; exact ⟨B, env, w1, F1, O, M1, s1, q1.imp fun f w z => z.later st1.fg⟩
section
variable {X : Tx} {B : Base} {env : Ev} {w : World} {σ : St} {H F Hs : Hp} {O : Nat → Addr} {M : List Addr}
theorem own_of_set {sl : Sl} {i j : Nat} {l : List D} (h : (env.set i sl)[j]? = some (.own l)) (hn : ∀ l, sl ≠ .own l) : env[j]? = some (.own l) ∧ i ≠ j := by
  by_cases hj : i = j
  · subst hj
    have hlt : i < env.length := by simpa using (List.getElem?_eq_some_iff.mp h).1
    rw [List.getElem?_set_self hlt] at h
    exact absurd (Option.some.inj h) (hn l)
  · rw [List.getElem?_set_ne hj] at h; exact ⟨h, hj⟩
theorem SR.setOwn {i : Nat} {p : Addr} {vs : List V} {l : List D} (s : SR X B env w σ H F O M) (hz : l.length ≤ sizeLine) (hB : B.H p = none) (hF : F p = none) (hM : p ∉ M) (hp : H p = some (.lst vs)) (pp : Paired (Rp X.K F) vs l)
    (hO : ∀ j k, j ≠ i → env[j]? = some (.own k) → O j ≠ p) : SR X B (env.set i (.own l)) w (σ.set i (some (.ref p))) H F (fun j => if j = i then p else O j) M := by
  refine ⟨by simpa using s.len, s.fh, s.nt, s.st, s.wr, s.tb, fun j sl e => ?_, fun j k lj lk e1 e2 h => ?_⟩
  · by_cases hj : i = j
    · subst hj
      have hlt : i < env.length := by simpa using (List.getElem?_eq_some_iff.mp e).1
      rw [List.getElem?_set_self hlt] at e
      cases e
      rw [List.getElem?_set_self (by rw [s.len]; exact hlt)]
      show (some (some (V.ref p)) : Option (Option V)) = some (some (.ref (if i = i then p else O i))) ∧ B.H (if i = i then p else O i) = none ∧ F (if i = i then p else O i) = none ∧ (if i = i then p else O i) ∉ M ∧ l.length ≤ sizeLine ∧ ∃ vs, H (if i = i then p else O i) = some (.lst vs) ∧ Paired (Rp X.K F) vs l
      rw [if_pos rfl]
      exact ⟨rfl, hB, hF, hM, hz, vs, hp, pp⟩
    · rw [List.getElem?_set_ne hj] at e ⊢
      have h := s.sl j sl e
      cases sl with
      | own k =>
        show σ[j]? = some (some (.ref (if j = i then p else O j))) ∧ B.H (if j = i then p else O j) = none ∧ F (if j = i then p else O j) = none ∧ (if j = i then p else O j) ∉ M ∧ k.length ≤ sizeLine ∧ ∃ vs, H (if j = i then p else O j) = some (.lst vs) ∧ Paired (Rp X.K F) vs k
        rw [if_neg (fun z => hj z.symm)]
        exact h
      | un => trivial
      | dat d => exact h
      | wref k => exact h
      | exn x => exact h
  · have h : (if j = i then p else O j) = (if k = i then p else O k) := h
    by_cases hj : j = i
    · by_cases hk : k = i
      · rw [hj, hk]
      · rw [if_pos hj, if_neg hk] at h
        rw [List.getElem?_set_ne (fun z => hk z.symm)] at e2
        exact absurd h.symm (hO k lk hk e2)
    · rw [List.getElem?_set_ne (fun z => hj z.symm)] at e1
      by_cases hk : k = i
      · rw [if_neg hj, if_pos hk] at h
        exact absurd h (hO j lj hj e1)
      · rw [if_neg hj, if_neg hk] at h
        rw [List.getElem?_set_ne (fun z => hk z.symm)] at e2
        exact s.inj j k lj lk e1 e2 h
theorem SR.setRef {i k : Nat} {m : Addr} (s : SR X B env w σ H F O M) (hm : M[k]? = some m) : SR X B (env.set i (.wref k)) w (σ.set i (some (.ref m))) H F O M := by
  refine ⟨by simpa using s.len, s.fh, s.nt, s.st, s.wr, s.tb, fun j sl e => ?_, fun j k lj lk e1 e2 => ?_⟩
  · by_cases hj : i = j
    · subst hj
      have hlt : i < env.length := by simpa using (List.getElem?_eq_some_iff.mp e).1
      rw [List.getElem?_set_self hlt] at e
      cases e
      exact ⟨m, hm, by rw [List.getElem?_set_self (by rw [s.len]; exact hlt)]⟩
    · rw [List.getElem?_set_ne hj] at e
      have := s.sl j sl e
      rw [List.getElem?_set_ne hj]
      exact this
  · exact s.inj j k lj lk (own_of_set e1 (fun _ z => by cases z)).1 (own_of_set e2 (fun _ z => by cases z)).1
theorem fresh_out {r : RV} {l : List D} {w0 : World} {H0 F0 : Hp} {M0 : List Addr} {v : V} (s0 : SR X B env w0 σ H0 F0 O M0) (h : (RV.fresh l).isAt X H0 env O H F M v) : l.length ≤ sizeLine ∧ ∃ p vs, v = .ref p ∧ B.H p = none ∧ F p = none ∧ p ∉ M ∧ H p = some (.lst vs) ∧ Paired (Rp X.K F) vs l ∧ ∀ j k, env[j]? = some (.own k) → O j ≠ p := by
  obtain ⟨hz, p, vs, e1, e2, e3, e4, e5, e6⟩ := h
  refine ⟨hz, p, vs, e1, ?_, e3, e4, e5, e6, fun j k e z => ?_⟩
  · cases q : B.H p with
    | none => rfl
    | some o => exact absurd e2 (s0.st.th p (by rw [q]; simp))
  · obtain ⟨_, _, _, _, _, ws, q, _⟩ := s0.sl j _ e
    rw [z, e2] at q; cases q
end
def sSet (i : Nat) (e : Ex) : Sd := fun env w => (e env w).bind fun r w1 => match r with
  | .dat d => .ok (.nx (env.set i (.dat d))) w1
  | .fresh l => .ok (.nx (env.set i (.own l))) w1
  | .wref k => .ok (.nx (env.set i (.wref k))) w1
  | .bor _ _ => .stuck
theorem set_read {i : Nat} {D : Ends} {σ : St} {H : Hp} (q : tS (Cx.tx X T) Wi (sSet i d) D σ H) : tAsg (tD (Cx.tx X T) Wi d) (gName i) D σ H := by
  obtain ⟨B, env, w, F, O, M, s, q⟩ := q
  refine ⟨B, env, w, F, O, M, s, q.bind.imp fun r w1 q1 v H1 F1 M1 s1 st1 r1 => ?_⟩
  cases r with
  | dat d => exact q1 _ H1 F1 O M1 (s1.setDat r1) st1.fg
  | wref k => obtain ⟨m, e1, e2⟩ := r1; subst e2; exact q1 _ H1 F1 O M1 (s1.setRef e1) st1.fg
  | bor i l => exact q1.elim
  | fresh l =>
    obtain ⟨hz, p, vs, e1, e2, e3, e4, e5, e6, e7⟩ := fresh_out (r := .dat .non) s r1
    subst e1
    exact q1 _ H1 F1 _ M1 (s1.setOwn hz e2 e3 e4 e5 e6 fun j k _ e => e7 j k e) st1.fg
theorem js_set {i : Nat} {x : Str} {pos' : Pos} (hN : X.N.Nodup) (hi : X.N[i]? = some x) (hx : Loc X.env.scope x) (h : JE X T Wi e d) (hs : swapsWith e (some (.Name x pos')) pos.line X.env = pure false := by rfl)
    (hf : X.fn x = true ∨ X.env.scope.names.lookup x = some .local := by first | exact .inl rfl | exact .inr rfl | assumption) : JS X T Wi (.Assign [.Name x pos'] e pos) (sSet i d) :=
  (ps_set hN hi hx h hs hf).impD fun D σ H q => set_read q
theorem js_setC {i : Nat} {y : Str} {py spos : Pos} {elt tg iter : Expr} {ifs : List Expr} {scope : Scope} {own : List (Str × Nat)} {src : Src} {g : Tgt} {tt : Tst} {de : Ex} {us vs : List Nat} (hc : X.calm = true) (hN : X.N.Nodup) (hy : X.N[i]? = some y) (hyl : X.env.scope.names.lookup y = some .local)
    (hsw : swapsWith (.ListComp elt [⟨tg, iter, ifs, 0⟩] scope pos) (some (.Name y py)) spos.line X.env = pure true) (hi : JI X T Wi tg iter src) (ok : BlkOk X.N X.env.scope scope own) (hv : own.map (·.2) = vs) (hvs : ∀ i ∈ us, i ∈ vs)
    (hg : ∀ (s : Shared) (H : Hp) (C : Addr) (cl : List (Str × Addr)) (fp : List Addr), JG (X.blk s H scope (compEnvC scope cl C X.env) fp) T tg g us)
    (ht : ∀ (s : Shared) (H : Hp) (C : Addr) (cl : List (Str × Addr)) (fp : List Addr), JTs (X.blk s H scope (compEnvC scope cl C X.env) fp) T ifs tt)
    (he : ∀ (s : Shared) (H : Hp) (C : Addr) (cl : List (Str × Addr)) (fp : List Addr), JE (X.blk s H scope (compEnvC scope cl C X.env) fp) T noW elt de) (hs : ∀ x, foldedSetIterable iter X.env x = pure x := by intro _; rfl) :
    JS X T Wi (.Assign [.Name y py] (.ListComp elt [⟨tg, iter, ifs, 0⟩] scope pos) spos) (sSet i (dComp src vs g tt de)) := by
  subst hv
  exact (js_setComp hc hN hy hyl hsw hi ok hvs hg ht he hs).impD fun D σ H q => set_read q
def sSetW (i : Nat) (e : Ex) : Sd := fun env w => (e env w).bind fun r w1 => match r with
  | .fresh l => .ok (.nx (env.set i (.wref w1.length))) (w1 ++ [.lst l])
  | _ => .stuck
theorem paired_app1 {α β : Type} {R : α → β → Prop} {xs : List α} {ys : List β} {x : α} {y : β} (h : Paired R xs ys) (r : R x y) : Paired R (xs ++ [x]) (ys ++ [y]) := Pr.append h (.cons r .nil)
theorem js_setW {i : Nat} {x : Str} {pos' : Pos} (hN : X.N.Nodup) (hi : X.N[i]? = some x) (hx : Loc X.env.scope x) (h : JE X T Wi e d) (hs : swapsWith e (some (.Name x pos')) pos.line X.env = pure false := by rfl)
    (hf : X.fn x = true ∨ X.env.scope.names.lookup x = some .local := by first | exact .inl rfl | exact .inr rfl | assumption) : JS X T Wi (.Assign [.Name x pos'] e pos) (sSetW i d) := by
  refine (ps_set hN hi hx h hs hf).impD fun D σ H q => ?_
  obtain ⟨B, env, w, F, O, M, s, q⟩ := q
  refine ⟨B, env, w, F, O, M, s, q.bind.imp fun r w1 q1 v H1 F1 M1 s1 st1 r1 => ?_⟩
  cases r with
  | dat d => exact q1.elim
  | wref k => exact q1.elim
  | bor i l => exact q1.elim
  | fresh l =>
    obtain ⟨hz, p, vs, e1, e2, e3, e4, e5, e6, e7⟩ := fresh_out (r := .dat .non) s r1
    subst e1
    have hl : M1.length = w1.length := s1.wr.at_.length
    have s2 : SR (Cx.tx X T) B env (w1 ++ [.lst l]) σ H1 F1 O (M1 ++ [p]) := by
      refine ⟨s1.len, s1.fh, s1.nt, ⟨s1.st.fg, s1.st.fr, s1.st.th, s1.st.nf, ?_⟩, ⟨?_, paired_app1 (Paired.mapP s1.wr.at_ fun _ _ h => ⟨h.1, WO.more h.2 fun _ _ h => mem_of_pfx rfl h⟩) ⟨e3, hz, vs, e5, e6⟩⟩, s1.tb, fun j sl e => ?_, s1.inj⟩
      · obtain ⟨nw, em, hn⟩ := s1.st.mw
        refine ⟨nw ++ [p], by rw [em, List.append_assoc], fun m hm => ?_⟩
        rcases List.mem_append.mp hm with z | z
        · exact hn m z
        · rw [List.mem_singleton.mp z]; exact e2
      · rw [List.nodup_append]
        refine ⟨s1.wr.nd, by simp, fun a ha b hb => ?_⟩
        rw [List.mem_singleton.mp hb]
        exact fun z => e4 (z ▸ ha)
      · have h := s1.sl j sl e
        cases sl with
        | un => trivial
        | dat d => exact h
        | own k =>
          obtain ⟨f1, f2, f3, f4, f5⟩ := h
          refine ⟨f1, f2, f3, ?_, f5⟩
          rw [List.mem_append]
          rintro (z | z)
          · exact f4 z
          · exact e7 j k e (List.mem_singleton.mp z)
        | wref k => obtain ⟨m, f1, f2⟩ := h; exact ⟨m, mem_of_pfx rfl f1, f2⟩
        | exn x => exact h
    refine q1 _ H1 F1 O (M1 ++ [p]) (s2.setRef ?_) st1.fg
    rw [← hl, List.getElem?_append_right (Nat.le_refl _), Nat.sub_self]
    rfl
def sAsg (g : Tgt) (e : Ex) : Sd := fun env w => (e env w).bind fun r w1 => match r.arg with
  | some (.dat d) => (match g d env with
    | some env' => .ok (.nx env') w1
    | none => .stuck)
  | _ => .stuck
def sAug (i : Nat) (g : D → D → Option RV) (e : Ex) : Sd := fun env w => match env[i]? with
  | some (.dat x) => (e env w).bind fun r w1 => (match r.val with
    | some y => (match g x y with
      | some (.dat z) => .ok (.nx (env.set i (.dat z))) w1
      | _ => .stuck)
    | none => .stuck)
  | _ => .stuck
theorem is_add : OpS X (inplaceOp .Add) (fun d e => match d, e with
    | .int i, .int j => some (.dat (.int (i + j)))
    | _, _ => none) := by
  refine ⟨_, iop_add, fun x y d e rv H F fh nt rx ry h Q q => ?_⟩
  cases d <;> cases e <;> first | (simp only at h; cases h; done) | skip
  simp only [Option.some.injEq] at h; subst h
  cases rx; cases ry
  exact ⟨_, _, rfl, rfl, new_val fh nt q (.int _)⟩
theorem SR.updOwn {X : Tx} {B : Base} {env : Ev} {w : World} {σ : St} {H F : Hp} {O : Nat → Addr} {M : List Addr} {i : Nat} {l l' : List D} {vs' : List V} (s : SR X B env w σ H F O M) (e : env[i]? = some (.own l)) (hz : l'.length ≤ sizeLine) (p : Paired (Rp X.K F) vs' l') :
    SR X B (env.set i (.own l')) w σ (upd H (O i) (.lst vs')) F O M := by
  obtain ⟨e1, e2, e3, e4, ez, vs, e5, e6⟩ := s.sl i _ e
  have hlt : i < env.length := (List.getElem?_eq_some_iff.mp e).1
  have ne : ∀ {a : Addr} {o : HO}, H a = some o → a ≠ O i → upd H (O i) (.lst vs') a = some o := fun h n => by rw [upd_ne n]; exact h
  refine ⟨by simpa using s.len, fun b o q => ?_, s.nt, ⟨s.st.fg, fun a o hM' ht q => ?_, fun a h => ?_, s.st.nf, s.st.mw⟩, ⟨s.wr.nd, ?_⟩, tab_updL s.tb e5, fun j sl e' => ?_, fun j k lj lk f1 f2 h => ?_⟩
  · exact ne (s.fh _ _ q) (fun z => by subst z; rw [e3] at q; cases q)
  · exact ne (s.st.fr a o hM' ht q) (fun z => by subst z; rw [e2] at q; cases q)
  · by_cases z : a = O i
    · subst z; rw [upd_same]; simp
    · rw [upd_ne z]; exact s.st.th a h
  · have go : ∀ {N M : List Addr} {w : World}, O i ∉ M → Paired (fun m o => F m = none ∧ WO.isAt X F H N m o) M w → Paired (fun m o => F m = none ∧ WO.isAt X F (upd H (O i) (.lst vs')) N m o) M w := by
      intro N M w hM h
      induction h with
      | nil => exact .nil
      | @cons m o _ _ h1 _ ih =>
        have nm : m ≠ O i := fun z => hM (by rw [← z]; exact List.mem_cons_self)
        refine .cons ⟨h1.1, ?_⟩ (ih fun z => hM (List.mem_cons_of_mem _ z))
        cases o with
        | lst l => obtain ⟨_, ez, us, f1, f2⟩ := h1; exact ⟨ez, us, ne f1 nm, f2⟩
        | clo i caps => exact CloAt.keep h1.2 (keepE_upd e5) (Same.refl _) (fun _ _ e => e)
        | obj y gs => exact ObjAt.keep h1.2 (Same.refl _) fun _ _ _ q => ne q nm
        | dic kvs => exact DicAt.keep h1.2 (Same.refl _) fun _ q => ne q nm
    exact go e4 s.wr.at_
  · by_cases hj : i = j
    · subst hj
      rw [List.getElem?_set_self hlt] at e'
      cases e'
      exact ⟨e1, e2, e3, e4, hz, vs', upd_same, p⟩
    · rw [List.getElem?_set_ne hj] at e'
      have h := s.sl j sl e'
      cases sl with
      | un => trivial
      | dat d => exact h
      | own k =>
        obtain ⟨f1, f2, f3, f4, fz, us, f5, f6⟩ := h
        exact ⟨f1, f2, f3, f4, fz, us, ne f5 (fun z => hj (s.inj i j l k e e' z.symm)), f6⟩
      | wref k => exact h
      | exn x => obtain ⟨a, cls, d, e1', e2', e3'⟩ := h; exact ⟨a, cls, d, e1', e2', Exn.keep e3' (Same.refl _) (keepX_upd fun fs z => by rw [e5] at z; cases z)⟩
  · have own' : ∀ {j : Nat} {lj : List D}, (env.set i (.own l'))[j]? = some (.own lj) → ∃ l0, env[j]? = some (.own l0) := by
      intro j lj f
      by_cases hj : i = j
      · subst hj; exact ⟨l, e⟩
      · rw [List.getElem?_set_ne hj] at f; exact ⟨lj, f⟩
    obtain ⟨a1, b1⟩ := own' f1
    obtain ⟨a2, b2⟩ := own' f2
    exact s.inj j k a1 a2 b1 b2 h
def sAppend (i : Nat) (e : Ex) : Sd := fun env w => match env[i]? with
  | some (.own l) => (e env w).bind fun r w1 => (match r.st with
    | some d => if l.length < 16777216 then .ok (.nx (env.set i (.own (l ++ [d])))) w1 else .stuck
    | none => .stuck)
  | _ => .stuck
theorem js_append {i : Nat} {x : Str} {p1 p2 p3 : Pos} (h0 : PE X (.Name x p1) (tVar i)) (h : JE X T Wi e d)
    (hs : swapsWith (.Call (.Attribute (.Name x p1) "append" p2) [e] [] p3) none pos.line X.env = pure false := by rfl)
    (hbase : attributeBase (.Name x p1) "append" X.env (eval (.Name x p1) X.env) = eval (.Name x p1) X.env := by rfl)
    (hfew : ((backTo p3 (starEach (e :: []) X.env)).all (fun x => !x.1) && (backToKw p3 (keywordEach [] X.env)).all (fun x => x.1.isSome)
      && decide ((e :: []).length + ([] : List Keyword).length + (if ([] : List Keyword).isEmpty then 0 else 1) < 30)) = true := by rfl)
    (hline : (p2.endLine == p3.line) = true := by rfl) (hst : starEach (e :: []) X.env = (false, eval e X.env) :: starEach [] X.env := by rfl) (hplain : (backTo p3 (starEach [] X.env)).any (·.1) = false := by rfl) :
    JS X T Wi (.Expr (.Call (.Attribute (.Name x p1) "append" p2) [e] [] p3) pos) (sAppend i d) := by
  refine (ps_expr (pe_bm PySem.F.plainAttrs_list PySem.F.slot_list_append PySem.F.type_list_append mt_append h0 (pa_cons h pa_nil hst) hbase hfew hline hst hplain) hs).impD fun D σ H q => ?_
  obtain ⟨B, env, w, F, O, M, s, q⟩ := q
  unfold sAppend at q
  split at q
  · rename_i l el
    obtain ⟨e1, e2, e3, e4, ez, vs, e5, e6⟩ := s.sl i _ el
    refine ⟨.ref (O i), e1, .inl ⟨rfl, vs, SqL.of e5⟩, B, env, w, F, O, M, s, q.bind.imp fun r w1 q1 v H1 F1 M1 s1 st1 r1 => ?_⟩
    split at q1
    · rename_i dd er
      split at q1
      · rename_i hz
        obtain ⟨F2, s2, st2, a2⟩ := keep_arg s s1 st1 r1 (st_arg er)
        obtain ⟨g1, g2, g3, g4, gz, ws, g5, g6⟩ := s2.sl i _ el
        have hwl : ws.length = l.length := g6.length
        refine ⟨O i, ws, v, rfl, rfl, g5, by rw [hwl, sizeLine_eq]; exact hz, ?_⟩
        exact q1 σ _ F2 O M1 (s2.updOwn el (by rw [List.length_append, List.length_singleton, sizeLine_eq]; omega) (Pr.append g6 (.cons a2 .nil))) st2.fg
      · exact q1.elim
    · exact q1.elim
  · exact q.elim
end
end Dl
namespace Dl
open PySem PySem.Spec PyProof.Rows L2 NdefX
section
variable {X : Cx}
end
section
variable {X : Cx} {T : Tbs} {Wi : WX} {pos : Pos} {st : Stmt} {sts : List Stmt} {a b : Sd} {e : Expr} {d : Ex}
def sSetIx (i : Nat) (ix e : Ex) : Sd := fun env w => (e env w).bind fun r w1 => match env[i]?, r.st with
  | some (.own l), some d => (ix env w1).bind fun k w2 => (match k with
    | .dat (.int z) => (match ixN l.length z with
      | some j => .ok (.nx (env.set i (.own (l.set j d)))) w2
      | none => .stuck)
    | _ => .stuck)
  | some (.wref m), some d => (ix env w1).bind fun k w2 => (match k, w2[m]? with
    | .dat (.int z), some (.lst l) => (match ixN l.length z with
      | some j => .ok (.nx env) (w2.set m (.lst (l.set j d)))
      | none => .stuck)
    | _, _ => .stuck)
  | _, _ => .stuck
theorem WRel.get {X : Tx} {F H : Hp} {M : List Addr} {w : World} (wr : WRel X F H M w) {k : Nat} {o : WO} (h : w[k]? = some o) : ∃ m, M[k]? = some m ∧ F m = none ∧ WO.isAt X F H M m o := Pr.get wr.at_ h
theorem SR.updW {X : Tx} {B : Base} {env : Ev} {w : World} {σ : St} {H F : Hp} {O : Nat → Addr} {M : List Addr} {k : Nat} {m : Addr} {l l' : List D} {vs' : List V} (s : SR X B env w σ H F O M) (e : w[k]? = some (.lst l)) (em : M[k]? = some m) (hz : l'.length ≤ sizeLine) (p : Paired (Rp X.K F) vs' l') :
    SR X B env (w.set k (.lst l')) σ (upd H m (.lst vs')) F O M := by
  obtain ⟨m', em', hF, ez, vs, e5, e6⟩ := s.wr.get e
  rw [em] at em'; cases em'
  have hmM : m ∈ M := List.mem_of_getElem? em
  have ne : ∀ {a : Addr} {o : HO}, H a = some o → a ≠ m → upd H m (.lst vs') a = some o := fun h n => by rw [upd_ne n]; exact h
  -- the frame: what stood at the entry and is no world's list
  have hBm : m ∈ B.M ∨ B.H m = none := by
    obtain ⟨nw, en, hn⟩ := s.st.mw
    rw [en] at hmM
    rcases List.mem_append.mp hmM with z | z
    · exact .inl z
    · exact .inr (hn m z)
  refine ⟨s.len, fun b o q => ?_, s.nt, ⟨s.st.fg, fun a o hM' ht q => ?_, fun a h => ?_, s.st.nf, s.st.mw⟩, ⟨s.wr.nd, ?_⟩, tab_updL s.tb e5, fun j sl e' => ?_, s.inj⟩
  · exact ne (s.fh _ _ q) (fun z => by subst z; rw [hF] at q; cases q)
  · refine ne (s.st.fr a o hM' ht q) (fun z => ?_)
    subst z
    rcases hBm with z | z
    · obtain ⟨φ, rfl⟩ := hM' z
      have q2 := s.st.fr _ _ hM' ht q
      rw [e5] at q2
      cases q2
    · rw [z] at q; cases q
  · by_cases z : a = m
    · subst z; rw [upd_same]; simp
    · rw [upd_ne z]; exact s.st.th a h
  · have go : ∀ {N M : List Addr} {w : World} {k : Nat}, M.Nodup → M[k]? = some m → Paired (fun m o => F m = none ∧ WO.isAt X F H N m o) M w → Paired (fun a o => F a = none ∧ WO.isAt X F (upd H m (.lst vs')) N a o) M (w.set k (.lst l')) := by
      intro N M w k nd hk h
      induction h generalizing k with
      | nil => cases hk
      | @cons a o M' w' h1 ht ih =>
        obtain ⟨nda, nd'⟩ := List.nodup_cons.mp nd
        cases k with
        | zero =>
          simp only [List.getElem?_cons_zero, Option.some.injEq] at hk
          subst hk
          refine .cons ⟨hF, hz, vs', upd_same, p⟩ ?_
          have rest : ∀ {M' : List Addr} {w' : World}, a ∉ M' → Paired (fun m o => F m = none ∧ WO.isAt X F H N m o) M' w' → Paired (fun b o => F b = none ∧ WO.isAt X F (upd H a (.lst vs')) N b o) M' w' := by
            intro M' w' hn h
            induction h with
            | nil => exact .nil
            | @cons b o _ _ h1 _ ih =>
              refine .cons ⟨h1.1, ?_⟩ (ih fun z => hn (List.mem_cons_of_mem _ z))
              cases o with
              | lst l => obtain ⟨_, ez, us, f1, f2⟩ := h1; exact ⟨ez, us, ne f1 (fun z => hn (by rw [← z]; exact List.mem_cons_self)), f2⟩
              | clo i caps => exact CloAt.keep h1.2 (keepE_upd e5) (Same.refl _) (fun _ _ e => e)
              | obj y gs => exact ObjAt.keep h1.2 (Same.refl _) fun _ _ _ q => ne q (fun z => hn (by rw [← z]; exact List.mem_cons_self))
              | dic kvs => exact DicAt.keep h1.2 (Same.refl _) fun _ q => ne q (fun z => hn (by rw [← z]; exact List.mem_cons_self))
          exact rest nda ht
        | succ k =>
          simp only [List.getElem?_cons_succ] at hk
          refine .cons ⟨h1.1, ?_⟩ (ih nd' hk)
          cases o with
          | lst l => obtain ⟨_, ez, us, f1, f2⟩ := h1; exact ⟨ez, us, ne f1 (fun z => nda (by rw [z]; exact List.mem_of_getElem? hk)), f2⟩
          | clo i caps => exact CloAt.keep h1.2 (keepE_upd e5) (Same.refl _) (fun _ _ e => e)
          | obj y gs => exact ObjAt.keep h1.2 (Same.refl _) fun _ _ _ q => ne q (fun z => nda (by rw [z]; exact List.mem_of_getElem? hk))
          | dic kvs => exact DicAt.keep h1.2 (Same.refl _) fun _ q => ne q (fun z => nda (by rw [z]; exact List.mem_of_getElem? hk))
    exact go s.wr.nd em s.wr.at_
  · have h := s.sl j sl e'
    cases sl with
    | un => trivial
    | dat d => exact h
    | own k =>
      obtain ⟨f1, f2, f3, f4, fz, us, f5, f6⟩ := h
      exact ⟨f1, f2, f3, f4, fz, us, ne f5 (fun z => f4 (z ▸ hmM)), f6⟩
    | wref k => exact h
    | exn x => obtain ⟨a, cls, d, e1', e2', e3'⟩ := h; exact ⟨a, cls, d, e1', e2', Exn.keep e3' (Same.refl _) (keepX_upd fun fs z => by rw [e5] at z; cases z)⟩
theorem js_setIx {i : Nat} {x : Str} {p1 p2 : Pos} {ei : Expr} {di : Ex} (h0 : PE X (.Name x p1) (tVar i)) (hi : JE X T Wi ei di) (h : JE X T Wi e d)
    (ha : ∀ v, assign (.Subscript (.Name x p1) ei p2) X.env v = (do
      let ov ← holding [v] (eval (.Name x p1) X.env)
      let iv ← holding [v, ov] (eval ei X.env)
      standAt p2
      holding [v, ov, iv] (setItem ov iv v)
      release [v, ov, iv] []) := by intro _; rfl)
    (hs : swapsWithSole [.Subscript (.Name x p1) ei p2] e pos.line X.env = pure false := by rfl) (hw : swappedStores [.Subscript (.Name x p1) ei p2] e X.env = pure none := by rfl)
    (h1 : (assignEach [.Subscript (.Name x p1) ei p2] X.env).map (·.2) = [assign (.Subscript (.Name x p1) ei p2) X.env] := by rfl) : JS X T Wi (.Assign [.Subscript (.Name x p1) ei p2] e pos) (sSetIx i di d) := by
  refine (ps_asg h (pg_sub h0 hi set_list ha) hs hw h1).impD fun D σ H q => ?_
  obtain ⟨B, env, w, F, O, M, s, q⟩ := q
  refine ⟨B, env, w, F, O, M, s, q.bind.imp fun r w1 q1 v H1 F1 M1 s1 st1 r1 => ?_⟩
  split at q1
  · rename_i l dd el er
    obtain ⟨F2, s2, st2, a2⟩ := keep_arg s s1 st1 r1 (st_arg er)
    obtain ⟨e1, e2, e3, e4, ez, vs, e5, e6⟩ := s2.sl i _ el
    refine ⟨.ref (O i), e1, B, env, w1, F2, O, M1, s2, q1.bind.imp fun k w2 q2 y H3 F3 M3 s3 st3 r3 => ?_⟩
    split at q2
    · rename_i z
      cases r3
      split at q2
      · rename_i j ej
        obtain ⟨g1, g2, g3, g4, gz, ws, g5, g6⟩ := s3.sl i _ el
        refine ⟨O i, ws, z, j, rfl, rfl, g5, by rw [g6.length]; exact ej, ?_⟩
        exact q2 σ _ F3 O M3 (s3.updOwn el (by rw [List.length_set]; exact gz) (Pr.set (Rp.mono st3.fg _ _ a2) j g6)) (st2.fg.trans st3.fg)
      · exact q2.elim
    · exact q2.elim
  · rename_i m dd em er
    obtain ⟨F2, s2, st2, a2⟩ := keep_arg s s1 st1 r1 (st_arg er)
    obtain ⟨am, e1, e2⟩ := s2.sl i _ em
    refine ⟨.ref am, e2, B, env, w1, F2, O, M1, s2, q1.bind.imp fun k w2 q2 y H3 F3 M3 s3 st3 r3 => ?_⟩
    split at q2
    · rename_i z l el
      cases r3
      split at q2
      · rename_i j ej
        obtain ⟨am3, f1, f2⟩ := s3.sl i _ em
        obtain ⟨am', f3, f4, fz, ws, f5, f6⟩ := s3.wr.get el
        rw [f1] at f3; cases f3
        obtain ⟨nw, en, _⟩ := id st3.mw
        have : am3 = am := by
          have := mem_of_pfx en e1
          rw [f1] at this
          exact Option.some.inj this
        subst this
        refine ⟨am3, ws, z, j, rfl, rfl, f5, by rw [f6.length]; exact ej, ?_⟩
        exact q2 σ _ F3 O M3 (s3.updW el f1 (by rw [List.length_set]; exact fz) (Pr.set (Rp.mono st3.fg _ _ a2) j f6)) (st2.fg.trans st3.fg)
      · exact q2.elim
    · exact q2.elim
  · exact q1.elim
def dIxW (i : Nat) (ix : Ex) : Ex := fun env w => match env[i]? with
  | some (.wref m) => (ix env w).bind fun k w1 => (match k, w1[m]? with
    | .dat (.int z), some (.lst l) => lift ((atI l z).map .dat) w1
    | _, _ => .stuck)
  | _ => .stuck
theorem je_ixW {i : Nat} {x : Str} {p1 : Pos} {ei : Expr} {di : Ex} (h0 : PE X (.Name x p1) (tVar i)) (hi : JE X T Wi ei di) (hs : PlainIx ei := by exact fun _ _ => rfl) : JE X T Wi (.Subscript (.Name x p1) ei pos) (dIxW i di) := by
  refine (pe_ix ix_list h0 hi hs).impD fun σ H Q q => ?_
  obtain ⟨B, env, w, F, O, M, s, q⟩ := q
  unfold dIxW at q
  split at q
  · rename_i m em
    obtain ⟨am, e1, e2⟩ := s.sl i _ em
    refine ⟨.ref am, e2, B, env, w, F, O, M, s, q.bind.imp fun k w1 q1 y H1 F1 M1 s1 st1 r1 => ?_⟩
    split at q1
    · rename_i z l el
      cases r1
      obtain ⟨rv, e, q3⟩ := q1.lift
      cases ea : atI l z with
      | none => rw [ea] at e; cases e
      | some dd =>
        rw [ea] at e
        cases e
        obtain ⟨am1, f1, f2⟩ := s1.sl i _ em
        obtain ⟨am', f3, f4, fz, ws, f5, f6⟩ := s1.wr.get el
        rw [f1] at f3; cases f3
        obtain ⟨nw, en, _⟩ := id st1.mw
        have : am1 = am := by
          have := mem_of_pfx en e1
          rw [f1] at this
          exact Option.some.inj this
        subst this
        obtain ⟨v, ev, rv⟩ := atI_pair f6 ea
        exact ⟨am1, ws, z, v, rfl, rfl, SqL.of f5, ev, q3 v H1 F1 M1 s1 st1 rv⟩
    · exact q1.elim
  · exact q.elim
def forGo (g : Tgt) (body : Sd) : List D → Sd
  | [], env, w => .ok (.nx env) w
  | d :: ds, env, w => match g d env with
    | some env1 => (body env1 w).bind fun f w1 => (match f with
      | .nx e => forGo g body ds e w1
      | .ct e => forGo g body ds e w1
      | .bk e => .ok (.nx e) w1
      | .rt r => .ok (.rt r) w1)
    | none => .stuck
def sFor (src : Src) (g : Tgt) (body : Sd) : Sd := fun env w => (src env w).bind fun l w1 => forGo g body l env w1
theorem js_for {tg iter : Expr} {body : List Stmt} {src : Src} {g : Tgt} {us : List Nat} (hp : PassesOwn (model X.prog X.w) X.A X.env X.xe) (hc : X.calm = true) (hi : JI X T Wi tg iter src) (hg : JG X T tg g us) (hb : JSs X T Wi body b)
    (hs : ∀ x, foldedSetIterable iter X.env x = pure x := by intro _; rfl) : JS X T Wi (.For tg iter body [] pos) (sFor src g b) := by
  refine (ps_for hp hc hi hg hb hs).impD fun D σ H q => ?_
  obtain ⟨B, env, w, F, O, M, s, q⟩ := q
  refine ⟨B, env, w, F, O, M, s, q.bind.imp fun l w1 q1 J H1 F1 M1 s1 st1 wk => ?_⟩
  refine ⟨fun i m σ H => m = l.length - i ∧ i ≤ l.length ∧ ∃ env w F O M, SR (Cx.tx X T) B env w σ H F O M ∧ Same F1 F ∧ Pst (forGo g b (l.drop i) env w) (flG (Cx.tx X T) B F D) (badX (Cx.tx X T) B Wi), ⟨l.length, by simp, Nat.zero_le _, env, w1, F1, O, M1, s1, Same.refl _, by rw [List.drop_zero]; exact q1.imp fun f w z => z.later st1.fg⟩, ?_⟩
  rintro i m σ' H' ⟨rfl, hi, env', w', F', O', M', s', sf, qq⟩
  by_cases hlt : i < l.length
  · rw [List.drop_eq_getElem_cons hlt] at qq
    refine .inr ⟨wk.go i H' F' sf s'.fh hlt, fun σ H => i + 1 ≤ l.length ∧ ∃ env w F O M, SR (Cx.tx X T) B env w σ H F O M ∧ Same F1 F ∧ Pst (forGo g b (l.drop (i + 1)) env w) (flG (Cx.tx X T) B F D) (badX (Cx.tx X T) B Wi), fun σ H ⟨z1, z2⟩ => ⟨l.length - (i + 1), by omega, rfl, z1, z2⟩, fun x H2 hy => ?_⟩
    obtain ⟨F2, xt2, rx⟩ := wk.yld i H' F' x H2 l[i] sf s'.fh s'.nt hy (List.getElem?_eq_getElem hlt)
    have s2 := s'.xt xt2
    unfold forGo at qq
    split at qq
    · rename_i env1 eg
      refine ⟨B, env', w', F2, O', M', l[i], env1, s2, rx, eg, fun σ3 s3 _ => ?_⟩
      refine ⟨B, env1, w', F2, O', M', s3, qq.bind.imp fun f w4 q4 => ?_⟩
      cases f with
      | nx e => exact fun σ5 H5 F5 O5 M5 s5 k => ⟨hlt, e, w4, F5, O5, M5, s5, (sf.trans xt2.ff).trans k, q4.imp fun f w z => z.later (xt2.ff.trans k)⟩
      | ct e => exact fun σ5 H5 F5 O5 M5 s5 k => ⟨hlt, e, w4, F5, O5, M5, s5, (sf.trans xt2.ff).trans k, q4.imp fun f w z => z.later (xt2.ff.trans k)⟩
      | bk e => exact fun σ5 H5 F5 O5 M5 s5 k => q4 σ5 H5 F5 O5 M5 s5 (xt2.ff.trans k)
      | rt r => exact q4
    · exact qq.elim
  · have hil : i = l.length := by omega
    subst hil
    rw [List.drop_length] at qq
    exact .inl ⟨wk.stop _ H' F' sf s'.fh (Nat.le_refl _), qq σ' H' F' O' M' s' (Same.refl _)⟩
end
end Dl
namespace Dl
open PySem PySem.Spec PyProof.Rows L2 NdefX
structure DefB where
  ar : Nat
  ns : Nat
  body : Cs → Sd
def toSl : RV → Sl
  | .dat d => .dat d
  | .wref k => .wref k
  | _ => .un
def initE (args : List RV) (ns : Nat) : Ev := args.map toSl ++ List.replicate (ns - args.length) .un
def endR (o : Out Fl) : Out RV := match o with
  | .ok (.rt r) w => .ok r w
  | .ok (.nx _) w => .ok (.dat .non) w
  | .ok _ _ => .stuck
  | .exc x e w => .exc x e w
  | .stuck => .stuck
@[simp] theorem endR_rt (r : RV) (w : World) : endR (.ok (.rt r) w) = .ok r w := rfl
@[simp] theorem endR_nx (e : Ev) (w : World) : endR (.ok (.nx e) w) = .ok (.dat .non) w := rfl
def runB (b : DefB) (C : Cs) (args : List RV) (w : World) : Out RV := if args.length = b.ar then endR (b.body C (initE args b.ns) w) else .stuck
def Den (tbl : Nat → Option DefB) : Nat → Cs
  | 0 => ⟨fun _ _ _ => .stuck, 200⟩
  | n + 1 => ⟨fun i args w => match tbl i with
    | some b => runB b (Den tbl n) args w
    | none => .stuck, 16 * (n + 1) + 200⟩
theorem den_room (tbl : Nat → Option DefB) (n : Nat) : (Den tbl n).room = 16 * n + 200 := by cases n <;> rfl
theorem den_succ {tbl : Nat → Option DefB} {n i : Nat} {b : DefB} {args : List RV} {w : World} (h : tbl i = some b) : (Den tbl (n + 1)).call i args w = runB b (Den tbl n) args w := by
  show (match tbl i with
    | some b => runB b (Den tbl n) args w
    | none => .stuck) = _
  rw [h]
theorem initE_len {args : List RV} {ns : Nat} (h : args.length ≤ ns) : (initE args ns).length = ns := by
  unfold initE
  rw [List.length_append, List.length_map, List.length_replicate]
  omega
theorem start_len {N : List Str} {vs : List V} (h : vs.length ≤ N.length) : (L2.start N vs).length = N.length := by
  unfold L2.start
  rw [List.length_append, List.length_map, List.length_replicate]
  omega
theorem sr_start {X : Tx} {H F : Hp} {M : List Addr} {w : World} {vs : List V} {args : List RV} {N : List Str} (fh : Same F H) (nt : NoTbl F) (wr : WRel X F H M w) (tb : TabsN X.T.tabs H) (p : Paired (argAt X F M) vs args) (hl : args.length ≤ N.length) :
    SR X ⟨H, F, M⟩ (initE args N.length) w (L2.start N vs) H F (fun _ => 0) M := by
  have hv := p.length
  refine ⟨by rw [start_len (by omega), initE_len hl], fh, nt, .refl, wr, tb, fun i sl e => ?_, fun i j li lj e1 e2 _ => ?_⟩
  · by_cases hi : i < args.length
    · unfold initE at e
      rw [List.getElem?_append_left (by simpa using hi), List.getElem?_map] at e
      cases ea : args[i]? with
      | none => rw [ea] at e; cases e
      | some a =>
        rw [ea] at e
        simp only [Option.map_some, Option.some.injEq] at e; subst e
        obtain ⟨v, ev, av⟩ := Pr.get p ea
        have es : (L2.start N vs)[i]? = some (some v) := by
          unfold L2.start
          rw [List.getElem?_append_left (by simpa [hv] using hi), List.getElem?_map, ev]
          rfl
        rw [es]
        cases a with
        | dat d => exact ⟨v, rfl, av⟩
        | wref k => obtain ⟨m, e1, e2⟩ := av; subst e2; exact ⟨m, e1, rfl⟩
        | fresh l => exact av.elim
        | bor i l => exact av.elim
    · unfold initE at e
      rw [List.getElem?_append_right (by simpa using hi)] at e
      have := List.mem_of_getElem? e
      rw [List.mem_replicate] at this
      rw [this.2]
      trivial
  · exfalso
    have noOwn : ∀ {i : Nat} {l : List D}, (initE args N.length)[i]? = some (.own l) → False := by
      intro i l e
      have m := List.mem_of_getElem? e
      unfold initE at m
      rcases List.mem_append.mp m with m | m
      · obtain ⟨a, _, ea⟩ := List.mem_map.mp m
        cases a <;> cases ea
      · rw [List.mem_replicate] at m
        cases m.2
    exact noOwn e1
theorem fn_ofG {CX : CXT} {P : Program} {w : PySem.World} {K : PySem.W.Frag} {mg : Str → Option Value} {base : Heap} {k : Nat} {f : Addr} {name qual : Str} {params : Arguments} {body : List Stmt} {scope : Scope} {dV kV doc pm cdv ct oc : Value} {an od : Option Addr}
    {osl : Array (Option Value)} {N ps : List Str} {sp : Sp} (lk : K.lookup f = some ⟨oc, od, .func (PySem.W.fnOf name qual params body scope dV kV doc pm an cdv ct), osl⟩) (hcd : PySem.W.codeIn K cdv qual = true) (S : FnScope N ps scope)
    (many : ∀ vs H Q E, sp vs H Q E → vs.length = ps.length)
    (hbody : ∀ (A : Around) (outer : List Env) (s : Shared) (H : Hp) (vs : List V) (Q : VK) (E : XK), RoomG k (A.deeper (envOfC qual scope s.heap.objs.size f cdv)) → sp vs H Q E →
      ∃ t, PSs (cxOf CX P w K mg base N qual scope f cdv A outer s H E) body t ∧ t { nx := fun _ H' => Q .non H', rt := Q } (start N vs) H) :
    FnG P w K mg base CX (k + 1) f (PySem.W.fnOf name qual params body scope dV kV doc pm an cdv ct) ps sp := by
  refine ⟨many, fun A outer s H args us vs Q E hr e0 hb rv q => ?_⟩
  have kp : ∀ b o, base.get? b = some o → s.heap.get? b = some o := fun b o e => (e0.bs b o e).1
  have kin := e0.mod.kin.keeps kp
  obtain ⟨t, ht, hq⟩ := hbody A outer s H vs Q E (hr.deep _) q
  apply codeAny_call_function hr.toRoomB.depth (kin _ _ lk) rfl S.co S.gen rfl (PySem.W.codeRec_of kin hcd) (hb _ _ _ _ ?_)
  apply wpAny_newFunctionEnv_cells S.kind
  · rintro ⟨y, v⟩ hy
    have := S.par y (List.of_mem_zip hy).1
    exact this.imp_right fun q => ⟨q, PySem.W.cellsFrom_some _ _ _ (.inl q)⟩
  · rintro _ rfl s1 x
    refine ⟨(e0.mod.nolimit.keeps kp).keeps x.toInCall.keep, codeAny_func (wpAny_mono (ht.run [] s1 (start N vs) H _ (inv_start S hr.hd e0 (many _ _ _ _ q) rv x) hq) (fun fl s2 h => ?_) fun _ _ h => h)⟩
    cases fl with
    | ret u =>
      obtain ⟨v, _, H2, J, r2, q2⟩ := h
      exact ⟨v, H2, J.os, J.bare, J.base, J.hok, r2, q2⟩
    | next =>
      obtain ⟨_, H2, J, q2⟩ := h
      exact ⟨.non, H2, J.os, J.bare, J.base, J.hok, rfl, q2⟩
    | brk => exact (h.elim fun _ h => h.elim fun _ h => h.2).elim
    | cont => exact (h.elim fun _ h => h.elim fun _ h => h.2).elim
theorem def_ok {P : Program} {w : PySem.World} {K : PySem.W.Frag} {mg : Str → Option Value} {base : Heap} {T : Tbs} {x qual : Str} {params : Arguments} {body : List Stmt} {scope : Scope} {f : Addr} {fd : FuncData} {N ps : List Str} {tbl : Nat → Option DefB} {n i : Nat} {bd : Cs → Sd}
    (F : FunD K x qual params body scope [] [] f fd) (S : FnScope N ps scope) (ht : tbl i = some ⟨ps.length, N.length, bd⟩)
    (hb : ∀ (cdv : Value) (A : Around) (outer : List Env) (s : Shared) (H : Hp) (E : XK), RoomG n (A.deeper (envOfC qual scope s.heap.objs.size f cdv)) →
      JSs (cxOf (L2N.CX P w) P w K mg base N qual scope f cdv A outer s H E) T (fun cls d _ H => E cls d H) body (bd (Den tbl n))) :
    FnG P w K mg base (L2N.CX P w) (n + 1) f fd ps (spD ⟨K, mg, T⟩ ((Den tbl (n + 1)).call i)) := by
  have hNl : ps.length ≤ N.length := by
    have := congrArg List.length S.pre
    rw [List.length_take] at this
    omega
  have hlen : ∀ vs H Q E, spD ⟨K, mg, T⟩ ((Den tbl (n + 1)).call i) vs H Q E → vs.length = ps.length := by
    intro vs H Q E h
    obtain ⟨F', M, args, w', fh, nt, wr, tb, p, q⟩ := h
    rw [den_succ ht] at q
    unfold runB at q
    split at q
    · rename_i hl; rw [p.length]; exact hl
    · exact q.elim
  obtain ⟨oc, od, dV, kV, doc, pm, an, cdv, ct, osl, rfl, lk, hcd, _, _⟩ := F.ex
  refine fn_ofG lk hcd S hlen fun A outer s H vs Q E hr h => ⟨_, hb cdv A outer s H E hr, ?_⟩
  obtain ⟨F', M, args, w', fh, nt, wr, tb, p, q⟩ := h
  rw [den_succ ht] at q
  unfold runB at q
  split at q
  · rename_i hl
    have hl : args.length = ps.length := hl
    refine ⟨⟨H, F', M⟩, _, w', F', _, M, sr_start fh nt wr tb p (by omega), ?_⟩
    have q : Pst (endR (bd (Den tbl n) (initE args N.length) w')) _ _ := q
    cases eo : bd (Den tbl n) (initE args N.length) w' with
    | stuck => rw [eo] at q; exact q.elim
    | exc x' e' w2 =>
      rw [eo] at q
      intro cls d σ' H' F2 O2 M2 s2 hx
      exact q cls d H' F2 M2 s2.fh s2.nt s2.wr s2.tb s2.st hx
    | ok fl w2 =>
      rw [eo] at q
      cases fl with
      | rt r =>
        intro v H' F2 M2 ra
        exact q v H' F2 M2 ra.fh ra.nt ra.wr ra.tb ra.st ra.at_
      | nx e =>
        intro σ' H' F2 O2 M2 s2 _
        exact q .non H' F2 M2 s2.fh s2.nt s2.wr s2.tb s2.st .non
      | bk e => exact q.elim
      | ct e => exact q.elim
  · exact q.elim
theorem def_zero {P : Program} {w : PySem.World} {K : PySem.W.Frag} {mg : Str → Option Value} {base : Heap} {T : Tbs} {f : Addr} {fd : FuncData} {ps : List Str} {tbl : Nat → Option DefB} {i : Nat} {CX : CXT} : FnG P w K mg base CX 0 f fd ps (spD ⟨K, mg, T⟩ ((Den tbl 0).call i)) := by
  have no : ∀ vs H Q E, ¬ spD ⟨K, mg, T⟩ ((Den tbl 0).call i) vs H Q E := fun vs H Q E h => by
    obtain ⟨_, _, _, _, _, _, _, _, _, q⟩ := h
    exact q
  exact ⟨fun vs H Q E h => absurd h (no vs H Q E), fun A outer s H args us vs Q E _ _ _ _ h => absurd h (no vs H Q E)⟩
structure Dfn (P : Program) (w : PySem.World) (K : PySem.W.Frag) (mg : Str → Option Value) (base : Heap) (T : Tbs) (C : Cs) (n : Nat) (x : Str) (i : Nat) : Prop where
  ex : ∃ (a : Addr) (fd : FuncData) (ps : List Str), mg x = some (.ref a) ∧ PySem.W.keepIn K (.ref a) = true ∧ Binds K fd ps [] ∧ FnG P w K mg base (L2N.CX P w) n a fd ps (spD ⟨K, mg, T⟩ (C.call i))
theorem Dfn.cal {X : Cx} {T : Tbs} {C : Cs} {n : Nat} {x : Str} {i : Nat} (d : Dfn X.prog X.w X.K X.mg X.base T C n x i) : Cal X T n C x i := ⟨d.ex⟩
theorem ints_rp {K : PySem.W.Frag} {F : Hp} : ∀ ns : List Int, Paired (Rp K F) (ns.map V.int) (ns.map D.int)
  | [] => .nil
  | n :: ns => .cons (.int n) (ints_rp ns)
def offTbl (H : Hp) : Hp := fun b => match H b with
  | some (.tbl _) => none
  | o => o
theorem offTbl_same (H : Hp) : Same (offTbl H) H := fun b o e => by
  unfold offTbl at e
  split at e
  · cases e
  · exact e
theorem offTbl_no (H : Hp) : NoTbl (offTbl H) := fun b ps e => by
  unfold offTbl at e
  split at e
  · cases e
  · rename_i h; exact h _ e
theorem offTbl_at {H : Hp} {b : Addr} {o : HO} (e : H b = some o) (h : ∀ ps, o ≠ .tbl ps) : offTbl H b = some o := by
  unfold offTbl
  rw [e]
  split
  · rename_i q; exact absurd (Option.some.inj q) (h _)
  · rfl
theorem law_spT {K : PySem.W.Frag} {mg : Str → Option Value} {T : Tbs} {m : List RV → World → Out RV} {H : Hp} {a : Addr} {ns : List Int} (hT : TabsN T.tabs H) (hS : SqL K H a (ns.map V.int)) (hl : ns.length ≤ sizeLine) {w' : World} (h : m [.dat (.lst (ns.map D.int))] [] = .ok (.dat (.bl true)) w') :
    spD ⟨K, mg, T⟩ m [.ref a] H (fun v _ => v = .bl true) (fun _ _ _ => False) := by
  have hS' : SqL K (offTbl H) a (ns.map V.int) := by
    rcases hS with (e | ⟨o, e⟩) | q
    · exact .inl (.inl (offTbl_at e fun ps z => by cases z))
    · exact .inl (.inr ⟨o, offTbl_at e fun ps z => by cases z⟩)
    · exact .inr q
  refine ⟨offTbl H, [], [.dat (.lst (ns.map D.int))], [], offTbl_same H, offTbl_no H, ⟨List.nodup_nil, .nil⟩, hT, .cons (.lst (by rw [List.length_map]; exact hl) hS' (ints_rp ns)) .nil, ?_⟩
  rw [h]
  intro v H' F' M' _ _ _ _ _ r
  cases r
  rfl
theorem law_sp {K : PySem.W.Frag} {mg : Str → Option Value} {nd : Nat → Option ND} {m : List RV → World → Out RV} {H : Hp} {a : Addr} {ns : List Int} (hO : Only H) (hS : SqL K H a (ns.map V.int)) (hl : ns.length ≤ sizeLine) {w' : World} (h : m [.dat (.lst (ns.map D.int))] [] = .ok (.dat (.bl true)) w') :
    spD ⟨K, mg, { tabs := [], nd := nd }⟩ m [.ref a] H (fun v _ => v = .bl true) (fun _ _ _ => False) :=
  law_spT (show TabsN [] H from fun p hp => absurd hp List.not_mem_nil) hS hl h
end Dl
namespace Dl
open PySem PySem.Spec PyProof.Rows L2 NdefX
section
variable {X : Cx} {T : Tbs} {Wi : WX} {a : Expr} {da : Ex} {pos : Pos}
theorem pe_globI {x : Str} {i : Int} (hg : Gl X x) (hm : ∃ t, X.mg x = some (.int i t)) (hd : (x == ("__debug__" : Str)) = false := by decide) : PE X (.Name x pos) (tC (.int i)) := by
  obtain ⟨t, e⟩ := hm
  exact pe_glob hg e ⟨t, rfl⟩ hd
def gGetK (t : List (Str × D)) : D → Option RV
  | .str z => (match t.lookup z with
    | some (.int i) => some (.dat (.int i))
    | some (.bl i) => some (.dat (.bl i))
    | _ => none)
  | _ => none
end
end Dl
namespace Dl
open PySem PySem.Spec PyProof.Rows L2 NdefX
open LamX (CodeO)
section
variable {cs : List Addr} {h : Heap} {H H' : Hp} {b : Addr} {o : HO}
end
section
variable {P : Program} {w : PySem.World} {K : PySem.W.Frag} {mg : Str → Option Value} {base : Heap} {A : Around} {outer : List Env} {s s' : Shared} {H : Hp} {cs : List Addr} {Q Q' : VK} {u : Value}
end
section
variable {P : Program} {w : PySem.World} {K : PySem.W.Frag} {mg : Str → Option Value} {base : Heap} {k : Nat} {nd : ND} {sp : List (Option V) → Sp} {N : List Str}
end
section
variable {P : Program} {w : PySem.World} {K : PySem.W.Frag} {mg : Str → Option Value} {base : Heap} {T : Tbs} {n i : Nat} {nd : ND} {N : List Str} {tbl : Nat → Option DefB} {caps : List D}
end
end Dl
namespace Dl
open PySem PySem.Spec PyProof.Rows L2 NdefX
open LamX (CodeO)
def WO.okN (n : Nat) : WO → Bool
  | .lst _ => true
  | .clo _ _ => false
  | .obj _ fs => fs.all fun f => f.2.low n
  | .dic kvs => kvs.all fun f => f.2.low n
def allN (n : Nat) (w : World) : Bool := w.all (WO.okN n)
def allL (w : World) : Bool := allN w.length w
def cellsOf (cl : List (Str × Addr)) (fr : List Str) : List Addr := fr.filterMap fun y => cl.lookup y
def actK (C : Cs) (j : Nat) (rs : List RV) (w1 : World) : Out RV := match w1[j]?, dats rs with
  | some (.clo i caps), some ds => if w1.length = j + 1 ∧ allL (w1.take j) = true then
      (match C.call i ((ds ++ caps).map .dat) (w1.take j) with
        | .ok (.dat d) w2 => if w2.length = j ∧ allL w2 = true then .ok (.dat d) (w2 ++ [.clo i caps]) else .stuck
        | _ => .stuck)
    else .stuck
  | _, _ => .stuck
def dAct (C : Cs) (k : Nat) (es : Exs) : Ex := fun env w => match env[k]? with
  | some (.wref j) => (match w[j]? with
    | some (.clo _ _) => (es env w).bind fun rs w1 => actK C j rs w1
    | _ => .stuck)
  | _ => .stuck
section
variable {X : Tx} {F H : Hp} {M : List Addr} {w : World}
theorem CapA.cell {K : PySem.W.Frag} {cl : List (Str × Addr)} {fr : List Str} {caps : List D} (h : CapA K F H cl fr caps) {b : Addr} (hb : b ∈ cellsOf cl fr) : ∃ o, H b = some (CellO b o) ∧ (∃ u, o.data = .cell (some u)) ∧ F b = none := by
  obtain ⟨y, hy, e⟩ := List.mem_filterMap.mp hb
  obtain ⟨j, hj, ej⟩ := List.mem_iff_getElem.mp hy
  have hjc : j < caps.length := by rw [h.len]; exact hj
  obtain ⟨c, o, u, v, q1, q0, q2, q3, q4, q5⟩ := h.at_ j y caps[j] (by rw [← ej]; simp [hj]) (by simp [hjc])
  rw [e] at q1
  cases q1
  exact ⟨o, q2, ⟨u, q3⟩, q0⟩
end
section
variable {X : Cx} {T : Tbs} {Wi : WX} {pins : List (Addr × Obj)} {σ : St} {H : Hp} {s : Shared}
end
end Dl
namespace Dl
open PySem PySem.Spec PyProof.Rows L2 NdefX
open LamX (CodeO Tabs TabS TabB ExtN inv_table among_app codeO_ne)
section
variable {X : Cx} {pins : List (Addr × Obj)} {σ : St} {H : Hp} {s : Shared}
def cloK (C : Cs) (g i : Nat) (caps : List D) (ds : List D) (w1 : World) : Out RV := if allL w1 = true then (match C.call g (ds.map .dat ++ [.wref w1.length]) (w1 ++ [.clo i caps]) with
    | .ok (.dat d) w2 => if w2.length = w1.length + 1 ∧ allL (w2.take w1.length) = true then .ok (.dat d) (w2.take w1.length) else .stuck
    | _ => .stuck)
  else .stuck
end
def capsOf (env : Ev) : List Nat → Option (List D)
  | [] => some []
  | j :: js => match env[j]?, capsOf env js with
    | some (.dat d), some ds => some (d :: ds)
    | _, _ => none
def dClo (C : Cs) (g i : Nat) (js : List Nat) (es : Exs) : Ex := fun env w => (es env w).bind fun rs w1 => match dats rs, capsOf env js with
  | some ds, some caps => cloK C g i caps ds w1
  | _, _ => .stuck
section
variable {X : Cx} {T : Tbs} {Wi : WX} {nd : ND} {cl : List (Str × Addr)} {Z : St → Hp → Hp → List Addr → Prop} {e : Expr} {es : List Expr} {d : Ex} {ds : Exs}
def sDefRet (i : Nat) (e : Ex) : Sd := fun env w => if i < env.length then (e (env.set i .un) w).bind fun r w1 => .ok (.rt r.ret) w1 else .stuck
end
end Dl
namespace Dl
open PySem PySem.Spec PyProof.Rows L2 NdefX
section
variable {X : Cx} {T : Tbs} {Wi : WX} {pos : Pos} {e : Expr} {d : Ex}
def sExtend (i : Nat) (e : Ex) : Sd := fun env w => match env[i]? with
  | some (.own l) => (e env w).bind fun r w1 => (match r with
    | .fresh zs => if l.length + zs.length ≤ 16777216 then .ok (.nx (env.set i (.own (l ++ zs)))) w1 else .stuck
    | _ => .stuck)
  | _ => .stuck
def chs (z : Str) : List D := z.cps.toList.map fun c => .str ⟨#[c]⟩
def iTxt (e : Ex) : Src := fun env w => (e env w).bind fun r w1 => match r with
  | .dat (.str z) => .ok (chs z) w1
  | _ => .stuck
theorem walk_txt {K : PySem.W.Frag} {F : Hp} {z : Str} (h : SOk z) : Walk K (chs z) F (Its z) := by
  have hl : (chs z).length = z.cps.size := by simp [chs]
  refine ⟨by rw [hl]; exact h.2, fun i H F1 e1 e2 hi => by show i < z.cps.size; rw [← hl]; exact hi, fun i H F1 e1 e2 hi => by show z.cps.size ≤ i; rw [← hl]; exact hi, fun i H F1 x H' d e1 e2 nt y hd => ?_⟩
  obtain ⟨rfl, c, ec, rfl⟩ := y
  have hd : ((z.cps.toList.map fun c => D.str ⟨#[c]⟩) : List D)[i]? = some d := hd
  rw [List.getElem?_map, Array.getElem?_toList, ec] at hd
  simp only [Option.map_some, Option.some.injEq] at hd
  subst hd
  have hm : c ∈ z.cps.toList := List.mem_of_getElem? (by rw [Array.getElem?_toList]; exact ec)
  exact ⟨F1, Xt.refl e2 nt, .str _ (sOk_mem h hm)⟩
theorem ji_txt {tg : Expr} (h : JE X T Wi e d) : JI X T Wi tg e (iTxt d) := by
  refine (pi_str h).impD fun σ H Q q => ?_
  obtain ⟨B, env, w, F, O, M, s, q⟩ := q
  refine ⟨B, env, w, F, O, M, s, q.bind.imp fun r w1 q1 v H1 F1 M1 s1 st1 r1 => ?_⟩
  split at q1
  · rename_i z
    cases r1 with
    | str _ ok => exact ⟨z, rfl, q1 _ H1 F1 M1 s1 st1 (walk_txt ok)⟩
  · exact q1.elim
end
end Dl
namespace Dl
open PySem PySem.Spec PyProof.Rows L2 NdefX
def leS (a b : Str) : Bool := !ltCps b.cps.toList a.cps.toList
def sortS (l : List Str) : List Str := l.mergeSort leS
def strsOf : List D → Option (List Str)
  | [] => some []
  | .str s :: l => (strsOf l).map (s :: ·)
  | _ :: _ => none
theorem strs_at {K : PySem.W.Frag} {F : Hp} : ∀ {vs : List V} {l : List D} {ss : List Str}, Paired (Rp K F) vs l → strsOf l = some ss → vs = ss.map V.str ∧ (∀ s ∈ ss, SOk s) ∧ l = ss.map D.str
  | _, _, _, .nil, e => by cases e; exact ⟨rfl, by simp, rfl⟩
  | v :: vs, d :: l, ss, .cons h t, e => by
    cases d <;> first | (simp only [strsOf] at e; cases e; done) | skip
    rename_i z
    simp only [strsOf] at e
    cases q : strsOf l with
    | none => rw [q] at e; cases e
    | some zs =>
      rw [q] at e
      simp only [Option.map_some, Option.some.injEq] at e; subst e
      obtain ⟨h1, h2, h3⟩ := strs_at t q
      cases h with
      | str _ ok =>
        rw [h1, h3]
        refine ⟨rfl, fun s hs => ?_, rfl⟩
        rcases List.mem_cons.mp hs with rfl | hs
        · exact ok
        · exact h2 s hs
def cSortS : List D → Option RV
  | [.lst l] => (match strsOf l with
    | some ss => if ss.length < 64 then some (.fresh ((sortS ss).map .str)) else none
    | none => none)
  | _ => none
section
variable {X : Cx}
end
end Dl
namespace Dl
open PySem PySem.Spec PyProof.Rows L2 NdefX
def keysAdd (es : List Str) (k : Str) : List Str := if k ∈ es then es else es ++ [k]
theorem keysAdd_len {ks : List Str} {k : Str} : (keysAdd ks k).length ≤ ks.length + 1 := by
  unfold keysAdd
  split
  · omega
  · simp
section
variable {X : Cx} {T : Tbs} {Wi : WX} {pos : Pos}
def dKeys (src : Src) (vs : List Nat) (g : Tgt) (tt : Tst) (kx : Ex) : Ex := fun env w => (src env w).bind fun l w1 => (compGo g tt kx (wipeE env vs) l w1).bind fun xs w2 => match strsOf xs with
  | some ks => .ok (.fresh ((ks.foldl keysAdd []).map .str)) w2
  | none => .stuck
end
end Dl
namespace Dl
open PySem PySem.Spec PyProof.Rows L2 NdefX
def b__law_tape (C : Cs) : Sd := (sRet (dLst (aCons (dBlt cList (rCons (dName 0) rNil)) (aCons (dC (.int 0)) (aCons (dC (.int 0)) (aCons (dC (.int 1)) (aCons (dC (.int 0)) aNil)))))))
def b__law_pick (C : Cs) : Sd := (sSeq (sIf (dTst (dBin (gGt C.room) (dIxW 0 (dC (.int 2))) (dC (.int 1)))) (sSeq (sSet 2 (dBin gMod (dBlt cInt (rCons (dIxW 0 (dC (.int 2))) rNil)) (dName 1)))
  (sSeq (sSetIx 0 (dC (.int 2)) (dBin gFdiv (dIxW 0 (dC (.int 2))) (dName 1)))
  (sRet (dName 2)))) sNil)
  (sSeq (sSetIx 0 (dC (.int 4)) (dBin gAdd (dIxW 0 (dC (.int 4))) (dC (.int 1))))
  (sSeq (sSet 3 (dC (.int 0)))
  (sSeq (sIf (dTst (dBin (gLt C.room) (dIxW 0 (dC (.int 1))) (dBlt cLen (rCons (dIxW 0 (dC (.int 0))) rNil)))) (sSeq (sSet 3 (dBin gIx (dIxW 0 (dC (.int 0))) (dIxW 0 (dC (.int 1)))))
  (sSetIx 0 (dC (.int 1)) (dBin gAdd (dIxW 0 (dC (.int 1))) (dC (.int 1))))) sNil)
  (sSeq (sIf (dTst (dBin (gGe C.room) (dName 3) (dBin gPow (dC (.int 10)) (dC (.int 18))))) (sSeq (sSetIx 0 (dC (.int 2)) (dBin gFdiv (dName 3) (dName 1)))
  (sRet (dBin gMod (dBlt cInt (rCons (dName 3) rNil)) (dName 1)))) sNil)
  (sSeq (sSet 4 (dBin gMod (dBlt cInt (rCons (dBin gAdd (dBin gAdd (dBin gMul (dIxW 0 (dC (.int 3))) (dC (.int 48271))) (dBin gMod (dBlt cInt (rCons (dName 3) rNil)) (dC (.int 2147483629)))) (dBin gMul (dIxW 0 (dC (.int 4))) (dC (.int 69621)))) rNil)) (dC (.int 2147483647))))
  (sSeq (sSet 4 (dBin gMod (dBlt cInt (rCons (dBin gMul (dName 4) (dBin gAdd (dBin gFdiv (dName 4) (dC (.int 1009))) (dC (.int 40692)))) rNil)) (dC (.int 2147483399))))
  (sSeq (sSetIx 0 (dC (.int 3)) (dName 4))
  (sRet (dBin gMod (dBlt cInt (rCons (dBin gFdiv (dName 4) (dC (.int 16))) rNil)) (dName 1)))))))))))
end Dl
namespace Dl
open PySem PySem.Spec PyProof.Rows L2 NdefX
section
variable {α β : Type} {env : Ev} {w : World} {i : Nat} {e : Ex} {a b : Sd}
@[simp] theorem bind_ite {c : Prop} [Decidable c] {x y : Out α} {f : α → World → Out β} : (if c then x else y).bind f = if c then x.bind f else y.bind f := by split <;> rfl
@[simp] theorem sNil_ap : sNil env w = .ok (.nx env) w := rfl
@[simp] theorem sPass_ap : sPass env w = .ok (.nx env) w := rfl
@[simp] theorem sBreak_ap : sBreak env w = .ok (.bk env) w := rfl
@[simp] theorem sCont_ap : sCont env w = .ok (.ct env) w := rfl
@[simp] theorem sRetN_ap : sRetN env w = .ok (.rt (.dat .non)) w := rfl
def seqK (b : Sd) : Fl → World → Out Fl := fun f w1 => match f with
  | .nx env1 => b env1 w1
  | f => .ok f w1
@[simp] theorem seqK_nx : seqK b (.nx env) w = b env w := rfl
@[simp] theorem seqK_rt {r : RV} : seqK b (.rt r) w = .ok (.rt r) w := rfl
@[simp] theorem seqK_bk : seqK b (.bk env) w = .ok (.bk env) w := rfl
@[simp] theorem seqK_ct : seqK b (.ct env) w = .ok (.ct env) w := rfl
@[simp] theorem sSeq_ap : sSeq a b env w = (a env w).bind (seqK b) := rfl
@[simp] theorem sIf_ap {c : Tst} : sIf c a b env w = (c env w).bind fun k w1 => if k = true then a env w1 else b env w1 := rfl
@[simp] theorem sExpr_ap : sExpr e env w = (e env w).bind fun _ w1 => .ok (.nx env) w1 := rfl
@[simp] theorem sRet_ap : sRet e env w = (e env w).bind fun r w1 => .ok (.rt r.ret) w1 := rfl
@[simp] theorem ret_dat {d : D} : (RV.dat d).ret = .dat d := rfl
@[simp] theorem ret_fresh {l : List D} : (RV.fresh l).ret = .fresh l := rfl
@[simp] theorem ret_bor {l : List D} : (RV.bor i l).ret = .fresh l := rfl
@[simp] theorem ret_wref {k : Nat} : (RV.wref k).ret = .wref k := rfl
def setK (i : Nat) (env : Ev) : RV → World → Out Fl := fun r w1 => match r with
  | .dat d => .ok (.nx (env.set i (.dat d))) w1
  | .fresh l => .ok (.nx (env.set i (.own l))) w1
  | .wref k => .ok (.nx (env.set i (.wref k))) w1
  | .bor _ _ => .stuck
@[simp] theorem setK_dat {d : D} : setK i env (.dat d) w = .ok (.nx (env.set i (.dat d))) w := rfl
@[simp] theorem setK_fresh {l : List D} : setK i env (.fresh l) w = .ok (.nx (env.set i (.own l))) w := rfl
@[simp] theorem setK_wref {k : Nat} : setK i env (.wref k) w = .ok (.nx (env.set i (.wref k))) w := rfl
@[simp] theorem sSet_ap : sSet i e env w = (e env w).bind (setK i env) := rfl
@[simp] theorem sSetW_ap : sSetW i e env w = (e env w).bind fun r w1 => match r with
  | .fresh l => .ok (.nx (env.set i (.wref w1.length))) (w1 ++ [.lst l])
  | _ => .stuck := rfl
@[simp] theorem sAsg_ap {g : Tgt} : sAsg g e env w = (e env w).bind fun r w1 => match r.arg with
  | some (.dat d) => (match g d env with
    | some env' => .ok (.nx env') w1
    | none => .stuck)
  | _ => .stuck := rfl
@[simp] theorem sAppend_ap : sAppend i e env w = (match env[i]? with
  | some (.own l) => (e env w).bind fun r w1 => (match r.st with
    | some d => if l.length < 16777216 then .ok (.nx (env.set i (.own (l ++ [d])))) w1 else .stuck
    | none => .stuck)
  | _ => .stuck) := rfl
@[simp] theorem sSetIx_ap {ix : Ex} : sSetIx i ix e env w = (e env w).bind fun r w1 => match env[i]?, r.st with
  | some (.own l), some d => (ix env w1).bind fun k w2 => (match k with
    | .dat (.int z) => (match ixN l.length z with
      | some j => .ok (.nx (env.set i (.own (l.set j d)))) w2
      | none => .stuck)
    | _ => .stuck)
  | some (.wref m), some d => (ix env w1).bind fun k w2 => (match k, w2[m]? with
    | .dat (.int z), some (.lst l) => (match ixN l.length z with
      | some j => .ok (.nx env) (w2.set m (.lst (l.set j d)))
      | none => .stuck)
    | _, _ => .stuck)
  | _, _ => .stuck := rfl
@[simp] theorem sFor_ap {src : Src} {g : Tgt} {body : Sd} : sFor src g body env w = (src env w).bind fun l w1 => forGo g body l env w1 := rfl
@[simp] theorem sAug_ap {g : D → D → Option RV} : sAug i g e env w = (match env[i]? with
  | some (.dat x) => (e env w).bind fun r w1 => (match r.val with
    | some y => (match g x y with
      | some (.dat z) => .ok (.nx (env.set i (.dat z))) w1
      | _ => .stuck)
    | none => .stuck)
  | _ => .stuck) := rfl
end
section
variable {env : Ev} {w : World} {i : Nat} {e a b c : Ex} {d : D} {l : List D}
@[simp] theorem dName_ap : dName i env w = (match env[i]? with
  | some (.dat d) => .ok (.dat d) w
  | some (.own l) => .ok (.bor i l) w
  | some (.wref k) => .ok (.wref k) w
  | _ => .stuck) := rfl
@[simp] theorem dC_ap : dC d env w = .ok (.dat d) w := rfl
@[simp] theorem arg_dat : (RV.dat d).arg = some (.dat d) := rfl
@[simp] theorem arg_fresh : (RV.fresh l).arg = some (.dat (.lst l)) := rfl
@[simp] theorem arg_wref {k : Nat} : (RV.wref k).arg = some (.wref k) := rfl
@[simp] theorem arg_bor : (RV.bor i l).arg = none := rfl
@[simp] theorem val_dat : (RV.dat d).val = some d := rfl
@[simp] theorem val_fresh : (RV.fresh l).val = some (.lst l) := rfl
@[simp] theorem val_bor : (RV.bor i l).val = some (.lst l) := rfl
@[simp] theorem st_dat : (RV.dat d).st = some d := rfl
@[simp] theorem st_fresh : (RV.fresh l).st = some (.lst l) := rfl
@[simp] theorem aNil_ap : aNil env w = .ok [] w := rfl
@[simp] theorem rNil_ap : rNil env w = .ok [] w := rfl
@[simp] theorem aCons_ap {r : Exs} : aCons e r env w = (e env w).bind fun x w1 => match x.arg with
  | some a => (r env w1).bind fun as w2 => .ok (a :: as) w2
  | none => .stuck := rfl
@[simp] theorem rCons_ap {r : Exs} : rCons e r env w = (e env w).bind fun x w1 => (r env w1).bind fun xs w2 => .ok (x :: xs) w2 := rfl
@[simp] theorem dats_nil : dats [] = some [] := rfl
@[simp] theorem dats_cons {rs : List RV} : dats (.dat d :: rs) = (dats rs).map (d :: ·) := by
  show (match some d, dats rs with
    | some d, some ds => some (d :: ds)
    | _, _ => none) = _
  cases dats rs <;> rfl
@[simp] theorem vals_nil : vals [] = some [] := rfl
@[simp] theorem vals_cons {r : RV} {rs : List RV} : vals (r :: rs) = (match r.val, vals rs with
    | some d, some ds => some (d :: ds)
    | _, _ => none) := rfl
@[simp] theorem dTup_ap {es : Exs} : dTup es env w = (es env w).bind fun rs w1 => match dats rs with
  | some ds => if ds.length ≤ 1000 then .ok (.dat (.tup ds)) w1 else .stuck
  | none => .stuck := rfl
@[simp] theorem dLst_ap {es : Exs} : dLst es env w = (es env w).bind fun rs w1 => match dats rs with
  | some ds => if ds.length ≤ 1000 then .ok (.fresh ds) w1 else .stuck
  | none => .stuck := rfl
@[simp] theorem dCall_ap {C : Cs} {es : Exs} : dCall C i es env w = (es env w).bind fun rs w1 => withEnv env (C.call i rs w1) := rfl
@[simp] theorem dBlt_ap {g : List D → Option RV} {es : Exs} : dBlt g es env w = (es env w).bind fun rs w1 => match vals rs with
  | some ds => lift (g ds) w1
  | none => .stuck := rfl
@[simp] theorem vals2_ap {g : D → D → Option RV} {x y : RV} : vals2 g x y = (match x.val, y.val with
  | some x, some y => g x y
  | _, _ => none) := rfl
@[simp] theorem vals1_ap {g : D → Option RV} {x : RV} : vals1 g x = (match x.val with
  | some x => g x
  | none => none) := rfl
@[simp] theorem dBin_ap {g : D → D → Option RV} : dBin g a b env w = (a env w).bind fun ra w1 => (b env w1).bind fun rb w2 => lift (vals2 g ra rb) w2 := rfl
@[simp] theorem dIsi_ap {t : Ty} : dIsi t a env w = (a env w).bind (isiK [t]) := rfl
@[simp] theorem isiK_dat {ts : List Ty} {d : D} : isiK ts (.dat d) w = .ok (.dat (.bl (ts.any d.isTy))) w := rfl
@[simp] theorem isiK_fresh {ts : List Ty} {l : List D} : isiK ts (.fresh l) w = .ok (.dat (.bl (ts.any (D.lst l).isTy))) w := rfl
@[simp] theorem isiK_bor {ts : List Ty} {i : Nat} {l : List D} : isiK ts (.bor i l) w = .ok (.dat (.bl (ts.any (D.lst l).isTy))) w := rfl
@[simp] theorem dUn_ap {g : D → Option RV} : dUn g a env w = (a env w).bind fun ra w1 => lift (vals1 g ra) w1 := rfl
def andK (b : Ex) (env : Ev) : RV → World → Out RV := fun ra w1 => match ra with
  | .dat (.bl true) => b env w1
  | .dat (.bl false) => .ok (.dat (.bl false)) w1
  | _ => .stuck
@[simp] theorem andK_bl {k : Bool} : andK b env (.dat (.bl k)) w = if k = true then b env w else .ok (.dat (.bl false)) w := by cases k <;> rfl
@[simp] theorem dAnd_ap : dAnd a b env w = (a env w).bind (andK b env) := rfl
def orK (b : Ex) (env : Ev) : RV → World → Out RV := fun ra w1 => match ra with
  | .dat (.bl false) => b env w1
  | .dat (.bl true) => .ok (.dat (.bl true)) w1
  | _ => .stuck
@[simp] theorem orK_bl {k : Bool} : orK b env (.dat (.bl k)) w = if k = true then .ok (.dat (.bl true)) w else b env w := by cases k <;> rfl
@[simp] theorem dOr_ap : dOr a b env w = (a env w).bind (orK b env) := rfl
@[simp] theorem dIf_ap {t : Tst} : dIf t a b env w = (t env w).bind fun c w1 => if c = true then a env w1 else b env w1 := rfl
def chK (g' : D → D → Option RV) (c : Ex) (env : Ev) (rb : RV) (w2 : World) : Option RV → Out RV
  | some (.dat (.bl true)) => (c env w2).bind fun rc w3 => lift (vals2 g' rb rc) w3
  | some (.dat (.bl false)) => .ok (.dat (.bl false)) w2
  | _ => .stuck
@[simp] theorem chK_bl {g' : D → D → Option RV} {rb : RV} {k : Bool} : chK g' c env rb w (some (.dat (.bl k))) = if k = true then (c env w).bind fun rc w3 => lift (vals2 g' rb rc) w3 else .ok (.dat (.bl false)) w := by cases k <;> rfl
@[simp] theorem dChain_ap {g g' : D → D → Option RV} : dChain g g' a b c env w = (a env w).bind fun ra w1 => (b env w1).bind fun rb w2 => chK g' c env rb w2 (vals2 g ra rb) := by
  unfold dChain chK
  rfl
@[simp] theorem dTst_ap : dTst a env w = (a env w).bind fun ra w1 => match ra with
  | .dat (.bl b) => .ok b w1
  | _ => .stuck := rfl
@[simp] theorem dTru_ap : dTru a env w = (a env w).bind fun ra w1 => match ra.val with
  | some d => (match d.truth with
    | some b => .ok b w1
    | none => .stuck)
  | none => .stuck := rfl
@[simp] theorem truth_bl {k : Bool} : (D.bl k).truth = some k := rfl
@[simp] theorem truth_int {k : Int} : (D.int k).truth = some (k != 0) := rfl
@[simp] theorem truth_lst : (D.lst l).truth = some (!l.isEmpty) := rfl
@[simp] theorem truth_tup : (D.tup l).truth = some (!l.isEmpty) := rfl
@[simp] theorem truth_non : D.non.truth = some false := rfl
@[simp] theorem tNot_ap {t : Tst} : tNot' t env w = (t env w).bind fun b w1 => .ok (!b) w1 := rfl
@[simp] theorem tAnd_ap {t u : Tst} : tAnd' t u env w = (t env w).bind fun c w1 => if c = true then u env w1 else .ok false w1 := rfl
@[simp] theorem tOr_ap {t u : Tst} : tOr' t u env w = (t env w).bind fun c w1 => if c = true then .ok true w1 else u env w1 := rfl
@[simp] theorem tYes_ap : tYes' env w = .ok true w := rfl
@[simp] theorem optI_none : optI none env w = .ok none w := rfl
@[simp] theorem optI_some : optI (some a) env w = (a env w).bind fun r w1 => match r with
    | .dat (.int i) => .ok (some i) w1
    | _ => .stuck := rfl
@[simp] theorem dSl_ap {lo hi : Option Ex} : dSl a lo hi env w = (a env w).bind fun ra w1 => (optI lo env w1).bind fun l w2 => (optI hi env w2).bind fun u w3 => lift (vals1 (gSl l u) ra) w3 := rfl
@[simp] theorem dIxW_ap : dIxW i a env w = (match env[i]? with
  | some (.wref m) => (a env w).bind fun k w1 => (match k, w1[m]? with
    | .dat (.int z), some (.lst l) => lift ((atI l z).map .dat) w1
    | _, _ => .stuck)
  | _ => .stuck) := rfl
@[simp] theorem iSeq_ap : iSeq a env w = (a env w).bind fun r w1 => match r.its with
  | some l => .ok l w1
  | none => .stuck := rfl
@[simp] theorem its_lst : (RV.dat (.lst l)).its = some l := rfl
@[simp] theorem its_tup : (RV.dat (.tup l)).its = some l := rfl
@[simp] theorem its_fresh : (RV.fresh l).its = some l := rfl
@[simp] theorem iRange_ap {g : List D → Option (Int × Int)} {es : Exs} : iRange g es env w = (es env w).bind fun rs w1 => match vals rs with
  | some ds => (match g ds with
    | some (lo, hi) => if (hi - lo).toNat ≤ 16777216 ∧ -(2 ^ 62) ≤ lo ∧ lo < 2 ^ 62 ∧ -(2 ^ 62) ≤ hi ∧ hi < 2 ^ 62 then .ok (rngD lo hi) w1 else .stuck
    | none => .stuck)
  | none => .stuck := rfl
@[simp] theorem rg1_i {j : Int} : rg1 [.int j] = some (0, j) := rfl
@[simp] theorem rg2_i {j k : Int} : rg2 [.int j, .int k] = some (j, k) := rfl
@[simp] theorem dComp_ap {src : Src} {vs : List Nat} {g : Tgt} {tt : Tst} : dComp src vs g tt e env w = (src env w).bind fun l w1 => (compGo g tt e (wipeE env vs) l w1).bind fun xs w2 => .ok (.fresh xs) w2 := rfl
@[simp] theorem wipe_nil : wipeE env [] = env := rfl
@[simp] theorem wipe_cons {v : Nat} {vs : List Nat} : wipeE env (v :: vs) = (wipeE env vs).set v .un := rfl
@[simp] theorem gN_ap : gN i d env = some (env.set i (.dat d)) := rfl
@[simp] theorem gT_ap {n : Nat} {ts : Tgts} : gT n ts (.tup l) env = if l.length = n then ts l env else none := rfl
@[simp] theorem gTl_ap {n : Nat} {ts : Tgts} : gT n ts (.lst l) env = if l.length = n then ts l env else none := rfl
@[simp] theorem gsNil_ap : gsNil [] env = some env := rfl
@[simp] theorem gsCons_ap {t : Tgt} {ts : Tgts} : gsCons t ts (d :: l) env = (t d env).bind fun env' => ts l env' := rfl
@[simp] theorem go_nil {g : Tgt} {tt : Tst} : compGo g tt e env [] w = .ok [] w := rfl
@[simp] theorem for_nil {g : Tgt} {s : Sd} : forGo g s [] env w = .ok (.nx env) w := rfl
end
section
variable {i j : Int} {s t : Str} {rm : Nat} {k l : List D} {b c : Bool} {d : D}
@[simp] theorem gAdd_i : gAdd (.int i) (.int j) = some (.dat (.int (i + j))) := rfl
@[simp] theorem gSub_i : gSub (.int i) (.int j) = some (.dat (.int (i - j))) := rfl
@[simp] theorem gMul_i : gMul (.int i) (.int j) = if mulOk i j then some (.dat (.int (i * j))) else none := rfl
@[simp] theorem gFdiv_i : gFdiv (.int i) (.int j) = if 0 < j ∧ (j < 1073741824 ∨ j.natAbs.log2 < 8990) then some (.dat (.int (i / j))) else none := rfl
@[simp] theorem gMod_i : gMod (.int i) (.int j) = if 0 < j then some (.dat (.int (i % j))) else none := rfl
@[simp] theorem gPow_i : gPow (.int i) (.int j) = if 0 ≤ j ∧ j ≤ 1000000 ∧ i.natAbs < 2 ^ 64 then some (.dat (.int (i ^ j.toNat))) else none := rfl
@[simp] theorem gAdd_t : gAdd (.tup k) (.tup l) = if k.length + l.length ≤ sizeLine then some (.dat (.tup (k ++ l))) else none := rfl
@[simp] theorem gAdd_l : gAdd (.lst k) (.lst l) = if k.length + l.length ≤ sizeLine then some (.fresh (k ++ l)) else none := rfl
@[simp] theorem gNeg_i : gNeg (.int i) = some (.dat (.int (-i))) := rfl
@[simp] theorem gNot_b : gNot (.bl b) = some (.dat (.bl (!b))) := rfl
@[simp] theorem dep_i : (D.int i).dep = 0 := rfl
@[simp] theorem dep_b : (D.bl b).dep = 0 := rfl
@[simp] theorem dep_s : (D.str s).dep = 0 := rfl
@[simp] theorem dep_n : D.non.dep = 0 := rfl
theorem eq_i : (D.int i).eq (.int j) = decide (i = j) := by rfl
@[simp] theorem gEq_i : gEq rm (.int i) (.int j) = some (.dat (.bl (decide (i = j)))) := by simp [gEq, eq_i]
@[simp] theorem gNe_i : gNe rm (.int i) (.int j) = some (.dat (.bl (!decide (i = j)))) := by simp [gNe, eq_i]
@[simp] theorem gLt_i : gLt rm (.int i) (.int j) = some (.dat (.bl (decide (i < j)))) := rfl
@[simp] theorem gGt_i : gGt rm (.int i) (.int j) = some (.dat (.bl (decide (j < i)))) := rfl
@[simp] theorem gLe_i : gLe rm (.int i) (.int j) = some (.dat (.bl (decide (i ≤ j)))) := rfl
@[simp] theorem gGe_i : gGe rm (.int i) (.int j) = some (.dat (.bl (decide (j ≤ i)))) := rfl
@[simp] theorem gIs_b : gIs (.bl b) (.bl c) = some (.dat (.bl (decide (b = c)))) := rfl
@[simp] theorem gIsNot_b : gIsNot (.bl b) (.bl c) = some (.dat (.bl (!decide (b = c)))) := rfl
@[simp] theorem gIs_n : gIs d .non = some (.dat (.bl d.isN)) := by cases d <;> rfl
@[simp] theorem gIsNot_n : gIsNot d .non = some (.dat (.bl (!d.isN))) := by cases d <;> rfl
@[simp] theorem isN_n : D.non.isN = true := rfl
@[simp] theorem isN_i : (D.int i).isN = false := rfl
@[simp] theorem isN_b : (D.bl b).isN = false := rfl
@[simp] theorem isN_s : (D.str s).isN = false := rfl
@[simp] theorem isN_l : (D.lst l).isN = false := rfl
@[simp] theorem isN_t : (D.tup l).isN = false := rfl
@[simp] theorem gIx_l : gIx (.lst l) (.int i) = (atI l i).map .dat := rfl
@[simp] theorem gIx_t : gIx (.tup l) (.int i) = (atI l i).map .dat := rfl
@[simp] theorem gSl_l {lo hi : Option Int} : gSl lo hi (.lst l) = some (.fresh (cutD l lo hi)) := rfl
@[simp] theorem gSl_t {lo hi : Option Int} : gSl lo hi (.tup l) = some (.dat (.tup (cutD l lo hi))) := rfl
@[simp] theorem cLen_l : cLen [.lst l] = some (.dat (.int l.length)) := rfl
@[simp] theorem cLen_t : cLen [.tup l] = some (.dat (.int l.length)) := rfl
@[simp] theorem cLen_s : cLen [.str s] = some (.dat (.int s.length)) := rfl
@[simp] theorem cInt_i : cInt [.int i] = some (.dat (.int i)) := rfl
@[simp] theorem cInt_b : cInt [.bl b] = some (.dat (.int (if b then 1 else 0))) := rfl
@[simp] theorem cTup_l : cTuple [.lst l] = some (.dat (.tup l)) := rfl
@[simp] theorem cTup_t : cTuple [.tup l] = some (.dat (.tup l)) := rfl
@[simp] theorem cLst_l : cList [.lst l] = some (.fresh l) := rfl
@[simp] theorem cLst_t : cList [.tup l] = some (.fresh l) := rfl
@[simp] theorem cMax_i : cMax2 [.int i, .int j] = some (.dat (.int (if j > i then j else i))) := rfl
@[simp] theorem cMin_i : cMin2 [.int i, .int j] = some (.dat (.int (if j < i then j else i))) := rfl
@[simp] theorem cAll_l : cAll [.lst l] = (bolsOf l).map fun ns => .dat (.bl (ns.all id)) := rfl
@[simp] theorem cAny_l : cAny [.lst l] = (bolsOf l).map fun ns => .dat (.bl (ns.any id)) := rfl
@[simp] theorem cSum_l : cSum [.lst l] = (intsOf l).map fun ns => .dat (.int ns.sum) := rfl
@[simp] theorem isi_ap {ts : List Ty} : gIsi ts d = some (.dat (.bl (ts.any d.isTy))) := rfl
@[simp] theorem bolsOf_mapF {α : Type} {f : α → Bool} (xs : List α) : bolsOf (xs.map fun x => D.bl (f x)) = some (xs.map f) := by
  induction xs with
  | nil => rfl
  | cons x xs ih => simp [bolsOf, ih]
theorem eq_s : (D.str s).eq (.str t) = decide (s = t) := by rfl
@[simp] theorem gEq_s : gEq rm (.str s) (.str t) = some (.dat (.bl (decide (s = t)))) := by simp [gEq, eq_s]
@[simp] theorem gNe_s : gNe rm (.str s) (.str t) = some (.dat (.bl (!decide (s = t)))) := by simp [gNe, eq_s]
theorem eq_b : (D.bl b).eq (.bl c) = decide (b = c) := by cases b <;> cases c <;> rfl
@[simp] theorem gEq_b : gEq rm (.bl b) (.bl c) = some (.dat (.bl (decide (b = c)))) := by simp [gEq, eq_b]
@[simp] theorem gNe_b : gNe rm (.bl b) (.bl c) = some (.dat (.bl (!decide (b = c)))) := by simp [gNe, eq_b]
end
theorem for_cons {g : Tgt} {s : Sd} {d : D} {ds : List D} {env : Ev} {w : World} : forGo g s (d :: ds) env w = (match g d env with
    | some env1 => (s env1 w).bind fun f w1 => (match f with
      | .nx e => forGo g s ds e w1
      | .ct e => forGo g s ds e w1
      | .bk e => .ok (.nx e) w1
      | .rt r => .ok (.rt r) w1)
    | none => .stuck) := rfl
end Dl
namespace Dl
open PySem PySem.Spec PyProof.Rows L2 NdefX
theorem atI_nat {α : Type} {l : List α} {i : Int} (h0 : 0 ≤ i) (h1 : i < l.length) : atI l i = l[i.toNat]? := by
  unfold atI ixN
  rw [if_pos h0, if_pos h1]
  rfl
def tapeD (ns : List Int) (pos c2 c3 c4 : Int) : WO := .lst [.lst (ns.map .int), .int pos, .int c2, .int c3, .int c4]
def TapeOk (rest w : World) : Prop := ∃ ns pos c2 c3 c4, w = tapeD ns pos c2 c3 c4 :: rest ∧ 0 ≤ pos
theorem at0 {a b c d e : D} : atI [a, b, c, d, e] 0 = some a := rfl
theorem at1 {a b c d e : D} : atI [a, b, c, d, e] 1 = some b := rfl
theorem at2 {a b c d e : D} : atI [a, b, c, d, e] 2 = some c := rfl
theorem at3 {a b c d e : D} : atI [a, b, c, d, e] 3 = some d := rfl
theorem at4 {a b c d e : D} : atI [a, b, c, d, e] 4 = some e := rfl
theorem ix5 {i : Int} (h : 0 ≤ i) (h1 : i < 5) : ixN 5 i = some i.toNat := by
  unfold ixN
  rw [if_pos h, if_pos (by simpa using h1)]
@[simp] theorem endR_rt' (r : RV) (w : World) : endR (.ok (.rt r) w) = .ok r w := rfl
theorem tape_run {C : Cs} {l : List Int} {w : World} : runB ⟨1, 1, b__law_tape⟩ C [.dat (.lst (l.map .int))] w = .ok (.fresh [.lst (l.map .int), .int 0, .int 0, .int 1, .int 0]) w := by
  simp [runB, initE, toSl, b__law_tape]
theorem pick_run {C : Cs} {rest w : World} {m : Int} (h : TapeOk rest w) (hm : 0 < m) (hb : m < 1073741824) :
    ∃ r w', runB ⟨2, 5, b__law_pick⟩ C [.wref 0, .dat (.int m)] w = .ok (.dat (.int r)) w' ∧ TapeOk rest w' ∧ 0 ≤ r ∧ r < m := by
  obtain ⟨ns, pos, c2, c3, c4, rfl, hp⟩ := h
  have hmod : ∀ z : Int, 0 ≤ z % m ∧ z % m < m := fun z => ⟨Int.emod_nonneg _ (by omega), Int.emod_lt_of_pos _ hm⟩
  simp only [runB, initE, toSl, b__law_pick, tapeD, List.length_cons, List.length_nil, Nat.reduceAdd, if_true, List.map_cons, List.map_nil, Nat.reduceSub, List.replicate]
  by_cases h2 : 1 < c2
  · refine ⟨c2 % m, tapeD ns pos (c2 / m) c3 c4 :: rest, ?_, ⟨ns, pos, c2 / m, c3, c4, rfl, hp⟩, hmod c2⟩
    simp [at0, at1, at2, at3, at4, h2, hm, hb, ix5, tapeD]
  · have mk : ∀ i j : Int, i.natAbs < 2 ^ 64 → mulOk i j = true := fun i j h => by simp [mulOk, h]
    have mk' : ∀ i j : Int, j.natAbs < 2 ^ 64 → mulOk i j = true := fun i j h => by simp [mulOk, h]
    have fin : ∀ cell pos' : Int, 0 ≤ pos' → ∃ r w', endR
        ((if 1000000000000000000 ≤ cell then Out.ok (Fl.rt (.dat (.int (cell % m)))) (tapeD ns pos' (cell / m) c3 (c4 + 1) :: rest) else
          (Out.ok (Fl.rt (.dat (.int ((c3 * 48271 + cell % 2147483629 + (c4 + 1) * 69621) % 2147483647 * ((c3 * 48271 + cell % 2147483629 + (c4 + 1) * 69621) % 2147483647 / 1009 + 40692) % 2147483399 / 16 % m)))) (tapeD ns pos' c2 ((c3 * 48271 + cell % 2147483629 + (c4 + 1) * 69621) % 2147483647 * ((c3 * 48271 + cell % 2147483629 + (c4 + 1) * 69621) % 2147483647 / 1009 + 40692) % 2147483399) (c4 + 1) :: rest)))) = .ok (.dat (.int r)) w' ∧ TapeOk rest w' ∧ 0 ≤ r ∧ r < m := fun cell pos' hp' => by
      split
      · exact ⟨_, _, rfl, ⟨_, _, _, _, _, rfl, hp'⟩, hmod _⟩
      · exact ⟨_, _, rfl, ⟨_, _, _, _, _, rfl, hp'⟩, hmod _⟩
    by_cases hlt : pos < ns.length
    · obtain ⟨k, rfl⟩ : ∃ k : Nat, pos = k := ⟨pos.toNat, by omega⟩
      have hk : k < ns.length := by omega
      have hc : atI (ns.map D.int) (k : Int) = some (.int ns[k]) := by
        rw [atI_nat (by omega) (by simpa using hlt)]
        simp [hk]
      have mo := mk ((c3 * 48271 + ns[k] % 2147483629 + (c4 + 1) * 69621) % 2147483647) ((c3 * 48271 + ns[k] % 2147483629 + (c4 + 1) * 69621) % 2147483647 / 1009 + 40692) (by omega)
      have := fin ns[k] (k + 1) (by omega)
      revert this
      simp [at0, at1, at2, at3, at4, h2, hm, hb, ix5, tapeD, hlt, hc, mk', mo, hk]
    · have mo := mk ((c3 * 48271 + (c4 + 1) * 69621) % 2147483647) ((c3 * 48271 + (c4 + 1) * 69621) % 2147483647 / 1009 + 40692) (by omega)
      have := fin 0 pos hp
      revert this
      simp [at0, at1, at2, at3, at4, h2, hm, hb, ix5, tapeD, hlt, mk', mo]
end Dl
namespace Dl
open PySem PySem.Spec PyProof.Rows L2 NdefX
section
variable {α : Type} {l : List α}
theorem atI_get {k : Nat} (h : k < l.length) : atI l (k : Int) = some l[k] := by
  rw [atI_nat (by omega) (by omega)]
  simp [h]
theorem cutD_to {k : Nat} : cutD l none (some (k : Int)) = l.take k := by
  unfold cutD
  rw [HT.sIx_none, HT.sIx_nat]
  simp only [List.drop_zero, Nat.sub_zero]
  by_cases h : k ≤ l.length
  · rw [Nat.min_eq_left h]
  · rw [Nat.min_eq_right (by omega), List.take_of_length_le (Nat.le_refl _), List.take_of_length_le (by omega)]
theorem cutD_from {k : Nat} : cutD l (some (k : Int)) none = l.drop k := by
  unfold cutD
  rw [HT.sIx_none, HT.sIx_nat]
  by_cases h : k ≤ l.length
  · rw [Nat.min_eq_left h, List.take_of_length_le (by simp)]
  · rw [Nat.min_eq_right (by omega), List.drop_of_length_le (Nat.le_refl _), List.drop_of_length_le (by omega)]
    simp
theorem rngD_nat (n : Nat) : rngD 0 (n : Int) = (List.range n).map fun (i : Nat) => D.int (i : Int) := by
  unfold rngD
  simp
end
end Dl
namespace Dl
open PySem PySem.Spec PyProof.Rows L2 NdefX
abbrev Cts : Type := List (Addr × Addr × Str)
abbrev TT (nd : Nat → Option ND) (cts : Cts) : Tbs := { tabs := (cts.map (·.2)).map fun p => (p.1, fun _ _ => p.2), nd := nd }
structure Makes (base : Heap) (mg : Str → Option Value) (cts : Cts) : Prop where
  tb : ∀ p ∈ cts, LamX.TabB base mg p.1 p.2.1
  un : ∀ p ∈ cts, ∀ q ∈ cts, p.2.1 = q.2.1 → p.2.2 = q.2.2
theorem Makes.mem {base : Heap} {mg : Str → Option Value} {cts : Cts} {c P : Addr} {q : Str} (_ : Makes base mg cts) (h : (c, P, q) ∈ cts) : (P, q) ∈ cts.map (·.2) := List.mem_map.mpr ⟨_, h, rfl⟩
end Dl
namespace Dl
open PySem PySem.Spec PyProof.Rows L2 NdefX He
abbrev AlX : Type := AlT × Bool
def obsX (fa : List Fa) (fn : List DefD) (ts : List Tab) (ex : PySem.W.Frag → Bool) (K : PySem.W.Frag) : AlX := (obsT fa fn ts K, ex K)
def valX (fn : List DefD) (ts : List Tab) (w : PySem.World) : AlX := (valT fn ts w, true)
def obsXG (n : Nat) (fa : List Fa) (fn : List DefD) (ts : List Tab) (ex : PySem.W.Frag → Bool) (g : Addr → Option Obj) : AlX := obsX fa fn ts ex (frG g (asD g n))
def SaysX (fa : List Fa) (fn : List DefD) (ts : List Tab) (ex : PySem.W.Frag → Bool) (w : PySem.World) (K : PySem.W.Frag) : Prop := obsX fa fn ts ex K = valX fn ts w
def hookX (n : Nat) (fa : List Fa) (fn : List DefD) (ts : List Tab) (ex : PySem.W.Frag → Bool) : PySem.W.Hook where
  α := AlX
  obs := fun s => obsXG n fa fn ts ex s.heap.get?
  val := fun w => valX fn ts w
  says := fun w h => ∃ K : PySem.W.Frag, K.In h ∧ SaysX fa fn ts ex w K
  of := fun _ _ e => ⟨_, frG_in, e⟩
  keeps := fun _ _ _ ⟨K, hK, c⟩ k => ⟨K, PySem.W.Frag.In.keeps hK k, c⟩
theorem obsXG_eq {n : Nat} {fa : List Fa} {fn : List DefD} {ts : List Tab} {ex : PySem.W.Frag → Bool} {g : Addr → Option Obj} {s : Shared} (h : ∀ a, g a = s.heap.get? a) : obsXG n fa fn ts ex g = (hookX n fa fn ts ex).obs s := by
  have e : g = s.heap.get? := funext h
  rw [e] <;> rfl
section
variable {fa : List Fa} {fn : List DefD} {ts : List Tab} {ex : PySem.W.Frag → Bool} {w : PySem.World} {K : PySem.W.Frag}
theorem SaysX.t (c : SaysX fa fn ts ex w K) : SaysT fa fn ts w K := congrArg (fun z : AlX => z.1) c
theorem SaysX.x (c : SaysX fa fn ts ex w K) : ex K = true := congrArg (fun z : AlX => z.2) c
end
theorem noCX {P : Program} {w : PySem.World} (H : Hp) (s : Shared) (e : Value) (s' : Shared) (h : L2N.CX P w [] H s (fun _ _ _ => False) e s') : False := by
  obtain ⟨_, _, _, _, _, _, _, _, _, _, _, _, f⟩ := h
  exact f
def atLaw (K : PySem.W.Frag) (a : Addr) (ob : Obj) (l : List V) (ts : List Addr) : Hp := fun b => if b = a ∧ (K.lookup a).isNone = true then some (.frz ob (.lst l)) else if b ∈ ts then some (.tbl #[]) else none
theorem atLaw_cases {K : PySem.W.Frag} {a b : Addr} {ob : Obj} {l : List V} {ts : List Addr} {u : HO} (h : atLaw K a ob l ts b = some u) : (b = a ∧ (K.lookup a).isNone = true ∧ u = .frz ob (.lst l)) ∨ (b ∈ ts ∧ u = .tbl #[]) := by
  unfold atLaw at h
  split at h
  · rename_i c
    exact .inl ⟨c.1, c.2, (Option.some.inj h).symm⟩
  · split at h
    · rename_i c
      exact .inr ⟨c, (Option.some.inj h).symm⟩
    · cases h
theorem law_callG {P : Program} {w : PySem.World} {K : PySem.W.Frag} {mg mb : Str → Option Value} {CX : CXT} {k : Nat} {fa a : Addr} {cs : List (Addr × Addr)} {fd : FuncData} {x : Str} {sp : Sp} {s1 : Shared} {vs : List Value} {ns : List Int}
    (KX : K.In s1.heap) (gN : s1.heap.Ns mainGlobals mg) (gB : s1.heap.Ns builtinsNs mb) (hbb : ∀ x : Str, x ≠ "__name__" → mb x = bootBuiltins x) (hlim : s1.heap.NoLimit) (hg : s1.gens = #[])
    (hT : ∀ p ∈ cs, s1.heap.get? p.2 = some { cls := .none, data := .fields #[] }) (nT : ∀ p ∈ cs, K.lookup p.2 = none) (hC : ∀ p ∈ cs, PySem.W.CodeHd s1.heap p.1 p.2)
    (hbm : ∃ (bm : Addr) (ob : Obj), mg "__builtins__" = some (.ref bm) ∧ bm ≠ builtinsNs ∧ s1.heap.get? bm = some ob ∧ ob.cls = .type "module" ∧ ob.dict = some builtinsNs ∧ ob.data = .plain)
    (ha : s1.heap.get? a = some { cls := .type "list", data := .seq vs.toArray }) (hi : IntsAre vs ns) (hl : ns.length ≤ sizeLine) (hr : RoomB k callerA)
    (F : ∀ base : Heap, K.In base → base.Ns mainGlobals mg → (∀ p ∈ cs, LamX.TabB base mg p.1 p.2) → FnG P w K mg base CX k fa fd [x] sp) (hbind : ∀ (s : Shared) (u : Value), BindsTo s fd ⟨[u], []⟩ [(x, u)])
    (hsp : ∀ H : Hp, (∀ b, H b = none ∨ b ∈ cs.map (·.2) ∨ ∃ o xs, H b = some (.frz o (.lst xs))) → (∀ p ∈ cs, H p.2 = some (.tbl #[])) → SqL K H a (ns.map V.int) → sp [.ref a] H (fun v _ => v = .bl true) fun _ _ _ => False)
    (hCX : ∀ H e s', CX [] H s1 (fun _ _ _ => False) e s' → False) :
    codeAny (model P w) callerA (.call (.ref fa) ⟨[.ref a], []⟩) (fun r s' => r = .ok (.ret (.bool true)) ∧ OldK s1.heap s'.heap ∧ s'.os = s1.os ∧ AllBare s'.gens) s1 := by
  have rv := vals_ints hi
  have tabs : ∀ b ∈ cs.map (·.2), s1.heap.get? b = some { cls := .none, data := .fields #[] } ∧ K.lookup b = none := fun b hb => by
    obtain ⟨p, hp, rfl⟩ := List.mem_map.mp hb
    exact ⟨hT p hp, nT p hp⟩
  have aT : a ∉ cs.map (·.2) := fun z => by
    have q := (tabs a z).1
    rw [ha] at q
    exact absurd (congrArg Obj.data (Option.some.inj q)) (by simp)
  have memT : ∀ p ∈ cs, p.2 ∈ cs.map (·.2) := fun p hp => List.mem_map.mpr ⟨p, hp, rfl⟩
  generalize eH : atLaw K a { cls := .type "list", data := .seq vs.toArray } (ns.map V.int) (cs.map (·.2)) = H
  have cas : ∀ {b : Addr} {u : HO}, H b = some u → (b = a ∧ (K.lookup a).isNone = true ∧ u = .frz { cls := .type "list", data := .seq vs.toArray } (.lst (ns.map V.int))) ∨ (b ∈ cs.map (·.2) ∧ u = .tbl #[]) := fun {b u} h => atLaw_cases (by rw [eH]; exact h)
  have tT : ∀ b ∈ cs.map (·.2), H b = some (.tbl #[]) := fun b hb => by
    rw [← eH]
    unfold atLaw
    rw [if_neg (fun z => aT (by rw [← z.1]; exact hb)), if_pos hb]
  -- what is neither the script nor a table is not tracked
  have free : ∀ {b : Addr} {o : Obj}, s1.heap.get? b = some o → (∀ l n, o.data ≠ .seq l n) → o.data ≠ .fields #[] → H b = none := fun {b o} e n1 n2 => by
    cases q : H b with
    | none => rfl
    | some u =>
      rcases cas q with ⟨rfl, _⟩ | ⟨hb, _⟩
      · rw [ha] at e
        cases e
        exact (n1 _ _ rfl).elim
      · rw [(tabs b hb).1] at e
        cases e
        exact (n2 rfl).elim
  have out : ∀ {b : Addr} {o : Obj}, s1.heap.get? b = some o → (∀ l n, o.data ≠ .seq l n) → o.data ≠ .fields #[] → (hidT s1.heap H).get? b = some o := fun e n1 n2 => hidT_get e (free e n1 n2)
  have ns_out : ∀ {b : Addr} {m : Str → Option Value}, s1.heap.Ns b m → (hidT s1.heap H).Ns b m := fun {b m} ⟨o, es, n, e, d, r⟩ => ⟨o, es, n, out e (fun l n z => by rw [d] at z; cases z) (fun z => by rw [d] at z; cases z), d, r⟩
  have KB : K.In (hidT s1.heap H) := fun b o e => hidT_get (KX b o e) (by
    cases q : H b with
    | none => rfl
    | some u =>
      rcases cas q with ⟨rfl, z, _⟩ | ⟨hb, _⟩
      · rw [e] at z; cases z
      · rw [(tabs b hb).2] at e; cases e)
  have M : L2.Mod K mg (hidT s1.heap H) := ⟨KB, ns_out gN, ⟨mb, ns_out gB, hbb⟩, by
    obtain ⟨mc, h1, h2⟩ := hlim
    exact ⟨mc, ns_out h1, h2⟩⟩
  have okH : HOk P w H s1.heap := fun b u q => by
    rcases cas q with ⟨rfl, _, rfl⟩ | ⟨hb, rfl⟩
    · exact ⟨ha, by rw [List.length_map]; exact hl, vs, _, rv, ha⟩
    · exact (tabs b hb).1
  have sq : SqL K H a (ns.map V.int) := by
    cases hk : K.lookup a with
    | none => exact .inl (.inr ⟨_, by rw [← eH]; exact if_pos ⟨rfl, by rw [hk]; rfl⟩⟩)
    | some o =>
      have e := KX a o hk
      rw [ha] at e
      cases e
      exact .inr ⟨_, vs.toArray, _, hk, rfl, rfl, rfl, by rw [List.size_toArray, hi.length]; exact hl, by simpa using rv⟩
  have TB : ∀ p ∈ cs, LamX.TabB (hidT s1.heap H) mg p.1 p.2 := fun p hp => by
    have eT := hT p hp
    obtain ⟨bm, ob, b1, b2, b3, b4, b5, b6⟩ := hbm
    obtain ⟨og, eg, ng, g1, g2, _⟩ := gN
    refine ⟨?_, ⟨bm, ob, b1, b2, fun q => ?_, fun q => ?_, out b3 (fun l n z => by rw [b6] at z; cases z) (fun z => by rw [b6] at z; cases z), b4, b5, b6⟩, fun z => ?_⟩
    · obtain ⟨o, us, file, tf, flags, tg, inF, text, tt, e1, r1, r2, r3, rest⟩ := hC p hp
      exact ⟨o, us, file, tf, flags, tg, inF, text, tt, out e1 (fun l n z => by rw [r2] at z; cases z) (fun z => by rw [r2] at z; cases z; simp at r3), r1, r2, r3, rest⟩
    · rw [q, g1] at b3
      cases b3
      rw [g2] at b6
      cases b6
    · rw [q, eT] at b3
      cases b3
      cases b6
    · rw [z, eT] at g1
      cases g1
      cases g2
  have e0 : Env0 P w K mg (hidT s1.heap H) callerA [] s1 H := ⟨rfl, M, fun b o e => of_hidT e, Nat.le_of_eq (hidT_size _ _), trivial, fun b hb => (List.not_mem_nil hb).elim, okH, .of_eq hg⟩
  refine codeAny_mono ((F _ KB (ns_out gN) TB).goes callerA [] s1 H ⟨[.ref a], []⟩ [.ref a] [.ref a] _ _ ⟨hr, rfl⟩ e0 (hbind s1 (.ref a)) (.cons rfl .nil) (hsp H (fun b => ?_) (fun p hp => tT _ (memT p hp)) sq)) ?_
  · cases q : H b with
    | none => exact .inl rfl
    | some u =>
      rcases cas q with ⟨_, _, z⟩ | ⟨hb, _⟩
      · exact .inr (.inr ⟨_, _, by rw [z]⟩)
      · exact .inr (.inl hb)
  · rintro (e | fl) s2 h
    · exact (hCX H e s2 h).elim
    · cases fl with
      | next => exact h.elim
      | brk => exact h.elim
      | cont => exact h.elim
      | ret u =>
        obtain ⟨v, H2, hos, bare, un, ok2, ru, ev⟩ := h
        have ev : v = .bl true := ev
        subst ev
        have eu : u = Value.bool true := ru
        subst eu
        have more : ∀ b ∈ cs.map (·.2), ∃ m : Array Value, s2.heap.get? b = some { cls := .none, data := .fields m } := fun b hb => by
          obtain ⟨m, z⟩ := un.tbls b #[] (tT b hb)
          exact ⟨_, ok2 b _ z⟩
        have stay : ∀ b o, b ∉ cs.map (·.2) → s1.heap.get? b = some o → s2.heap.get? b = some o := fun b o nb e => by
          cases q : H b with
          | none => exact un.keep b o e q (fun z => (List.not_mem_nil z).elim) (by simp)
          | some u =>
            rcases cas q with ⟨_, _, z⟩ | ⟨hb, _⟩
            · subst z
              have e1 := (okH b _ q).1
              rw [e] at e1
              cases e1
              exact (ok2 b _ (un.frzs b _ _ q)).1
            · exact absurd hb nb
        refine ⟨rfl, ⟨fun b o e => ?_, fun b o e => ?_⟩, hos, bare⟩
        · by_cases hb : b ∈ cs.map (·.2)
          · obtain ⟨m, hm⟩ := more b hb
            obtain ⟨p, hp, rfl⟩ := List.mem_map.mp hb
            rw [hT p hp] at e
            cases e
            exact .inr (.inl ⟨((hC p hp).tab (hT p hp)).isCodeTable, rfl, #[], m, rfl, by rw [Array.empty_append]; exact hm⟩)
          · exact .inl (stay b o hb e)
        · by_cases hb : b ∈ cs.map (·.2)
          · obtain ⟨m, hm⟩ := more b hb
            exact ⟨_, hm⟩
          · exact ⟨o, stay b o hb e⟩
theorem walk_ofW {l : PySem.W.OpenLaw} {n k : Nat} {q : Program} {loose : List Str} {XP : (Str → Option Value) → Heap → Prop} {YP : PySem.World → Heap → Prop} {d : DefRec} {x : Str}
    (hn : l.most = some n) (hn2 : n ≤ sizeLine) (hdf : d.params.defaults = []) (hr : RoomB k callerA)
    (F : ∀ (w : PySem.World) (mg : Str → Option Value) (fa : Addr) (h : Heap), YP w h → h.Ns mainGlobals mg → mg d.name = some (.ref fa) →
      ∃ (K : PySem.W.Frag) (fd : FuncData) (sp : Sp), K.In h ∧ (∀ (s : Shared) (u : Value), BindsTo s fd ⟨[u], []⟩ [(x, u)]) ∧
        (∀ (H : Hp) (a : Addr) (ns : List Int), ns.length ≤ n → Only H → SqL K H a (ns.map V.int) → sp [.ref a] H (fun v _ => v = .bl true) fun _ _ _ => False) ∧
        ∀ base : Heap, K.In base → base.Ns mainGlobals mg → FnG l.prog w K mg base (L2N.CX l.prog w) k fa fd [x] sp) :
    PySem.W.WalkO q loose XP YP l.row.toRowW d [] (fun f vs => PySem.call f vs) := by
  refine Att.attach_callB hn hdf fun w s₀ s₁ mg mb fa o pm cd doc a vs ns G Y ho hd hcd hmg hobj hints hlen hbits hg => ?_
  obtain ⟨K, fd, sp, KX, hb, hsp, hF⟩ := F w mg fa _ Y G.T.g hmg
  exact law_callG (cs := []) KX G.T.g G.T.b G.T.builtins G.T.nolimit hg (fun _ h => nomatch h) (fun _ h => nomatch h) (fun _ h => nomatch h) G.T.bmain hobj hints (Nat.le_trans hlen hn2) hr (fun base h1 h2 _ => hF base h1 h2) hb
    (fun H hO _ hS => hsp H a ns hlen (fun b => (hO b).imp_right fun z => z.elim (fun h => nomatch h) id) hS) fun H e s' => noCX H s₁ e s'
theorem ref_inj {f g : Addr} (h : some (Value.ref f) = some (Value.ref g)) : f = g := by
  cases h
  rfl
end Dl
namespace Dl
open PySem PySem.Spec PyProof.Rows L2 NdefX
end Dl
namespace Dl
open PySem PySem.Spec PyProof.Rows L2 NdefX
structure XoF (K : PySem.W.Frag) (mg : Str → Option Value) (x f : Str) : Prop where
  ex : ∃ (C fI : Addr) (fd : FuncData) (qual : Str) (params : Arguments) (scope : Scope) (p p' p2 pos : Pos), mg x = some (.ref C) ∧ OexC K C ∧ PySem.W.findIn K (.ref C) "__init__" = some (some (.ref fI)) ∧ PySem.W.typeIn K (.ref fI) = some (.type "function") ∧
    FunD K "__init__" qual params [.Assign [.Attribute (.Name "self" p) f p'] (.Name f p2) pos] scope [] [] fI fd ∧ FnScope ["self", f] ["self", f] scope ∧ Binds K fd ["self", f] [] ∧ PySem.W.findIn K (.ref C) f = some none ∧ XfC K C ∧ (f == ("__debug__" : Str)) = false ∧ (f == ("__classdict__" : Str)) = false
def clsBody : Stmt → List Stmt
  | .ClassDef (body := b) .. => b
  | _ => []
def clsAt (i : Nat) (s : Stmt) : Stmt := (clsBody s).getD i (.Pass ⟨0, 0, 0, 0⟩)
def oexB0 (K : PySem.W.Frag) (C : Addr) : Bool := match K.lookup C with
  | some ⟨.type "type", _, .cls cd, sl⟩ => (match cd.mro, sl.toList with
    | .ref C' :: bm, [_, _, _, _, some (.builtin n), _] => C' == C && n == "ValueError.__new__" && !cd.hasDel && cd.hasDict && PySem.HandSPX.refsVE bm
    | _, _ => false)
  | _ => false
theorem oexB0_ok {K : PySem.W.Frag} {C : Addr} (q : oexB0 K C = true) : ∃ nm q N bs bm sn sub ab col dd k0 k1 k2 k3 k5, K.lookup C = some (excClassObj nm q C N bs bm true sn sub ab col dd k0 k1 k2 k3 k5 "ValueError.__new__") ∧ PySem.HandSPX.refsVE bm = true := by
  unfold oexB0 at q
  split at q
  · rename_i dd cd sl ho
    split at q
    · rename_i C' bm k0 k1 k2 k3 n k5 hm hs
      simp only [Bool.and_eq_true, beq_iff_eq, Bool.not_eq_true'] at q
      obtain ⟨⟨⟨⟨rfl, rfl⟩, hdel⟩, hd⟩, ht⟩ := q
      obtain ⟨nm, bs, mro, ns, qn, hd', sn, sub, ab, col, del⟩ := cd
      dsimp only at hm hdel hd
      subst hm hdel hd
      have hsl : sl = #[k0, k1, k2, k3, some (.builtin "ValueError.__new__"), k5] := by
        obtain ⟨l⟩ := sl
        simp only at hs
        rw [hs]
      subst hsl
      exact ⟨nm, qn, ns, bs, bm, sn, sub, ab, col, dd, k0, k1, k2, k3, k5, ho, ht⟩
    · cases q
  · cases q
def xoB (K : PySem.W.Frag) (x f : Str) : Bool :=
  oexB0 K (He.ga K x) && (decide (PySem.W.findIn K (.ref (He.ga K x)) "__setattr__" = some (some (.builtin "object.__setattr__"))) && (decide (PySem.W.subIn K (.ref (He.ga K x)) (.type "BaseException") = some true) && (decide (PySem.W.typeIn K (.ref (He.ga K x)) = some (.type "type")) && (PySem.W.keepIn K (.ref (He.ga K x)) &&
    (decide (PySem.W.findIn K (.ref (He.ga K x)) "__init__" = some (some (.ref (He.ma K (He.ga K x) "__init__")))) && (decide (PySem.W.typeIn K (.ref (He.ma K (He.ga K x) "__init__")) = some (.type "function")) && (decide (PySem.W.findIn K (.ref (He.ga K x)) f = some none) && xfB K (He.ga K x))))))))
theorem xo_of {K : PySem.W.Frag} {h : Heap} {mg : Str → Option Value} {x f qual : Str} {params : Arguments} {scope : Scope} {fd : FuncData} {p p' p2 pos : Pos} (gx : mg x = some (.ref (He.ga K x))) (c : xoB K x f = true)
    (F : FunD K "__init__" qual params [.Assign [.Attribute (.Name "self" p) f p'] (.Name f p2) pos] scope [] [] (He.ma K (He.ga K x) "__init__") fd) (S : FnScope ["self", f] ["self", f] scope) (b : Binds K fd ["self", f] [])
    (h1 : (f == ("__debug__" : Str)) = false := by decide) (h2 : (f == ("__classdict__" : Str)) = false := by decide) : XoF K mg x f := by
  unfold xoB at c
  simp only [Bool.and_eq_true, decide_eq_true_eq] at c
  obtain ⟨c1, c2, c3, c4, c5, c6, c7, c8, c9⟩ := c
  exact ⟨_, _, fd, qual, params, scope, p, p', p2, pos, gx, ⟨oexB0_ok c1, c2, c3, c4, c5⟩, c6, c7, F, S, b, c8, xfB_ok c9, h1, h2⟩
end Dl
namespace Dl
open PySem PySem.Spec PyProof.Rows L2 NdefX
def maxI : Int → List Int → Int
  | x, [] => x
  | x, y :: l => maxI (if y > x then y else x) l
def cMax1 : List D → Option RV
  | [.lst l] => (match intsOf l with
    | some (x :: r) => some (.dat (.int (maxI x r)))
    | _ => none)
  | [.tup l] => (match intsOf l with
    | some (x :: r) => some (.dat (.int (maxI x r)))
    | _ => none)
  | _ => none
section
variable {X : Cx}
end
def dFrz (e : Ex) : Ex := fun env w => (e env w).bind fun r w1 => match r.arg with
  | some (.dat d) => .ok (.dat d) w1
  | some (.wref k) => .ok (.wref k) w1
  | _ => .stuck
section
variable {X : Cx} {T : Tbs} {Wi : WX} {e : Expr} {d : Ex}
theorem frz_read {σ : St} {H : Hp} {Q : VK} (q : tD (Cx.tx X T) Wi (dFrz d) σ H Q) : tD (Cx.tx X T) Wi d σ H Q := by
  obtain ⟨B, env, w, F, O, M, s, q⟩ := q
  refine ⟨B, env, w, F, O, M, s, q.bind.imp fun r w1 q1 v H1 F1 M1 s1 st1 r1 => ?_⟩
  split at q1
  · rename_i x ex
    obtain ⟨F2, s2, st2, a2⟩ := keep_arg s s1 st1 r1 ex
    exact q1 v H1 F2 M1 s2 st2 a2
  · rename_i k ex
    cases r with
    | wref j =>
      cases ex
      exact q1 v H1 F1 M1 s1 st1 r1
    | dat d => cases ex
    | fresh l => cases ex
    | bor i l => cases ex
  · exact q1.elim
theorem je_frz (h : JE X T Wi e d) : JE X T Wi e (dFrz d) := h.impD fun σ H Q q => frz_read q
@[simp] theorem dFrz_ap {env : Ev} {w : World} : dFrz d env w = (d env w).bind fun r w1 => match r.arg with
  | some (.dat d) => .ok (.dat d) w1
  | some (.wref k) => .ok (.wref k) w1
  | _ => .stuck := rfl
end
section
variable {X : Cx} {T : Tbs} {Wi : WX} {pos : Pos}
end
end Dl
namespace Dl
open PySem PySem.Spec PyProof.Rows L2 NdefX
section
variable {X : Cx} {T : Tbs} {Wi : WX} {a f : Expr} {da : Ex} {pos : Pos}
def sPar (i j : Nat) (es : Exs) : Sd := fun env w => (es env w).bind fun rs w1 => match rs with
  | [.dat x, .dat y] => .ok (.nx ((env.set i (.dat x)).set j (.dat y))) w1
  | _ => .stuck
@[simp] theorem sPar_ap {i j : Nat} {es : Exs} {env : Ev} {w : World} : sPar i j es env w = (es env w).bind fun rs w1 => match rs with
  | [.dat x, .dat y] => .ok (.nx ((env.set i (.dat x)).set j (.dat y))) w1
  | _ => .stuck := rfl
end
end Dl
namespace Dl
open PySem PySem.Spec PyProof.Rows L2 NdefX
instance decMemKey (k : Key) (es : List Key) : Decidable (k ∈ es) := decidable_of_iff ((es.any fun z => decide (z = k)) = true) (by simp)
def kD : Key → D
  | .inl i => .int i
  | .inr s => .str s
def keysOf : List D → Option (List Key)
  | [] => some []
  | .str s :: l => (keysOf l).map (Sum.inr s :: ·)
  | .int i :: l => (keysOf l).map (Sum.inl i :: ·)
  | _ :: _ => none
def keysPut (es : List Key) (k : Key) : List Key := if k ∈ es then es else es ++ [k]
def leZ (a b : Int) : Bool := decide (a ≤ b)
def sortZ (l : List Int) : List Int := l.mergeSort leZ
def cSortA : List D → Option RV
  | [.lst l] => (match strsOf l with
    | some ss => if ss.length < 64 then some (.fresh ((sortS ss).map .str)) else none
    | none => (match intsOf l with
      | some ns => if ns.length < 64 then some (.fresh ((sortZ ns).map .int)) else none
      | none => none))
  | _ => none
section
variable {X : Cx}
end
section
variable {X : Cx} {T : Tbs} {Wi : WX} {pos : Pos}
def dKeysA (src : Src) (vs : List Nat) (g : Tgt) (tt : Tst) (kx : Ex) : Ex := fun env w => (src env w).bind fun l w1 => (compGo g tt kx (wipeE env vs) l w1).bind fun xs w2 => match keysOf xs with
  | some ks => .ok (.fresh ((ks.foldl keysPut []).map kD)) w2
  | none => .stuck
@[simp] theorem dKeysA_ap {src : Src} {vs : List Nat} {g : Tgt} {tt : Tst} {kx : Ex} {env : Ev} {w : World} : dKeysA src vs g tt kx env w = (src env w).bind fun l w1 => (compGo g tt kx (wipeE env vs) l w1).bind fun xs w2 => match keysOf xs with
  | some ks => .ok (.fresh ((ks.foldl keysPut []).map kD)) w2
  | none => .stuck := rfl
end
end Dl
namespace Dl
open PySem PySem.Spec PyProof.Rows L2 NdefX
section
variable {X : Cx} {pins : List (Addr × Obj)} {σ : St} {H : Hp} {s : Shared}
end
section
variable {X : Cx}
end
end Dl
namespace Dl
open PySem PySem.Spec PyProof.Rows L2 NdefX
def whileGo : Nat → Tst → Sd → Sd
  | 0, _, _ => fun _ _ => .stuck
  | n + 1, t, b => fun env w => (t env w).bind fun k w1 => if k = true then (b env w1).bind fun f w2 => (match f with
    | .nx e => whileGo n t b e w2
    | .ct e => whileGo n t b e w2
    | .bk e => .ok (.nx e) w2
    | .rt r => .ok (.rt r) w2) else .ok (.nx env) w1
def fuelN : Nat := 2 ^ 64
def sWhile (t : Tst) (b : Sd) : Sd := fun env w => whileGo fuelN t b env w
section
variable {X : Cx} {T : Tbs} {Wi : WX} {pos : Pos} {b : Sd}
theorem js_while {c : Expr} {body : List Stmt} {t : Tst} (hp : PassesOwn (model X.prog X.w) X.A X.env X.xe) (hc : JT X T Wi c t) (hb : JSs X T Wi body b) : JS X T Wi (.While c body [] pos) (sWhile t b) := by
  refine (ps_while hp hc hb).impD fun D σ H q => ?_
  obtain ⟨B, env, w, F, O, M, s, q⟩ := q
  refine ⟨fun m σ H => ∃ env w F' O M, SR (Cx.tx X T) B env w σ H F' O M ∧ Same F F' ∧ Pst (whileGo m t b env w) (flG (Cx.tx X T) B F' D) (badX (Cx.tx X T) B Wi), ⟨fuelN, env, w, F, O, M, s, Same.refl _, q⟩, ?_⟩
  rintro m σ' H' ⟨env', w', F', O', M', s', sf, qq⟩
  cases m with
  | zero => exact qq.elim
  | succ m =>
    unfold whileGo at qq
    refine ⟨B, env', w', F', O', M', s', qq.bind.imp fun k w1 q1 H1 F1 M1 s1 st1 => ?_⟩
    cases k with
    | true =>
      rw [if_pos rfl] at q1 ⊢
      refine ⟨fun σ H => ∃ env w F2 O M, SR (Cx.tx X T) B env w σ H F2 O M ∧ Same F F2 ∧ Pst (whileGo m t b env w) (flG (Cx.tx X T) B F2 D) (badX (Cx.tx X T) B Wi), fun σ H z => ⟨m, Nat.lt_succ_self _, z⟩, B, env', w1, F1, O', M1, s1, q1.bind.imp fun f w4 q4 => ?_⟩
      cases f with
      | nx e => exact fun σ5 H5 F5 O5 M5 s5 k => ⟨e, w4, F5, O5, M5, s5, (sf.trans st1.fg).trans k, q4.imp fun f w z => z.later (st1.fg.trans k)⟩
      | ct e => exact fun σ5 H5 F5 O5 M5 s5 k => ⟨e, w4, F5, O5, M5, s5, (sf.trans st1.fg).trans k, q4.imp fun f w z => z.later (st1.fg.trans k)⟩
      | bk e => exact fun σ5 H5 F5 O5 M5 s5 k => q4 σ5 H5 F5 O5 M5 s5 (st1.fg.trans k)
      | rt r => exact q4
    | false =>
      rw [if_neg Bool.false_ne_true] at q1 ⊢
      exact q1 σ' H1 F1 O' M1 s1 st1.fg
end
theorem whileGo_more {t : Tst} {b : Sd} : ∀ {n m : Nat} {env : Ev} {w w' : World} {f : Fl}, n ≤ m → whileGo n t b env w = .ok f w' → whileGo m t b env w = .ok f w'
  | 0, _, _, _, _, _, _, h => by cases h
  | n + 1, 0, _, _, _, _, h, _ => by omega
  | n + 1, m + 1, env, w, w', f, h, e => by
    unfold whileGo at e ⊢
    cases h1 : t env w with
    | stuck => rw [h1] at e; cases e
    | exc _ _ _ => rw [h1] at e; cases e
    | ok k w1 =>
      rw [h1] at e
      simp only [bind_ok] at e ⊢
      cases k with
      | false => exact e
      | true =>
        simp only [if_true] at e ⊢
        cases h2 : b env w1 with
        | stuck => rw [h2] at e; cases e
        | exc _ _ _ => rw [h2] at e; cases e
        | ok g w2 =>
          rw [h2] at e
          simp only [bind_ok] at e ⊢
          cases g with
          | nx e1 => exact whileGo_more (n := n) (m := m) (by omega) e
          | ct e1 => exact whileGo_more (n := n) (m := m) (by omega) e
          | bk e1 => exact e
          | rt r => exact e
theorem fuel_ge {n : Nat} (h : n ≤ 18446744073709551616) : n ≤ fuelN := by
  unfold fuelN
  exact h
theorem sWhile_of {t : Tst} {b : Sd} {n : Nat} {env : Ev} {w w' : World} {f : Fl} (hn : n ≤ 18446744073709551616) (h : whileGo n t b env w = .ok f w') : sWhile t b env w = .ok f w' := whileGo_more (fuel_ge hn) h
theorem while_end {t : Tst} {b : Sd} {n : Nat} {env : Ev} {w w' : World} (h : t env w = .ok false w') : whileGo (n + 1) t b env w = .ok (.nx env) w' := by
  unfold whileGo
  rw [h]
  rfl
theorem while_turn {t : Tst} {b : Sd} {n : Nat} {env env1 : Ev} {w w1 w2 : World} (h : t env w = .ok true w1) (hb : b env w1 = .ok (.nx env1) w2) : whileGo (n + 1) t b env w = whileGo n t b env1 w2 := by
  conv => lhs; unfold whileGo
  rw [h]
  simp only [bind_ok, if_true, hb]
end Dl
namespace Dl
open PySem PySem.Spec PyProof.Rows L2 NdefX
def sInsert (i : Nat) (a e : Ex) : Sd := fun env w => match env[i]? with
  | some (.own l) => (a env w).bind fun ra w1 => (match ra with
    | .dat (.int n) => (e env w1).bind fun r w2 => (match r.st with
      | some d => if 0 ≤ n ∧ n ≤ l.length ∧ l.length < 16777216 then .ok (.nx (env.set i (.own (l.take n.toNat ++ [d] ++ l.drop n.toNat)))) w2 else .stuck
      | none => .stuck)
    | _ => .stuck)
  | _ => .stuck
section
variable {X : Cx} {T : Tbs} {Wi : WX} {pos : Pos}
end
@[simp] theorem sInsert_ap {i : Nat} {a e : Ex} {env : Ev} {w : World} : sInsert i a e env w = (match env[i]? with
  | some (.own l) => (a env w).bind fun ra w1 => (match ra with
    | .dat (.int n) => (e env w1).bind fun r w2 => (match r.st with
      | some d => if 0 ≤ n ∧ n ≤ l.length ∧ l.length < 16777216 then .ok (.nx (env.set i (.own (l.take n.toNat ++ [d] ++ l.drop n.toNat)))) w2 else .stuck
      | none => .stuck)
    | _ => .stuck)
  | _ => .stuck) := rfl
@[simp] theorem sWhile_ap {t : Tst} {b : Sd} {env : Ev} {w : World} : sWhile t b env w = whileGo fuelN t b env w := rfl
end Dl
namespace Dl
open PySem PySem.Spec PyProof.Rows PySem.SeqAt PySem.W
open AutoSeq1 (wpAny_loadPart')
open MeetsSeq MeetsSeq2 MeetsSeq3 SeqRoads2
inductive First (A : Around) (s : Shared) : List Value → List Value → Bool → Prop
  | end0 : First A s [] [] false
  | endL {y : Value} {ws : List Value} : First A s [] (y :: ws) true
  | endR {x : Value} {us : List Value} : First A s (x :: us) [] false
  | same {x y : Value} {us ws : List Value} {k : Bool} : EqAt A s x y true → First A s us ws k → First A s (x :: us) (y :: ws) k
  | diff {x y : Value} {us ws : List Value} {k : Bool} : EqAt A s x y false → RcLt A s x y k → First A s (x :: us) (y :: ws) k
theorem First.stop {A : Around} {s : Shared} {us ws : List Value} {k : Bool} (h : First A s us ws k) (e : us = [] ∨ ws = []) : k = decide (us.length < ws.length) := by
  cases h with
  | end0 => rfl
  | endL => simp
  | endR => simp
  | same _ _ => rcases e with e | e <;> cases e
  | diff _ _ => rcases e with e | e <;> cases e
mutual
def pLt : PyData → PyData → Option Bool
  | .int i, .int j => some (decide (i < j))
  | .str x, .str y => some (decide (x.cps.toList < y.cps.toList))
  | .tuple k, .tuple l => pLts k l
  | _, _ => none
def pLts : List PyData → List PyData → Option Bool
  | [], [] => some false
  | [], _ :: _ => some true
  | _ :: _, [] => some false
  | x :: k, y :: l => if PyData.eqv x y = true then pLts k l else pLt x y
end
def tokLt (d e : PyData) : Bool := PyProof.Rows.lexLt itemOrd (keyToks d) (keyToks e)
mutual
theorem eqv_toks : ∀ x y : PyData, PyData.eqv x y = true → keyToks x = keyToks y
  | .none, y, h => by cases y <;> simp_all [PyData.eqv, keyToks]
  | .bool a, y, h => by
    cases y <;> simp_all [PyData.eqv, keyToks] <;> (cases a <;> simp_all <;> omega)
  | .int a, y, h => by
    cases y with
    | bool b => cases b <;> simp_all [PyData.eqv, keyToks] <;> omega
    | _ => simp_all [PyData.eqv, keyToks]
  | .str a, y, h => by cases y <;> simp_all [PyData.eqv, keyToks]
  | .list xs, y, h => by
    cases y with
    | list ys => simp only [keyToks]; exact eqvAll_toks xs ys (by simpa [PyData.eqv] using h)
    | _ => simp [PyData.eqv] at h
  | .tuple xs, y, h => by
    cases y with
    | tuple ys => simp only [keyToks]; exact eqvAll_toks xs ys (by simpa [PyData.eqv] using h)
    | _ => simp [PyData.eqv] at h
  | .dict _, y, h => by cases y <;> simp_all [PyData.eqv, keyToks]
theorem eqvAll_toks : ∀ xs ys : List PyData, PyData.eqvAll xs ys = true → keyToksAll xs = keyToksAll ys
  | [], [], _ => rfl
  | [], _ :: _, h => by simp [PyData.eqvAll] at h
  | _ :: _, [], h => by simp [PyData.eqvAll] at h
  | x :: xs, y :: ys, h => by
    have h' : PyData.eqv x y = true ∧ PyData.eqvAll xs ys = true := by simpa [PyData.eqvAll] using h
    rw [toks_all_cons, toks_all_cons, eqv_toks x y h'.1, eqvAll_toks xs ys h'.2]
end
mutual
theorem pLt_toks : ∀ (x y : PyData) (k : Bool), pLt x y = some k → PyData.eqv x y = false → ∀ l m, PyProof.Rows.lexLt itemOrd (keyToks x ++ l) (keyToks y ++ m) = k
  | .none, y, _, h, _ => by cases y <;> simp [pLt] at h
  | .bool _, y, _, h, _ => by cases y <;> simp [pLt] at h
  | .list _, y, _, h, _ => by cases y <;> simp [pLt] at h
  | .dict _, y, _, h, _ => by cases y <;> simp [pLt] at h
  | .int i, y, k, h, e => by
    cases y with
    | int j =>
      simp only [pLt, Option.some.injEq] at h
      subst h
      intro l m
      have hne : i ≠ j := fun q => by subst q; simp [PyData.eqv] at e
      simp only [keyToks, List.cons_append, List.nil_append]
      rw [lex_diff (O := itemOrd) (fun q => hne (Sum.inl.inj q))]
      rfl
    | _ => simp [pLt] at h
  | .str x, y, k, h, e => by
    cases y with
    | str z =>
      simp only [pLt, Option.some.injEq] at h
      subst h
      intro l m
      have hne : x ≠ z := fun q => by subst q; simp [PyData.eqv] at e
      simp only [keyToks, List.cons_append, List.nil_append]
      rw [lex_diff (O := itemOrd) (fun q => hne (str_of_cps (Sum.inr.inj q)))]
      rfl
    | _ => simp [pLt] at h
  | .tuple xs, y, k, h, e => by
    cases y with
    | tuple ys =>
      simp only [pLt] at h
      simp only [keyToks]
      exact (pLts_toks xs ys k h).2 (by simpa [PyData.eqv] using e)
    | _ => simp [pLt] at h
theorem pLts_toks : ∀ (xs ys : List PyData) (k : Bool), pLts xs ys = some k → PyProof.Rows.lexLt itemOrd (keyToksAll xs) (keyToksAll ys) = k ∧ (PyData.eqvAll xs ys = false → ∀ l m, PyProof.Rows.lexLt itemOrd (keyToksAll xs ++ l) (keyToksAll ys ++ m) = k)
  | [], [], k, h => by
    simp only [pLts, Option.some.injEq] at h
    subst h
    exact ⟨lex_irrefl _, fun e => by simp [PyData.eqvAll] at e⟩
  | [], y :: ys, k, h => by
    simp only [pLts, Option.some.injEq] at h
    subst h
    rw [toks_all_cons]
    simp only [keyToksAll, List.cons_append, List.nil_append]
    refine ⟨?_, fun _ l m => ?_⟩ <;> (rw [lex_diff (O := itemOrd) (by simp)]; rfl)
  | x :: xs, [], k, h => by
    simp only [pLts, Option.some.injEq] at h
    subst h
    rw [toks_all_cons]
    simp only [keyToksAll, List.cons_append, List.nil_append]
    refine ⟨?_, fun _ l m => ?_⟩ <;> (rw [lex_diff (O := itemOrd) (by simp)]; rfl)
  | x :: xs, y :: ys, k, h => by
    rw [pLts] at h
    rw [toks_all_cons, toks_all_cons, eqv_all_cons]
    cases hx : PyData.eqv x y with
    | true =>
      rw [hx, if_pos rfl] at h
      obtain ⟨b1, b2⟩ := pLts_toks xs ys k h
      rw [eqv_toks x y hx, Bool.true_and]
      refine ⟨(lex_self (O := itemOrd) _ _ _).trans ((lex_pre _ _ _).trans b1), fun e l m => ?_⟩
      simp only [List.cons_append, List.append_assoc]
      exact (lex_self (O := itemOrd) _ _ _).trans ((lex_pre _ _ _).trans (b2 e l m))
    | false =>
      rw [hx, if_neg (by simp)] at h
      have a := pLt_toks x y k h hx
      refine ⟨(lex_self (O := itemOrd) _ _ _).trans (a _ _), fun _ l m => ?_⟩
      simp only [List.cons_append, List.append_assoc]
      exact (lex_self (O := itemOrd) _ _ _).trans (a _ _)
end
theorem pLt_tok {xs ys : List PyData} {k : Bool} (h : pLt (.tuple xs) (.tuple ys) = some k) : tokLt (.tuple xs) (.tuple ys) = k := by
  simp only [pLt] at h
  unfold tokLt
  simp only [keyToks]
  exact (pLts_toks xs ys k h).1
theorem tokLt_swo : SrtO.Swo tokLt where
  asym := fun x y h => by
    cases q : tokLt y x with
    | false => rfl
    | true =>
      have t := lex_trans (O := itemOrd) _ _ _ h q
      rw [lex_irrefl] at t
      cases t
  tr := fun x y z h1 h2 => by
    cases q : tokLt z x with
    | false => rfl
    | true =>
      rcases lex_negTrans (O := itemOrd) (keyToks z) (keyToks y) (keyToks x) q with t | t
      · rw [show tokLt z y = true from t] at h2; cases h2
      · rw [show tokLt y x = true from t] at h1; cases h1
def keyP : PyData → Bool
  | .tuple (.int _ :: _) => true
  | _ => false
section
variable {prog : Program} {w : PySem.World} {A : Around} {E : Value → Shared → Prop} {s : Shared}
end
end Dl
namespace Dl
open PySem PySem.Spec PyProof.Rows L2 NdefX
section
variable {X : Cx}
end
section
variable {X : Cx}
def gMulT : D → D → Option RV
  | .int i, .int j => gMul (.int i) (.int j)
  | .tup l, .int k => if 1 ≤ k ∧ k ≤ 1000 ∧ l.length ≤ 1000 then some (.dat (.tup (List.replicate k.toNat l).flatten)) else none
  | _, _ => none
end
@[simp] theorem gMulT_i {i j : Int} : gMulT (.int i) (.int j) = gMul (.int i) (.int j) := rfl
@[simp] theorem gMulT_t {l : List D} {k : Int} : gMulT (.tup l) (.int k) = if 1 ≤ k ∧ k ≤ 1000 ∧ l.length ≤ 1000 then some (.dat (.tup (List.replicate k.toNat l).flatten)) else none := rfl
def sAsg2 (g1 g2 : Tgt) (e : Ex) : Sd := fun env w => (e env w).bind fun r w1 => match r.arg with
  | some (.dat d) => (match g1 d env with
    | some env1 => (match g2 d env1 with
      | some env2 => .ok (.nx env2) w1
      | none => .stuck)
    | none => .stuck)
  | _ => .stuck
@[simp] theorem sAsg2_ap {g1 g2 : Tgt} {e : Ex} {env : Ev} {w : World} : sAsg2 g1 g2 e env w = (e env w).bind fun r w1 => match r.arg with
  | some (.dat d) => (match g1 d env with
    | some env1 => (match g2 d env1 with
      | some env2 => .ok (.nx env2) w1
      | none => .stuck)
    | none => .stuck)
  | _ => .stuck := rfl
end Dl
namespace Dl
open PySem PySem.Spec PyProof.Rows L2 NdefX
def gAddI : D → D → Option RV := fun d e => match d, e with
  | .int i, .int j => some (.dat (.int (i + j)))
  | _, _ => none
theorem is_addI {X : Cx} : OpS X (inplaceOp .Add) gAddI := is_add
@[simp] theorem gAddI_i {i j : Int} : gAddI (.int i) (.int j) = some (.dat (.int (i + j))) := rfl
end Dl
namespace Dl
open PySem PySem.Spec PyProof.Rows L2 NdefX
end Dl
namespace Dl
open PySem PySem.Spec PyProof.Rows L2 NdefX
section
variable {X : Cx} {C : Addr} {bmB : List Value} {B newId initId : String}
end
def sRaise (x : Str) : Sd := fun env w => .exc ⟨x, none⟩ env w
section
variable {X : Cx} {T : Tbs} {Wi : WX} {p pos pos' : Pos} {x : Str}
end
section
variable {X : Cx} {T : Tbs} {Wi : WX} {pos p : Pos} {e : Expr} {es : List Expr} {d : Ex} {ds : Exs} {C : Cs} {n i : Nat} {x : Str}
def dCallQ (C : Cs) (i : Nat) (as : Exs) : Ex := fun env w => match as env w with
  | .ok rs w1 => withEnv env (C.call i rs w1)
  | _ => .stuck
end
def tryGo (mt : Str → Str → Option Bool) (x : Exn) : List (Str × Sd) → Sd
  | [], env, w => .exc x env w
  | (c, s) :: r, env, w => match mt x.cls c with
    | some true => (match s env w with
      | .exc _ _ _ => .stuck
      | o => o)
    | some false => tryGo mt x r env w
    | none => .stuck
section
variable {X : Cx} {T : Tbs} {Wi : WX} {pos pos1 : Pos} {e : Expr} {d : Ex} {h₀ : ExceptHandler} {hds : List ExceptHandler} {l : List (Str × Value × Sd)} {mt : Str → Str → Option Bool}
end
structure XmF (K : PySem.W.Frag) (mg : Str → Option Value) (x y : Str) (b : Bool) : Prop where
  ex : ∃ C D, mg x = some (.ref C) ∧ mg y = some (.ref D) ∧ PySem.W.exmOne K (.ref C) (.ref D) = some b
def mtL (tb : List (Str × Str × Bool)) (x c : Str) : Option Bool := (tb.find? fun t => decide (t.1 = x) && decide (t.2.1 = c)).map (·.2.2)
theorem mt_ok {K : PySem.W.Frag} {mg : Str → Option Value} {tb : List (Str × Str × Bool)} {l : List (Str × Value × Sd)} (h : ∀ t ∈ tb, XmF K mg t.1 t.2.1 t.2.2) (hg : ∀ p ∈ l, mg p.1 = some p.2.1) :
    ∀ p ∈ l, ∀ (x : Str) (C : Addr) (b : Bool), mg x = some (.ref C) → mtL tb x p.1 = some b → PySem.W.exmOne K (.ref C) p.2.1 = some b := by
  intro p hp x C b gx e
  unfold mtL at e
  cases ef : tb.find? fun t => decide (t.1 = x) && decide (t.2.1 = p.1) with
  | none => rw [ef] at e; cases e
  | some t =>
    rw [ef] at e
    have h1 := List.mem_of_find?_eq_some ef
    have h2 := List.find?_some ef
    simp only [Bool.and_eq_true, decide_eq_true_eq] at h2
    simp only [Option.map_some, Option.some.injEq] at e
    obtain ⟨C', D', g1, g2, g3⟩ := (h t h1).ex
    rw [h2.1, gx] at g1
    rw [h2.2, hg p hp] at g2
    cases g1
    have g2 := Option.some.inj g2
    rw [g2, ← e]
    exact g3
section
variable {prog : Program} {w : PySem.World} {A : Around} {E : Value → Shared → Prop} {s : Shared}
end
section
variable {X : Cx}
end
def gRev : D → Option RV
  | .lst l => some (.fresh l.reverse)
  | .tup l => some (.dat (.tup l.reverse))
  | _ => none
def dRev (e : Ex) : Ex := fun env w => (e env w).bind fun r w1 => match r.val with
  | some d => lift (gRev d) w1
  | none => .stuck
section
variable {X : Cx} {T : Tbs} {Wi : WX} {e : Expr} {d : Ex} {k : Nat} {p1 p2 p3 pos : Pos}
@[simp] theorem dRev_ap {env : Ev} {w : World} : dRev d env w = (d env w).bind fun r w1 => match r.val with
  | some d => lift (gRev d) w1
  | none => .stuck := rfl
@[simp] theorem gRev_l {l : List D} : gRev (.lst l) = some (.fresh l.reverse) := rfl
@[simp] theorem gRev_t {l : List D} : gRev (.tup l) = some (.dat (.tup l.reverse)) := rfl
@[simp] theorem sRaise_ap {x : Str} {env : Ev} {w : World} : sRaise x env w = .exc ⟨x, none⟩ env w := rfl
@[simp] theorem dCallQ_ap {C : Cs} {i : Nat} {as : Exs} {env : Ev} {w : World} : dCallQ C i as env w = match as env w with
  | .ok rs w1 => withEnv env (C.call i rs w1)
  | _ => .stuck := rfl
@[simp] theorem withEnv_exc {α : Type} (env e : Ev) (x : Exn) (w : World) : withEnv env (.exc x e w : Out α) = .exc x env w := rfl
@[simp] theorem endR_exc (x : Exn) (e : Ev) (w : World) : endR (.exc x e w) = .exc x e w := rfl
end
end Dl
namespace Dl
open PySem PySem.Spec PyProof.Rows L2 NdefX
def sReverse (i : Nat) : Sd := fun env w => match env[i]? with
  | some (.own l) => .ok (.nx (env.set i (.own l.reverse))) w
  | _ => .stuck
def dIndexD (rm : Nat) (e a : Ex) : Ex := fun env w => (e env w).bind fun r w1 => match r.arg with
  | some (.dat (.lst l)) => (a env w1).bind fun ra w2 => (match ra with
      | .dat d => if 65 ≤ rm ∧ (D.lst l).dep ≤ 64 ∧ d.dep ≤ 64 then (match l.findIdx? (fun z => z.eq d) with
        | some j => .ok (.dat (.int (j : Nat))) w2
        | none => .stuck) else .stuck
      | _ => .stuck)
  | _ => .stuck
section
variable {X : Cx} {T : Tbs} {Wi : WX} {pos : Pos} {e : Expr} {d : Ex}
theorem shaped_of {K : PySem.W.Frag} {F : Hp} {d : D} {v : V} (r : Rp K F v d) (h : d.dep ≤ 64) : SeqAt.shaped d.py = true := by
  show (d.py.canLay0 && decide (d.py.depth ≤ 64)) = true
  rw [Bool.and_eq_true]
  have a1 := d.dep_py
  have c : (64 : Nat) < bigD := by decide
  exact ⟨Em.lay_of d (r.okS d v) (by omega), decide_eq_true (by omega)⟩
theorem je_indexD {rm : Nat} {a : Expr} {da : Ex} {apos cpos : Pos} (hu : X.A.units + rm < cLine) (hrm : 65 ≤ rm) (h : JE X T Wi e d) (ha : JE X T Wi a da) (hbase : attributeBase e "index" X.env (eval e X.env) = eval e X.env := by rfl)
    (hfew : ((backTo cpos (starEach (a :: []) X.env)).all (fun x => !x.1) && (backToKw cpos (keywordEach [] X.env)).all (fun x => x.1.isSome)
      && decide ((a :: []).length + ([] : List Keyword).length + (if ([] : List Keyword).isEmpty then 0 else 1) < 30)) = true := by rfl)
    (hline : (apos.endLine == cpos.line) = true := by rfl) (hst : starEach (a :: []) X.env = (false, eval a X.env) :: starEach [] X.env := by rfl) (hplain : (backTo cpos (starEach [] X.env)).any (·.1) = false := by rfl) :
    JE X T Wi (.Call (.Attribute e "index" apos) [a] [] cpos) (dIndexD rm d da) := by
  refine (pe_bm PySem.F.plainAttrs_list PySem.F.slot_list_index PySem.F.type_list_index (mt_indexD (by omega)) h (pa_cons ha pa_nil hst) hbase hfew hline hst hplain).impD fun σ H Q q => ?_
  obtain ⟨B, env, w, F, O, M, s, q⟩ := q
  refine ⟨B, env, w, F, O, M, s, q.bind.imp fun r w1 q1 x H1 F1 M1 s1 st1 r1 => ?_⟩
  split at q1
  case h_2 => exact q1.elim
  rename_i l ea
  obtain ⟨F2, s2, st2, a2⟩ := keep_arg s s1 st1 r1 ea
  have a2' : Rp X.K F2 x (.lst l) := a2
  cases a2 with
  | @lst b vs _ hz hs pd =>
  refine ⟨.inl ⟨rfl, _, s2.fh.seq hs⟩, B, env, w1, F2, O, M1, s2, q1.bind.imp fun ra w3 q3 y H3 F3 M3 s3 st3 r3 => ?_⟩
  split at q3
  case h_2 => exact q3.elim
  rename_i dd
  split at q3
  case isFalse => exact q3.elim
  rename_i hc
  obtain ⟨_, hl1, hl2⟩ := hc
  split at q3
  case h_2 => exact q3.elim
  rename_i j ej
  have r3' : Rp X.K F3 y dd := r3
  have l3 : Rp X.K F3 _ (.lst l) := Rp.mono st3.fg _ _ a2'
  rw [List.findIdx?_eq_some_iff_getElem] at ej
  obtain ⟨hj, e1, e2⟩ := ej
  have hg : ∀ (m : Nat) (hm : m < l.length), (D.pyAll l)[m]? = some (l[m]).py := fun m hm => by
    rw [pyAll_eq, List.getElem?_map, List.getElem?_eq_getElem hm]
    rfl
  have okl : D.okSL l = true := l3.okS (.lst l) _
  have eqp : ∀ (m : Nat) (hm : m < l.length), PyData.eqv (l[m]).py dd.py = (l[m]).eq dd := fun m hm => Em.eq_py _ _ (Em.okS_mem okl (List.getElem_mem hm)) (r3'.okS dd _) (.inr (Nat.lt_of_le_of_lt hl2 (by decide)))
  refine ⟨b, y, dd.py, D.pyAll l, j, (l[j]).py, rfl, rfl, Em.dp_of (.lst l) _ (Nat.lt_of_le_of_lt hl1 (by decide)) (Rp.mono s3.fh _ _ l3), Em.dp_of dd _ (Nat.lt_of_le_of_lt hl2 (by decide)) (Rp.mono s3.fh _ _ r3'), shaped_of l3 hl1, shaped_of r3' hl2, hg j hj, (eqp j hj).trans e1, fun m z' hm hz' => ?_, q3 _ H3 F3 M3 s3 (st2.trans st3) (.int _)⟩
  have hml : m < l.length := Nat.lt_trans hm hj
  rw [hg m hml] at hz'
  cases hz'
  have := e2 m hm
  rw [eqp m hml]
  simpa using this
end
@[simp] theorem sReverse_ap {i : Nat} {env : Ev} {w : World} : sReverse i env w = (match env[i]? with
  | some (.own l) => .ok (.nx (env.set i (.own l.reverse))) w
  | _ => .stuck) := rfl
@[simp] theorem dIndexD_ap {rm : Nat} {e a : Ex} {env : Ev} {w : World} : dIndexD rm e a env w = (e env w).bind fun r w1 => match r.arg with
  | some (.dat (.lst l)) => (a env w1).bind fun ra w2 => (match ra with
      | .dat d => if 65 ≤ rm ∧ (D.lst l).dep ≤ 64 ∧ d.dep ≤ 64 then (match l.findIdx? (fun z => z.eq d) with
        | some j => .ok (.dat (.int (j : Nat))) w2
        | none => .stuck) else .stuck
      | _ => .stuck)
  | _ => .stuck := rfl
def D.flat : D → Bool
  | .lst _ => false
  | .tup _ => false
  | .dic _ => false
  | _ => true
theorem Rp.flat {K : PySem.W.Frag} {F F' : Hp} {v : V} {d : D} (h : Rp K F v d) (e : d.flat = true) : Rp K F' v d := by
  cases h with
  | non => exact .non
  | bl b => exact .bl b
  | int i => exact .int i
  | str x hx => exact .str x hx
  | lst _ _ _ => cases e
  | tup _ _ _ => cases e
  | dic _ _ => cases e
def dCallL (C : Cs) (i : Nat) (as : Exs) : Ex := fun env w => (as env w).bind fun rs w1 => match vals rs with
  | some ds => if allL w1 = true then (match C.call i (ds.map .dat) [] with
    | .ok (.dat d) [] => if d.flat = true then .ok (.dat d) w1 else .stuck
    | _ => .stuck) else .stuck
  | none => .stuck
section
variable {X : Cx} {T : Tbs} {Wi : WX} {pos p : Pos} {e : Expr} {es : List Expr} {ds : Exs} {C : Cs} {n i : Nat} {x : Str}
end
@[simp] theorem dCallL_ap {C : Cs} {i : Nat} {as : Exs} {env : Ev} {w : World} : dCallL C i as env w = (as env w).bind fun rs w1 => match vals rs with
  | some ds => if allL w1 = true then (match C.call i (ds.map .dat) [] with
    | .ok (.dat d) [] => if d.flat = true then .ok (.dat d) w1 else .stuck
    | _ => .stuck) else .stuck
  | none => .stuck := rfl
end Dl
namespace Dl
open PySem PySem.Spec PyProof.Rows L2 NdefX
def spI (K : PySem.W.Frag) (C : Addr) (f : Str) : Sp := fun vs H Q _ => ∃ (a : Addr) (y : V), vs = [.ref a, y] ∧ OexC K C ∧ PySem.W.findIn K (.ref C) f = some none ∧ H a = some (exo a C none) ∧
  ∀ dx, H dx = none → dx ≠ a → Q .non (upd (upd H dx (exd dx [(f, y)])) a (exo a C (some dx)))
theorem init_ok {P : Program} {w : PySem.World} {K : PySem.W.Frag} {mg : Str → Option Value} {base : Heap} {C fI : Addr} {fd : FuncData} {qual f : Str} {params : Arguments} {scope : Scope} {p p' p2 pos : Pos}
    (F : FunD K "__init__" qual params [.Assign [.Attribute (.Name "self" p) f p'] (.Name f p2) pos] scope [] [] fI fd) (S : FnScope ["self", f] ["self", f] scope) (h1 : (f == ("__debug__" : Str)) = false) (h2 : (f == ("__classdict__" : Str)) = false) :
    FnOk P w K mg base CX0 1 fI fd ["self", f] (spI K C f) := by
  refine FunD.ok F S (fun vs H Q E h => ?_) fun cdv A outer s H vs Q E hr h => ?_
  · obtain ⟨a, y, e, _⟩ := h
    rw [e]
    rfl
  · obtain ⟨a, y, e, T, hno, ea, q⟩ := h
    subst e
    refine ⟨_, pss_one (ps_ost (to := tVar 0) (te := tVar 1) (pe_var (i := 0) rfl ((S.par _ (.head _)).imp_right .inl)) (pe_var (i := 1) rfl ((S.par _ (.tail _ (.head _))).imp_right .inl) h1 h2)), ?_⟩
    refine ⟨y, rfl, .ref a, rfl, a, C, rfl, T, hno, .inl ⟨ea, fun dx n ne => q dx n ne⟩⟩
theorem make_ctx {X : Cx} {CX : CXT} {x : Str} {C g0 : Addr} {k : Nat} {fd : FuncData} {ps : List Str} {sp : Sp} {e : Expr} {es : List Expr} {ta : TA} {p pos : Pos} (Tc : OexC X.K C) (ini : PySem.W.findIn X.K (.ref C) "__init__" = some (some (.ref g0)))
    (isf : PySem.W.typeIn X.K (.ref g0) = some (.type "function")) (Fi : FnOk X.prog X.w X.K X.mg X.base CX k g0 fd ps sp) (rm : Room (k + 1) X.A) (bi : Binds X.K fd ps []) (no : Passes CX X (fun _ _ _ => False)) (hg : Gl X x) (gx : X.mg x = some (.ref C))
    (args : PA X (e :: es) ta) (hdb : (x == ("__debug__" : Str)) = false := by decide) (he : starEach (e :: es) X.env = (false, eval e X.env) :: starEach es X.env := by rfl) (hpl : (backTo pos (starEach es X.env)).any (·.1) = false := by rfl) :
    L2N.PMk X (.Call (.Name x p) (e :: es) [] pos) (tMkO C sp [] ta) := by
  intro pn0 s0 τ G Q J want
  obtain ⟨n1, n2, n3, n4, n5, n6, n7, n8, n9, m1, m2, m3, m4, m5, m6, look, refs⟩ := Tc.cls
  refine wpAny_Call_Name_kw (ld_glob J hg gx ?_ hdb)
  refine PySem.W.callWith_K (h₀ := X.base) J.ok.mod.kin Tc.kC (thn (args.run pos pn0 s0 τ G _ J want) ?_) he hpl
  rintro us ⟨hp, gg, dr, tk, os⟩ ⟨vs, G1, J1, r1, few, q1⟩
  refine ⟨J1.kIn, ?_⟩
  show wpAny _ _ (call (.ref C) us) _ _ _
  have up1 : hp.objs.size ≤ hp.objs.size + 1 := Nat.le_succ _
  have free1 : G1 (hp.objs.size + 1) = none := J1.hok.fresh up1
  have sp1 := q1 (hp.objs.size + 1) free1
  generalize eh : (hp.push (PySem.W.kdv_tup us)).push (PySem.HandSPX.excO C hp.objs.size) = hp2
  have kept : ∀ b o, hp.get? b = some o → hp2.get? b = some o := fun b o z => eh ▸ Heap.get?_push_of_some _ (Heap.get?_push_of_some _ z)
  have there : hp2.get? (hp.objs.size + 1) = some (PySem.HandSPX.excO C hp.objs.size) := by
    subst eh
    heap_get
  have J2 : Inv X pn0 τ (upd G1 (hp.objs.size + 1) (exo (hp.objs.size + 1) C none)) ⟨hp2, gg, dr, tk, os⟩ := J1.laid (t' := tk) (o := exo (hp.objs.size + 1) C none) (h' := hp2) kept up1 (exo_ok there)
  have r2 : Vals (V.ref (hp.objs.size + 1) :: (vs ++ [])) (Value.ref (hp.objs.size + 1) :: (us ++ [])) := .cons rfl (r1.append .nil)
  have cnt : (Value.ref (hp.objs.size + 1) :: us ++ []).length = ps.length := (r2.length.symm.trans (Fi.len _ _ _ _ sp1))
  have few2 : us.length ≤ sizeLine := by
    have := Paired.length r1
    rw [sizeLine_eq]
    omega
  have room := rm.make C us []
  have bb := bi _ (Value.ref (hp.objs.size + 1) :: us) J2.kIn cnt
  rw [show Value.ref (hp.objs.size + 1) :: us ++ [] = Value.ref (hp.objs.size + 1) :: (us ++ []) by simp] at bb
  subst eh
  refine wpAny_call (PySem.HandSPX.call_own PySem.F.excBase_ValueError (fun Y => PySem.HandSPX.refsVE_contains Y n5 refs) (J1.kIn _ _ look) (PySem.W.looks_findIn J1.kIn ini) (fun self => PySem.W.bind_fn J1.kIn self isf) few2 (codeAny_mono
    (Fi.run _ X.stack _ _ ⟨Value.ref (hp.objs.size + 1) :: us, []⟩ (Value.ref (hp.objs.size + 1) :: (us ++ [])) _ _ (fun _ _ _ => False) room (J2.env0.make C us []) bb r2 sp1) ?_))
  rintro (er | fl) s' ends
  · exact no pn0 τ _ _ er s' J2 ends
  · cases fl with
    | next => exact ends.elim
    | brk => exact ends.elim
    | cont => exact ends.elim
    | ret u =>
      obtain ⟨v, G2, os2, bare2, un2, hok2, rv, ev, d, fs, ea, ed, hd1, q2⟩ := ends
      subst ev
      obtain ⟨h2, g2, d2, t2, os'⟩ := s'
      obtain ⟨t0, hg0, K0, kG, ge, hoe, na⟩ := mk_end0 (d2 := d2) (t2 := t2) J1 up1 kept un2 hok2 os2 bare2 ea ed hd1
      refine ⟨rv, _, _, _, ⟨hg0, g2, d2, t2, os'⟩, _, .ref C, some d, rfl, K0, kG, ge, hoe, ⟨rfl, rfl, fun ws e => ?_⟩, rfl, rfl, na, rfl, bare2, raises_own Tc.exC Tc.tyC, q2⟩
      cases e
      rfl
def sRaiseF (rm : Nat) (x f : Str) (ds : Exs) : Sd := fun env w => match ds env w with
  | .ok [.dat d] w1 => if 296 ≤ rm then .exc ⟨x, some (f, d)⟩ env w1 else .stuck
  | _ => .stuck
theorem Xt.newU {H F : Hp} {p : Addr} {o : HO} (h : Same F H) (nt : NoTbl F) (hp : H p = none) : Xt H F (upd H p o) F :=
  ⟨same_upd hp, Same.refl _, h.trans (same_upd hp), fun _ _ e => e, nt⟩
section
variable {X : Cx} {T : Tbs} {Wi : WX} {p pos pos' : Pos} {x f : Str} {e : Expr} {ds : Exs} {n : Nat}
theorem js_raiseF (F : XoF X.K X.mg x f) (hc : X.calm = true) (tk : L2N.Takes X Wi) (hr : RoomG n X.A) (hg : Gl X x) (h : JA X T Wi [e] ds) (hdb : (x == ("__debug__" : Str)) = false := by decide)
    (he : starEach [e] X.env = (false, eval e X.env) :: starEach [] X.env := by rfl) (hpl : (backTo pos (starEach [] X.env)).any (·.1) = false := by rfl) :
    JS X T Wi (.Raise (some (.Call (.Name x p) [e] [] pos)) none pos') (sRaiseF (16 * n + 200) x f ds) := by
  obtain ⟨C, fI, fd, qual, params, scope, p0, p1, p2, p3, gC, Tc, iC, tI, FD, S, bd, hno, xf, h1, h2⟩ := F.ex
  by_cases hn : 6 ≤ n
  · have rm : Room 2 X.A := ⟨hr.hd, by have := hr.dp; omega, by have := hr.un; omega⟩
    have F1 : FnOk X.prog X.w X.K X.mg X.base CX0 1 fI fd ["self", f] (spI X.K C f) := init_ok FD S h1 h2
    refine (L2N.ps_raise hc tk (make_ctx Tc iC tI F1 rm bd pass0 hg gC h hdb he hpl)).impD fun D σ H q => ?_
    obtain ⟨B, env, w, F, O, M, s, q⟩ := q
    refine ⟨B, env, w, F, O, M, s, ?_⟩
    unfold sRaiseF at q
    cases ed : ds env w with
    | stuck => rw [ed] at q; exact q.elim
    | exc x' e' w1 => rw [ed] at q; exact q.elim
    | ok rs w1 =>
      rw [ed] at q
      intro vs H1 F1 M1 s1 st1 pr
      match rs, pr, q with
      | [.dat d], pr, q =>
        have q : Pst (if 296 ≤ 16 * n + 200 then (.exc ⟨x, some (f, d)⟩ env w1 : Out Fl) else .stuck) (flG (Cx.tx X T) B F D) (badX (Cx.tx X T) B Wi) := q
        rw [if_pos (by omega)] at q
        cases pr with
        | @cons v _ vs' _ r1 r2 =>
          cases r2
          refine ⟨by simp, fun a ha => ⟨a, v, rfl, Tc, hno, upd_same, fun dx hdx ne => ?_⟩⟩
          have hd0 : H1 dx = none := by rw [upd_ne ne] at hdx; exact hdx
          refine ⟨rfl, dx, [(f, v)], upd_same, by rw [upd_ne ne, upd_same], hd0, ?_⟩
          have eh : upd (del (upd (upd (upd H1 a (exo a C none)) dx (exd dx [(f, v)])) a (exo a C (some dx))) a) dx (.xd [(f, v)]) = upd H1 dx (.xd [(f, v)]) := by
            funext b
            by_cases hb : b = dx
            · rw [hb, upd_same, upd_same]
            · rw [upd_ne hb, upd_ne hb]
              by_cases hba : b = a
              · rw [hba, del_same, ha]
              · rw [del_ne hba, upd_ne hba, upd_ne hb, upd_ne hba]
          rw [eh]
          exact q (.ref C) (some dx) σ _ F1 O M1 (s1.xt (Xt.newU s1.fh s1.nt hd0)) ⟨C, gC, rfl, dx, v, rfl, upd_same, r1⟩
      | [], pr, q => exact q.elim
      | [.fresh _], pr, q => exact q.elim
      | [.bor _ _], pr, q => exact q.elim
      | [.wref _], pr, q => exact q.elim
      | a :: b :: l, pr, q => cases a <;> exact False.elim q
  · refine (js_never (T := T) (Wi := Wi)).impD fun D σ H q => ?_
    obtain ⟨B, env, w, F, O, M, s, q⟩ := q
    refine ⟨B, env, w, F, O, M, s, ?_⟩
    unfold sRaiseF at q
    split at q
    · rw [if_neg (by omega)] at q
      exact q
    · exact q
@[simp] theorem sRaiseF_ap {rm : Nat} {env : Ev} {w : World} : sRaiseF rm x f ds env w = match ds env w with
  | .ok [.dat d] w1 => if 296 ≤ rm then .exc ⟨x, some (f, d)⟩ env w1 else .stuck
  | _ => .stuck := rfl
end
def sTryF (mt : Str → Str → Option Bool) (i : Nat) (d : Ex) (c f : Str) : Sd := fun env w => match d env w with
  | .ok _ w1 => .ok (.nx env) w1
  | .exc x e w1 => (match mt x.cls c with
    | some true => if x.cls = c ∧ i < e.length then (match x.fld with
      | some (g, dv) => if g = f then .ok (.rt (.dat dv)) w1 else .stuck
      | none => .stuck) else .stuck
    | some false => .exc x e w1
    | none => .stuck)
  | .stuck => .stuck
section
variable {X : Cx} {T : Tbs} {Wi : WX} {pos pos1 pos' np p1 p2 p3 : Pos} {e : Expr} {d : Ex} {c f n : Str} {i : Nat} {mt : Str → Str → Option Bool}
@[simp] theorem sTryF_ap {env : Ev} {w : World} : sTryF mt i d c f env w = match d env w with
  | .ok _ w1 => .ok (.nx env) w1
  | .exc x e w1 => (match mt x.cls c with
    | some true => if x.cls = c ∧ i < e.length then (match x.fld with
      | some (g, dv) => if g = f then .ok (.rt (.dat dv)) w1 else .stuck
      | none => .stuck) else .stuck
    | some false => .exc x e w1
    | none => .stuck)
  | .stuck => .stuck := rfl
end
section
variable {X : Cx} {T : Tbs} {Wi : WX} {p pos : Pos} {C : Cs} {n i : Nat} {x : Str}
end
def sTryR (mt : Str → Str → Option Bool) (bd : Sd) (hs : List (Str × Sd)) : Sd := fun env w => match bd env w with
  | .ok f w1 => .ok f w1
  | .exc x e w1 => (match tryGo mt x hs e w1 with
    | .ok (.rt r) w2 => .ok (.rt r) w2
    | .exc x2 e2 w2 => .exc x2 e2 w2
    | _ => .stuck)
  | .stuck => .stuck
section
variable {X : Cx} {T : Tbs} {Wi : WX} {pos : Pos} {body : List Stmt} {bd : Sd} {h₀ : ExceptHandler} {hds : List ExceptHandler} {l : List (Str × Value × Sd)} {mt : Str → Str → Option Bool}
@[simp] theorem sTryR_ap {hs : List (Str × Sd)} {env : Ev} {w : World} : sTryR mt bd hs env w = match bd env w with
  | .ok f w1 => .ok f w1
  | .exc x e w1 => (match tryGo mt x hs e w1 with
    | .ok (.rt r) w2 => .ok (.rt r) w2
    | .exc x2 e2 w2 => .exc x2 e2 w2
    | _ => .stuck)
  | .stuck => .stuck := rfl
end
end Dl
namespace Dl
open PySem PySem.Spec PyProof.Rows L2 NdefX
def unb (D : Ends) (i : Nat) : Ends where
  nx := fun τ G => D.nx (τ.set i none) G
  rt := D.rt
  bk := fun τ G => D.bk (τ.set i none) G
  ct := fun τ G => D.ct (τ.set i none) G
abbrev ClT := Value × Option Nat × (Addr → Value → Option Addr → TS)
def wMx (K : PySem.W.Frag) (Wo : WX) (D : Ends) : List ClT → WX
  | [] => Wo
  | (c, none, t) :: r => fun cls d σ H => ∃ b, PySem.W.exmOne K cls c = some b ∧ (b = true → ∀ a, H a = none → t a cls d D σ H) ∧ (b = false → wMx K Wo D r cls d σ H)
  | (c, some i, t) :: r => fun cls d σ H => ∃ b, PySem.W.exmOne K cls c = some b ∧ (b = true → ∀ a, H a = none → t a cls d (unb D i) (σ.set i (some (.ref a))) H) ∧ (b = false → wMx K Wo D r cls d σ H)
abbrev SuOk (X : Cx) (su : List Stmt) (t : Addr → Value → Option Addr → TS) : Prop := ∀ (a : Addr) (oe : Obj) (cls : Value) (d : Option Addr) (pn : List (Addr × Obj)), L2N.Zn cls d oe → (∃ vs, oe.data = .fields vs) → PSs (X.suite a ((a, oe) :: pn)) su (t a cls d)
inductive HdMx (X : Cx) : List ExceptHandler → List ClT → Prop
  | nil : HdMx X [] []
  | plain {x : Str} {c : Value} {t : Addr → Value → Option Addr → TS} {b₀ : Stmt} {su : List Stmt} {p1 p2 : Pos} {hds : List ExceptHandler} {l : List ClT} (hc : Names X x c) (hsu : SuOk X (b₀ :: su) t) (r : HdMx X hds l) :
      HdMx X (.ExceptHandler (some (.Name x p1)) none (b₀ :: su) p2 :: hds) ((c, none, t) :: l)
  | named {x n : Str} {i : Nat} {c : Value} {t : Addr → Value → Option Addr → TS} {b₀ : Stmt} {su : List Stmt} {p1 p2 : Pos} {hds : List ExceptHandler} {l : List ClT} (hi : X.N[i]? = some n) (hln : X.env.kindOf n = some .local) (hc : Names X x c) (hsu : SuOk X (b₀ :: su) t) (r : HdMx X hds l) :
      HdMx X (.ExceptHandler (some (.Name x p1)) (some n) (b₀ :: su) p2 :: hds) ((c, some i, t) :: l)
section
variable {X : Cx} {body : List Stmt} {h₀ : ExceptHandler} {hds : List ExceptHandler} {l : List ClT} {pos : Pos} {tb : WX → TS} {Wo : WX}
theorem ps_try_mx (hs : X.stack = X.env :: X.outer) (hf : X.env.frame = some X.env.locals) (hN : X.N.Nodup) (tk : L2N.Takes X Wo)
    (hb : ∀ (W : WX) (pn : List (Addr × Obj)) (xe : Value → Shared → Prop), L2N.Takes (X.tr pn xe) W → PassesOwn (model X.prog X.w) X.A X.env xe → PSs (X.tr pn xe) body (tb W)) (hh : HdMx X (h₀ :: hds) l) :
    PS X (.Try body (h₀ :: hds) [] [] pos) (fun D σ H => tb (wMx X.K Wo D l) D σ H) := by
  refine ⟨fun pins s σ H D I hq => ?_⟩
  have k := I.ok
  have fr : X.A.frames = some (X.env :: X.outer) := k.frames.trans (congrArg some hs)
  refine wpAny_Try_except (wpAny_mono ((hb (wMx X.K Wo D l) (X.pn ++ pins) (fun e s₁ => wpAny (model X.prog X.w) X.A (noteFrame e X.env) (fun _ s₂ => wpAny (model X.prog X.w) X.A (setFlight e none) (fun _ s₃ => wpAny (model X.prog X.w) X.A (handleBy e X.env (h₀ :: hds)) (SP X pins D) X.xe s₃) X.xe s₂) X.xe s₁) (fun u z xx => ?_) PassesOwn.looking).run [] s σ H D (I.toTry _) hq) (fun f s1 hsp => ?_) fun e s1 he => he)
  · obtain ⟨a, Bh, sI, ps', τ, G, cls, d, rfl, J', nb, up, sky, na, os, ag, ww⟩ := xx
    have J : Inv X ps' τ G sI ∨ Inv X pins τ G sI := .inr (J'.ofTry k)
    have J : Inv X pins τ G sI := J'.ofTry k
    have sky2 : Sky Bh (X.env :: X.outer) a (L2N.Zn cls d) X.env.locals z.heap := hs ▸ sky
    show wpAny (model X.prog X.w) X.A (noteFrame (.ref a) X.env) _ _ _
    refine L2N.Sky.land L2N.Zn.steady fr hf sky2 fun h3 fl3 up3 => ?_
    have J3 : Inv X pins τ G { z with heap := h3 } := J.landed nb fl3.1 (up.trans up3) os ag
    obtain ⟨oe3, vs3, he3, hz3, hd3⟩ := fl3.there
    have nfr : a ∉ frs (X.env :: X.outer) := fun hm => by
      obtain ⟨_, o', e', hnf⟩ := fl3.2.2.1.mem hm
      rw [he3] at e'
      cases e'
      exact hnf _ hd3
    have nL : a ≠ X.env.locals := fun y => nfr (List.mem_filterMap.mpr ⟨X.env, .head _, by rw [hf, y]⟩)
    have nF : a ∉ X.fs := fun hm => by
      obtain ⟨e, h1, h2⟩ := List.mem_filterMap.mp hm
      exact nfr (List.mem_filterMap.mpr ⟨e, .tail _ h1, h2⟩)
    have S3 := J3.suite he3 hd3 na nL nF
    -- a clause's class is looked at
    have look : ∀ {x : Str} {c : Value} {p1 : Pos} {b : Bool} {Q : Bool → Shared → Prop} {E : Value → Shared → Prop}, Names X x c → PySem.W.exmOne X.K cls c = some b → ∀ (test : ∀ {Q : Value → Shared → Prop} {E : Value → Shared → Prop}, Q c { z with heap := h3 } → wpAny (model X.prog X.w) (X.A.mark (some (.ref a))) (eval (.Name x p1) X.env) Q E { z with heap := h3 }), True := fun _ _ _ => trivial
    have test : ∀ {x : Str} {c : Value} {p1 : Pos} {Q : Value → Shared → Prop} {E : Value → Shared → Prop}, Names X x c → Q c { z with heap := h3 } → wpAny (model X.prog X.w) (X.A.mark (some (.ref a))) (eval (.Name x p1) X.env) Q E { z with heap := h3 } := fun {x c p1 Q E} hc q => by
      obtain ⟨hg, hdbg, hm | ⟨hm, hv, hnn⟩⟩ := hc
      · exact ld_glob (X := X.suite a ((a, oe3) :: (X.pn ++ pins))) S3 hg hm q hdbg
      · exact ld_blt (X := X.suite a ((a, oe3) :: (X.pn ++ pins))) S3 hg hm hv q hnn hdbg
    have LT : PySem.W.Looks (model X.prog X.w) h3 (typeOf (.ref a)) cls := fun A Q E s k q => wpAny_typeOf_ref (k _ _ he3) (by rw [hz3.1]; exact q)
    have go : ∀ {hs2 : List ExceptHandler} {l2 : List ClT}, HdMx X hs2 l2 → wMx X.K Wo D l2 cls d τ G → wpAny (model X.prog X.w) X.A (handleBy (.ref a) X.env hs2) (SP X pins D) X.xe { z with heap := h3 } := by
      intro hs2 l2 hk
      induction hk with
      | nil =>
        intro w2
        refine wpAny_handleBy_nil ?_
        obtain ⟨k1, k2, k3, oe, vs, Tb, oT, ts', he, hz, hd, h1, hr⟩ := id fl3
        unfold PySem.passOn
        refine wpAny_bind (wpAny_field he hd h1 ?_)
        rw [if_neg (show ¬ ((Value.ref Tb == Value.none) = true) from by simp)]
        have fin : wpAny (model X.prog X.w) X.A (setFlight (.ref a) X.env.frame) (fun _ s4 => wpAny (model X.prog X.w) X.A (throw (.ref a) : Sem Flow) (SP X pins D) X.xe s4) X.xe { z with heap := h3 } := hf ▸ HandSPX.setFlight_upZ fl3 fun h4 hh4 up4 => wpAny_throw (tk _ _ ⟨a, Bh, sI, pins, τ, G, cls, d, rfl, J, nb, (up.trans up3).trans up4, .inr (.inr (hs ▸ hh4)), na, os, ag, w2⟩)
        first
          | exact wpAny_bind (wpAny_pure (wpAny_bind fin))
          | exact wpAny_bind fin
      | @plain x c t b₀ su p1 p2 hds2 l2 hc hsu r ih =>
        intro w2
        obtain ⟨b, hb1, hyes, hno⟩ := w2
        refine wpAny_handleBy_cons (codeAny_handlers_test ?_) (by intro q; cases q)
        refine test hc ((PySem.W.exm_one (M := model X.prog X.w) J3.kIn LT hb1).here ?_)
        cases b with
        | true =>
          refine codeAny_handlers_suite (HandSPX.lands_againZ fl3 fun h4 fl4 up4 => ?_)
          have J4 : Inv X pins τ G { z with heap := h4 } := J.landed nb fl4.1 ((up.trans up3).trans up4) os ag
          obtain ⟨oe4, vs4, he4, hz4, hd4⟩ := fl4.there
          refine wpAny_mono ((hsu a oe4 cls d (X.pn ++ pins) hz4 ⟨_, hd4⟩).run [] _ _ G _ (J4.suite he4 hd4 na nL nF) (hyes rfl a na)) (fun f s6 hsp => ?_) fun _ _ y => y.elim
          cases f with
          | ret u => exact hsp.elim fun v6 q => q.elim fun τ6 q => q.elim fun G6 q => ⟨v6, τ6, G6, q.1.unsuite k, q.2⟩
          | next => exact hsp.elim fun τ6 q => q.elim fun G6 q => ⟨τ6, G6, q.1.unsuite k, q.2⟩
          | brk => exact hsp.elim fun τ6 q => q.elim fun G6 q => ⟨τ6, G6, q.1.unsuite k, q.2⟩
          | cont => exact hsp.elim fun τ6 q => q.elim fun G6 q => ⟨τ6, G6, q.1.unsuite k, q.2⟩
        | false => exact ih (hno rfl)
      | @named x n i c t b₀ su p1 p2 hds2 l2 hi hln hc hsu r ih =>
        intro w2
        obtain ⟨b, hb1, hyes, hno⟩ := w2
        refine wpAny_handleBy_cons (codeAny_handlers_test ?_) (by intro q; cases q)
        refine test hc ((PySem.W.exm_one (M := model X.prog X.w) J3.kIn LT hb1).here ?_)
        cases b with
        | true =>
          refine codeAny_handlers_suite_as (HandSPX.lands_againZ fl3 fun h4 fl4 up4 => ?_)
          have J4 : Inv X pins τ G { z with heap := h4 } := J.landed nb fl4.1 ((up.trans up3).trans up4) os ag
          obtain ⟨oe4, vs4, he4, hz4, hd4⟩ := fl4.there
          have S4 := J4.suite he4 hd4 na nL nF
          refine store_ok (X := X.suite a ((a, oe4) :: (X.pn ++ pins))) (v := .ref a) S4 hN hi (show Loc X.env.scope n from .inl hln) rfl (fun s5 S5 => ?_) (.inr hln)
          refine wpAny_mono ((hsu a oe4 cls d (X.pn ++ pins) hz4 ⟨_, hd4⟩).run [] s5 _ G _ S5 (hyes rfl a na)) (fun f s6 hsp => ?_) fun _ _ y => y.elim
          have out : ∀ {τ6 : St} {G6 : Hp} {R : Shared → Prop}, Inv (X.suite a ((a, oe4) :: (X.pn ++ pins))) [] τ6 G6 s6 → (∀ s7, Inv X pins (τ6.set i none) G6 s7 → R s7) → wpAny (model X.prog X.w) X.A (do bindName X.env n .none; unbindBehindTheSuite X.env n p2) (fun _ s7 => R s7) X.xe s6 := fun S6 hq => gone_ok (S6.unsuite k) hN hi hln hq
          cases f with
          | ret u => exact hsp.elim fun v6 q => q.elim fun τ6 q => q.elim fun G6 q => out q.1 fun s7 J7 => ⟨_, _, _, J7, q.2⟩
          | next => exact hsp.elim fun τ6 q => q.elim fun G6 q => out q.1 fun s7 J7 => ⟨_, _, J7, q.2⟩
          | brk => exact hsp.elim fun τ6 q => q.elim fun G6 q => out q.1 fun s7 J7 => ⟨_, _, J7, q.2⟩
          | cont => exact hsp.elim fun τ6 q => q.elim fun G6 q => out q.1 fun s7 J7 => ⟨_, _, J7, q.2⟩
        | false => exact ih (hno rfl)
    exact go hh ww
  · cases f with
    | next => exact hsp.elim fun τ q => q.elim fun G q => wpAny_execs_nil ⟨τ, G, q.1.ofTry k, q.2⟩
    | brk => exact hsp.elim fun τ q => q.elim fun G q => ⟨τ, G, q.1.ofTry k, q.2⟩
    | cont => exact hsp.elim fun τ q => q.elim fun G q => ⟨τ, G, q.1.ofTry k, q.2⟩
    | ret u => exact hsp.elim fun v q => q.elim fun τ q => q.elim fun G q => ⟨v, τ, G, q.1.ofTry k, q.2⟩
end
end Dl
namespace Dl
open PySem PySem.Spec PyProof.Rows L2 NdefX
def noEx (env : Ev) : Bool := env.all fun s => match s with
  | .exn _ => false
  | _ => true
def noOw (env : Ev) : Bool := env.all fun s => match s with
  | .own _ => false
  | _ => true
theorem noEx_at {env : Ev} {i : Nat} {x : Exn} (h : noEx env = true) : env[i]? ≠ some (.exn x) := fun e => by
  have := List.all_eq_true.mp h _ (List.mem_of_getElem? e)
  cases this
theorem noOw_at {env : Ev} {i : Nat} {l : List D} (h : noOw env = true) : env[i]? ≠ some (.own l) := fun e => by
  have := List.all_eq_true.mp h _ (List.mem_of_getElem? e)
  cases this
section
variable {K : PySem.W.Frag} {mg : Str → Option Value} {T U : Tbs} {B : Base} {env : Ev} {w : World} {σ : St} {H F H0 F0 : Hp} {O : Nat → Addr} {M M0 : List Addr}
theorem WRel.chT (h : T.nd = U.nd) (wr : WRel ⟨K, mg, T⟩ F H M w) : WRel ⟨K, mg, U⟩ F H M w := ⟨wr.nd, Paired.mapP wr.at_ fun m o z => ⟨z.1, by
  cases o with
  | lst l => exact z.2
  | clo i caps =>
    obtain ⟨nd, cl, c', e1, e2⟩ := z.2.ex
    exact ⟨nd, cl, c', by rw [← h]; exact e1, e2⟩
  | obj y gs =>
    obtain ⟨C, dx, gs, c, e, p⟩ := ObjAt.ex z.2
    exact ⟨C, dx, gs, c, e, p⟩
  | dic kvs =>
    obtain ⟨gs, e, p⟩ := DicAt.ex z.2
    exact ⟨gs, e, p⟩⟩⟩
theorem SR.chT (h : T.nd = U.nd) (ht : T.tabs = U.tabs) (ne : noEx env = true) (s : SR ⟨K, mg, T⟩ B env w σ H F O M) : SR ⟨K, mg, U⟩ B env w σ H F O M :=
  ⟨s.len, s.fh, s.nt, s.st, s.wr.chT h, by rw [← ht]; exact s.tb, fun i sl e => by
    have z := s.sl i sl e
    cases sl with
    | exn x => exact absurd e (noEx_at ne)
    | un => trivial
    | dat d => exact z
    | own l => exact z
    | wref k => exact z, s.inj⟩
theorem RV.chT {r : RV} {v : V} {Hs : Hp} (h : r.isAt ⟨K, mg, T⟩ Hs env O H F M v) : r.isAt ⟨K, mg, U⟩ Hs env O H F M v := by
  cases r <;> exact h
theorem RetAt.chT {r : RV} {v : V} (h : T.nd = U.nd) (ht : T.tabs = U.tabs) (s : RetAt ⟨K, mg, T⟩ B w H F M v r) : RetAt ⟨K, mg, U⟩ B w H F M v r :=
  ⟨s.st, s.fh, s.nt, s.wr.chT h, by rw [← ht]; exact s.tb, RV.chT s.at_⟩
theorem SR.setEx {X : Tx} {i : Nat} {a : Addr} {cls : Value} {d : Option Addr} {x : Exn} (s : SR X B env w σ H F O M) (he : X.T.ea = some (a, cls, d)) (hx : x.isAt X F H cls d) : SR X B (env.set i (.exn x)) w (σ.set i (some (.ref a))) H F O M := by
  refine ⟨by simpa using s.len, s.fh, s.nt, s.st, s.wr, s.tb, fun j sl e => ?_, fun j k lj lk e1 e2 => ?_⟩
  · by_cases hj : i = j
    · subst hj
      have hlt : i < env.length := by simpa using (List.getElem?_eq_some_iff.mp e).1
      rw [List.getElem?_set_self hlt] at e
      cases e
      exact ⟨a, cls, d, he, by rw [List.getElem?_set_self (by rw [s.len]; exact hlt)], hx⟩
    · rw [List.getElem?_set_ne hj] at e
      have := s.sl j sl e
      rw [List.getElem?_set_ne hj]
      exact this
  · exact s.inj j k lj lk (own_of_set e1 (fun _ z => by cases z)).1 (own_of_set e2 (fun _ z => by cases z)).1
theorem SR.rebase {X : Tx} (s : SR X B env w σ H F O M) (no : noOw env = true) : SR X ⟨H, F, M⟩ env w σ H F O M :=
  ⟨s.len, s.fh, s.nt, .refl, s.wr, s.tb, fun i sl e => by
    have z := s.sl i sl e
    cases sl with
    | own l => exact absurd e (noOw_at no)
    | un => trivial
    | dat d => exact z
    | exn x => exact z
    | wref k => exact z, fun i j li lj e => absurd e (noOw_at no)⟩
theorem SR.unbase {X : Tx} (s : SR X ⟨H0, F0, M0⟩ env w σ H F O M) (st : Stp B.H B.F B.M H0 F0 M0) : SR X B env w σ H F O M :=
  ⟨s.len, s.fh, s.nt, st.trans s.st, s.wr, s.tb, fun i sl e => by
    have z := s.sl i sl e
    cases sl with
    | own l =>
      obtain ⟨e1, e2, e3⟩ := z
      refine ⟨e1, ?_, e3⟩
      cases q : B.H (O i) with
      | none => rfl
      | some o => exact absurd e2 (st.th _ (by rw [q]; simp))
    | un => trivial
    | dat d => exact z
    | exn x => exact z
    | wref k => exact z, s.inj⟩
theorem RetAt.unbase {X : Tx} {r : RV} {v : V} (s : RetAt X ⟨H0, F0, M0⟩ w H F M v r) (st : Stp B.H B.F B.M H0 F0 M0) : RetAt X B w H F M v r :=
  ⟨st.trans s.st, s.fh, s.nt, s.wr, s.tb, RV.since s.at_ st.th⟩
end
def unbF (i : Nat) : Fl → Option Fl
  | .nx e => if noEx (e.set i .un) = true then some (.nx (e.set i .un)) else none
  | .bk e => if noEx (e.set i .un) = true then some (.bk (e.set i .un)) else none
  | .ct e => if noEx (e.set i .un) = true then some (.ct (e.set i .un)) else none
  | .rt r => some (.rt r)
def tryGoM (mt : Str → Str → Option Bool) (x : Exn) : List (Str × Option Nat × Sd) → Sd
  | [], env, w => .exc x env w
  | (c, nm, s) :: r, env, w => match mt x.cls c with
    | some true => (match nm with
      | none => (match s env w with
        | .exc _ _ _ => .stuck
        | o => o)
      | some i => if i < env.length ∧ noEx env = true then (match s (env.set i (.exn x)) w with
        | .ok f w2 => (match unbF i f with
          | some f2 => .ok f2 w2
          | none => .stuck)
        | _ => .stuck) else .stuck)
    | some false => tryGoM mt x r env w
    | none => .stuck
def sTryM (mt : Str → Str → Option Bool) (bd : Sd) (hs : List (Str × Option Nat × Sd)) : Sd := fun env w => if noOw env = true then (match bd env w with
  | .ok f w1 => .ok f w1
  | .exc x e w1 => tryGoM mt x hs e w1
  | .stuck => .stuck) else .stuck
def clT (X : Tx) (nm : Option Nat) (s : Sd) : Addr → Value → Option Addr → TS := match nm with
  | none => fun _ _ _ => tS X noW s
  | some _ => fun a cls d => tS ⟨X.K, X.mg, { X.T with ea := some (a, cls, d) }⟩ noW s
section
variable {X : Cx} {T : Tbs} {Wi : WX} {pos : Pos} {body : List Stmt} {bd : Sd} {h₀ : ExceptHandler} {hds : List ExceptHandler} {l : List (Str × Value × Option Nat × Sd)} {mt : Str → Str → Option Bool}
theorem js_tryM (hs : X.stack = X.env :: X.outer) (hf : X.env.frame = some X.env.locals) (hN : X.N.Nodup) (tk : L2N.Takes X Wi)
    (hb : ∀ (W : WX) (pn : List (Addr × Obj)) (xe : Value → Shared → Prop), L2N.Takes (X.tr pn xe) W → PassesOwn (model X.prog X.w) X.A X.env xe → PSs (X.tr pn xe) body (tS (Cx.tx X T) W bd))
    (hh : HdMx X (h₀ :: hds) (l.map fun p => (p.2.1, p.2.2.1, clT (Cx.tx X T) p.2.2.1 p.2.2.2)))
    (hm : ∀ p ∈ l, ∀ (x : Str) (C : Addr) (b : Bool), X.mg x = some (.ref C) → mt x p.1 = some b → PySem.W.exmOne X.K (.ref C) p.2.1 = some b) :
    JS X T Wi (.Try body (h₀ :: hds) [] [] pos) (sTryM mt bd (l.map fun p => (p.1, p.2.2.1, p.2.2.2))) := by
  refine (ps_try_mx (tb := fun W D σ H => tS (Cx.tx X T) W bd D σ H) hs hf hN tk hb hh).impD fun D σ H q => ?_
  obtain ⟨B, env, w, F, O, M, s, q⟩ := q
  unfold sTryM at q
  split at q
  case isFalse => exact q.elim
  rename_i no
  refine ⟨⟨H, F, M⟩, env, w, F, O, M, s.rebase no, ?_⟩
  -- an end, seen from the def's entry
  have ends : ∀ f w1, flG (Cx.tx X T) B F D f w1 → flG (Cx.tx X T) ⟨H, F, M⟩ F D f w1 := fun f w1 q => by
    cases f with
    | nx e => exact fun σ1 H1 F1 O1 M1 s1 k => q σ1 H1 F1 O1 M1 (s1.unbase s.st) k
    | bk e => exact fun σ1 H1 F1 O1 M1 s1 k => q σ1 H1 F1 O1 M1 (s1.unbase s.st) k
    | ct e => exact fun σ1 H1 F1 O1 M1 s1 k => q σ1 H1 F1 O1 M1 (s1.unbase s.st) k
    | rt r => exact fun v H1 F1 M1 s1 => q v H1 F1 M1 (s1.unbase s.st)
  cases ed : bd env w with
  | stuck => rw [ed] at q; exact q.elim
  | ok r w1 => rw [ed] at q; exact ends r w1 q
  | exc x e' w1 =>
    rw [ed] at q
    dsimp only at q
    intro cls dd σ1 H1 F1 O1 M1 s1 xa
    have sm : Same F F1 := s1.st.fg
    have s1B := s1.unbase s.st
    have go : ∀ l : List (Str × Value × Option Nat × Sd), (∀ p ∈ l, ∀ (x : Str) (C : Addr) (b : Bool), X.mg x = some (.ref C) → mt x p.1 = some b → PySem.W.exmOne X.K (.ref C) p.2.1 = some b) →
        Pst (tryGoM mt x (l.map fun p => (p.1, p.2.2.1, p.2.2.2)) e' w1) (flG (Cx.tx X T) B F D) (badX (Cx.tx X T) B Wi) → wMx X.K Wi D (l.map fun p => (p.2.1, p.2.2.1, clT (Cx.tx X T) p.2.2.1 p.2.2.2)) cls dd σ1 H1 := by
      intro l
      induction l with
      | nil =>
        intro _ q
        exact q cls dd σ1 H1 F1 O1 M1 s1B xa
      | cons p l ih =>
        intro hm q
        obtain ⟨pc, pv, nm, ps⟩ := p
        obtain ⟨C, gC, ec, _⟩ := id xa
        have gC : X.mg x.cls = some (.ref C) := gC
        simp only [List.map_cons, tryGoM] at q
        cases em : mt x.cls pc with
        | none => rw [em] at q; exact q.elim
        | some b =>
          rw [em] at q
          have hb1 : PySem.W.exmOne X.K cls pv = some b := by rw [ec]; exact hm _ (.head _) x.cls C b gC em
          cases nm with
          | none =>
            refine ⟨b, hb1, fun hb a ha => ?_, fun hb => ?_⟩
            · subst hb
              refine ⟨B, e', w1, F1, O1, M1, s1B, ?_⟩
              dsimp only at q ⊢
              cases es : ps e' w1 with
              | stuck => rw [es] at q; exact q.elim
              | exc x2 e2 w2 => rw [es] at q; exact q.elim
              | ok f w2 => rw [es] at q; exact flG.later q sm
            · subst hb
              exact ih (fun p hp => hm p (.tail _ hp)) q
          | some i =>
            refine ⟨b, hb1, fun hb a ha => ?_, fun hb => ?_⟩
            · subst hb
              dsimp only at q
              split at q
              case isFalse => exact q.elim
              rename_i hi
              have s2 : SR ⟨X.K, X.mg, { T with ea := some (a, cls, dd) }⟩ B e' w1 σ1 H1 F1 O1 M1 := SR.chT (T := T) rfl rfl hi.2 s1B
              have s3 := s2.setEx (i := i) (x := x) rfl xa
              refine ⟨B, e'.set i (.exn x), w1, F1, O1, M1, s3, ?_⟩
              dsimp only at q ⊢
              cases es : ps (e'.set i (.exn x)) w1 with
              | stuck => rw [es] at q; exact q.elim
              | exc x2 e2 w2 => rw [es] at q; exact q.elim
              | ok f w2 =>
                rw [es] at q
                have q2 := q
                cases f with
                | rt r => exact fun v H2 F2 M2 r2 => q2 v H2 F2 M2 (RetAt.chT (T := { T with ea := some (a, cls, dd) }) (U := T) rfl rfl r2)
                | nx e2 =>
                  simp only [unbF] at q2
                  split at q2
                  · rename_i f2 ef
                    split at ef
                    · rename_i hn
                      cases ef
                      exact fun σ2 H2 F2 O2 M2 s4 k => q2 _ H2 F2 O2 M2 (SR.chT (T := { T with ea := some (a, cls, dd) }) (U := T) rfl rfl hn s4.setUn) (sm.trans k)
                    · cases ef
                  · exact q2.elim
                | bk e2 =>
                  simp only [unbF] at q2
                  split at q2
                  · rename_i f2 ef
                    split at ef
                    · rename_i hn
                      cases ef
                      exact fun σ2 H2 F2 O2 M2 s4 k => q2 _ H2 F2 O2 M2 (SR.chT (T := { T with ea := some (a, cls, dd) }) (U := T) rfl rfl hn s4.setUn) (sm.trans k)
                    · cases ef
                  · exact q2.elim
                | ct e2 =>
                  simp only [unbF] at q2
                  split at q2
                  · rename_i f2 ef
                    split at ef
                    · rename_i hn
                      cases ef
                      exact fun σ2 H2 F2 O2 M2 s4 k => q2 _ H2 F2 O2 M2 (SR.chT (T := { T with ea := some (a, cls, dd) }) (U := T) rfl rfl hn s4.setUn) (sm.trans k)
                    · cases ef
                  · exact q2.elim
            · subst hb
              exact ih (fun p hp => hm p (.tail _ hp)) q
    exact go l hm q
@[simp] theorem sTryM_ap {hs : List (Str × Option Nat × Sd)} {env : Ev} {w : World} : sTryM mt bd hs env w = if noOw env = true then (match bd env w with
  | .ok f w1 => .ok f w1
  | .exc x e w1 => tryGoM mt x hs e w1
  | .stuck => .stuck) else .stuck := rfl
end
end Dl
namespace Dl
open PySem PySem.Spec PyProof.Rows L2 NdefX
section
open PySem.W PySem.Calls
variable {K : Frag} {x D : Addr} {ox : Obj} {od : Option Obj}
section
variable {prog : Program} {w : PySem.World} {A : Around} {E : Value → Shared → Prop} {s : Shared}
end
end
end Dl
namespace Dl
open PySem PySem.Spec PyProof.Rows L2 NdefX
def dExF (cs : List Str) (i : Nat) (f : Str) : Ex := fun env w => match env[i]? with
  | some (.exn x) => if x.cls ∈ cs then (match x.fld with
    | some (g, d) => if g = f then .ok (.dat d) w else .stuck
    | none => .stuck) else .stuck
  | _ => .stuck
def dExI (tb : List (Str × Str × Bool)) (i : Nat) (y : Str) : Ex := fun env w => match env[i]? with
  | some (.exn x) => (match mtL tb x.cls y with
    | some b => .ok (.dat (.bl b)) w
    | none => .stuck)
  | _ => .stuck
section
variable {X : Cx} {T : Tbs} {Wi : WX} {a : Addr} {oe : Obj} {cls : Value} {d : Option Addr} {pn : List (Addr × Obj)} {p p0 p1 pos : Pos} {n f y : Str} {i : Nat}
theorem ex_slot {B : Base} {env : Ev} {w : World} {σ : St} {H F : Hp} {O : Nat → Addr} {M : List Addr} {x : Exn} (s : SR ⟨X.K, X.mg, T⟩ B env w σ H F O M) (hT : T.ea = some (a, cls, d)) (e : env[i]? = some (.exn x)) :
    σ[i]? = some (some (.ref a)) ∧ ∃ C, X.mg x.cls = some (.ref C) ∧ cls = .ref C ∧ (match x.fld with
      | none => d = none
      | some (g, dv) => ∃ dx v, d = some dx ∧ H dx = some (.xd [(g, v)]) ∧ Rp X.K F v dv) := by
  obtain ⟨a', cls', d', e1, e2, e3⟩ := s.sl i _ e
  have e1 : T.ea = some (a', cls', d') := e1
  rw [hT] at e1
  cases e1
  exact ⟨e2, e3⟩
theorem je_exF {cs : List Str} (hT : T.ea = some (a, cls, d)) (F : ∀ c ∈ cs, XoF X.K X.mg c f) (hz : L2N.Zn cls d oe) (hf : ∃ vs, oe.data = .fields vs) (hv : PE (X.suite a ((a, oe) :: pn)) (.Name n p1) (tVar i))
    (hba : attributeBase (.Name n p1) f (X.suite a ((a, oe) :: pn)).env (eval (.Name n p1) (X.suite a ((a, oe) :: pn)).env) = eval (.Name n p1) (X.suite a ((a, oe) :: pn)).env := by rfl) :
    JE (X.suite a ((a, oe) :: pn)) T Wi (.Attribute (.Name n p1) f pos) (dExF cs i f) := by
  by_cases h : ∃ c ∈ cs, ∃ C, X.mg c = some (.ref C) ∧ cls = .ref C
  · obtain ⟨c, hc, C, gC, ec⟩ := h
    obtain ⟨C', fI, fd, qual, params, scope, _, _, _, _, gC', Tc, iC, tI, FD, S, bd, hno, xf, h1, h2⟩ := (F c hc).ex
    rw [gC] at gC'
    cases gC'
    refine (pe_xf xf hno hz.zc hf hv hba).impD fun σ H Q q => ?_
    obtain ⟨B, env, w, FF, O, M, s, q⟩ := q
    unfold dExF at q
    split at q
    · rename_i x e
      obtain ⟨e1, C2, g2, c2, fl⟩ := ex_slot (X := X) s hT e
      split at q
      · rename_i hx
        split at q
        · rename_i g dv ef
          split at q
          · rename_i hg
            subst hg
            rw [ef] at fl
            obtain ⟨dx, v, k1, k2, k3⟩ := fl
            subst ec
            refine ⟨.ref a, e1, rfl, rfl, dx, [(g, v)], v, k1, k2, by simp [List.lookup], ?_⟩
            exact q v H FF M s .refl k3
          · exact q.elim
        · exact q.elim
      · exact q.elim
    · exact q.elim
  · refine ⟨fun pins s σ H Q I q => ?_⟩
    obtain ⟨B, env, w, FF, O, M, s, q⟩ := q
    exfalso
    unfold dExF at q
    split at q
    · rename_i x e
      obtain ⟨e1, C2, g2, c2, fl⟩ := ex_slot (X := X) s hT e
      split at q
      · rename_i hx
        exact h ⟨x.cls, hx, C2, g2, c2⟩
      · exact q.elim
    · exact q.elim
@[simp] theorem dExF_ap {cs : List Str} {env : Ev} {w : World} : dExF cs i f env w = match env[i]? with
  | some (.exn x) => if x.cls ∈ cs then (match x.fld with
    | some (g, d) => if g = f then .ok (.dat d) w else .stuck
    | none => .stuck) else .stuck
  | _ => .stuck := rfl
@[simp] theorem dExI_ap {tb : List (Str × Str × Bool)} {env : Ev} {w : World} : dExI tb i y env w = match env[i]? with
  | some (.exn x) => (match mtL tb x.cls y with
    | some b => .ok (.dat (.bl b)) w
    | none => .stuck)
  | _ => .stuck := rfl
theorem mt_okG {α : Type} {K : PySem.W.Frag} {mg : Str → Option Value} {tb : List (Str × Str × Bool)} {l : List (Str × Value × α)} (h : ∀ t ∈ tb, XmF K mg t.1 t.2.1 t.2.2) (hg : ∀ p ∈ l, mg p.1 = some p.2.1) :
    ∀ p ∈ l, ∀ (x : Str) (C : Addr) (b : Bool), mg x = some (.ref C) → mtL tb x p.1 = some b → PySem.W.exmOne K (.ref C) p.2.1 = some b := by
  intro p hp
  exact mt_ok (l := [(p.1, p.2.1, sNil)]) h (fun q hq => by rw [List.mem_singleton.mp hq]; exact hg p hp) _ (.head _)
end
end Dl
namespace Dl
open PySem PySem.Spec PyProof.Rows L2 NdefX
theorem takesN {X : Cx} : L2N.Takes X (fun _ _ _ _ => False) := fun _ _ x => by
  obtain ⟨a, B, z, ps, τ, G, c, d, _, _, _, _, _, _, _, _, w⟩ := x
  exact w.elim
section
variable {X : Cx}
end
section
variable {X : Cx} {T : Tbs} {Wi : WX}
end
end Dl
namespace Dl
open PySem PySem.Spec PyProof.Rows L2 NdefX
def dRepL (a b : Ex) : Ex := fun env w => (a env w).bind fun ra w1 => (b env w1).bind fun rb w2 => match ra, rb.val with
  | .fresh l, some (.int k) => if 0 ≤ k ∧ k ≤ 1000 ∧ l.length ≤ 1000 then .ok (.fresh (List.replicate k.toNat l).flatten) w2 else .stuck
  | _, _ => .stuck
section
variable {X : Cx} {T : Tbs} {Wi : WX} {pos : Pos} {a b : Expr} {da db : Ex}
@[simp] theorem dRepL_ap {env : Ev} {w : World} : dRepL da db env w = (da env w).bind fun ra w1 => (db env w1).bind fun rb w2 => match ra, rb.val with
  | .fresh l, some (.int k) => if 0 ≤ k ∧ k ≤ 1000 ∧ l.length ≤ 1000 then .ok (.fresh (List.replicate k.toNat l).flatten) w2 else .stuck
  | _, _ => .stuck := rfl
end
end Dl
namespace Dl
open PySem PySem.Spec PyProof.Rows L2 NdefX
def dDic : Ex := fun _ w => .ok (.dat (.dic [])) w
@[simp] theorem dDic_ap {env : Ev} {w : World} : dDic env w = .ok (.dat (.dic [])) w := rfl
section
variable {X : Cx} {T : Tbs} {Wi : WX} {pos apos : Pos} {e : Expr} {d : Ex}
end
end Dl
namespace Dl
open PySem PySem.Spec PyProof.Rows L2 NdefX
end Dl
namespace Dl
open PySem PySem.Spec PyProof.Rows L2 NdefX
def gGetKD (t : List (Str × D)) (k : Int) : D → Option RV
  | .str z => (match t.lookup z with
    | some (.int i) => some (.dat (.int i))
    | some (.bl i) => some (.dat (.bl i))
    | some _ => none
    | none => some (.dat (.int k)))
  | _ => none
section
variable {X : Cx} {T : Tbs} {Wi : WX} {a f : Expr} {da : Ex} {pos : Pos}
end
end Dl
namespace Dl
open PySem PySem.Spec PyProof.Rows L2 NdefX
def dPairs : List (Str × Ex) → Ev → World → Out (List (Str × Str))
  | [], _, w => .ok [] w
  | (k, e) :: r, env, w => (e env w).bind fun v w1 => match v.val with
    | some (.str s) => (dPairs r env w1).bind fun l w2 => .ok ((k, s) :: l) w2
    | _ => .stuck
def dMap (ps : List (Str × Ex)) : Ex := fun env w => (dPairs ps env w).bind fun l w1 => if (l.map (·.1)).Nodup ∧ l.length ≤ 15 then .ok (.dat (.dic l)) w1 else .stuck
def gGetM (l : List (Str × Str)) (k x : D) : Option RV := match k, x with
  | .str s, .str y => some (.dat (.str ((l.lookup s).getD y)))
  | _, _ => none
@[simp] theorem gGetM_ap (l : List (Str × Str)) (s y : Str) : gGetM l (.str s) (.str y) = some (.dat (.str ((l.lookup s).getD y))) := rfl
def dGetM (a b c : Ex) : Ex := fun env w => (a env w).bind fun ra w1 => match ra.val with
  | some (.dic l) => (b env w1).bind fun rb w2 => (c env w2).bind fun rc w3 => lift (vals2 (gGetM l) rb rc) w3
  | _ => .stuck
section
variable {X : Cx} {T : Tbs} {Wi : WX} {pos apos : Pos}
end
@[simp] theorem dGetM_ap (a b c : Ex) (env : Ev) (w : World) : dGetM a b c env w = (a env w).bind fun ra w1 => match ra.val with
  | some (.dic l) => (b env w1).bind fun rb w2 => (c env w2).bind fun rc w3 => lift (vals2 (gGetM l) rb rc) w3
  | _ => .stuck := rfl
@[simp] theorem dMap_ap (ps : List (Str × Ex)) (env : Ev) (w : World) : dMap ps env w = (dPairs ps env w).bind fun l w1 => if (l.map (·.1)).Nodup ∧ l.length ≤ 15 then .ok (.dat (.dic l)) w1 else .stuck := rfl
@[simp] theorem dPairs_nil (env : Ev) (w : World) : dPairs [] env w = .ok [] w := rfl
@[simp] theorem dPairs_cons (k : Str) (e : Ex) (r : List (Str × Ex)) (env : Ev) (w : World) : dPairs ((k, e) :: r) env w = (e env w).bind fun v w1 => match v.val with
    | some (.str s) => (dPairs r env w1).bind fun l w2 => .ok ((k, s) :: l) w2
    | _ => .stuck := rfl
end Dl
namespace Dl
open PySem PySem.Spec PyProof.Rows L2 NdefX
def dCallSel (C : Cs) (is : List Nat) (ix : Ex) (as : Exs) : Ex := fun env w => (ix env w).bind fun r w1 => match r.val with
  | some (.int k) => (match atI is k with
    | some i => (as env w1).bind fun rs w2 => withEnv env (C.call i rs w2)
    | none => .stuck)
  | _ => .stuck
section
variable {X : Cx} {T : Tbs} {n : Nat} {C : Cs} {Wi : WX} {pos lp sp : Pos} {ix e : Expr} {es fs : List Expr} {is : List Nat} {dix : Ex} {ds : Exs}
def dJoin (sep : Str) (a : Ex) : Ex := fun env w => (a env w).bind fun r w1 => match r.val with
  | some (.lst l) => (match strsOf l with
    | some ys => if (ys.map (·.length)).sum + ys.length * sep.length ≤ 16777216 ∧ PyData.strOk (Txt.join sep ys) = true ∧ (Txt.join sep ys).length ≤ sizeLine then .ok (.dat (.str (Txt.join sep ys))) w1 else .stuck
    | none => .stuck)
  | _ => .stuck
theorem je_join {sep : Str} {j : Nat} {p apos : Pos} {a : Expr} {da : Ex} (h : JE X T Wi a da) (hs : starEach [a] X.env = [(false, eval a X.env)] := by rfl)
    (hbase : attributeBase (.Constant (.str sep) j p) "join" X.env (eval (.Constant (.str sep) j p) X.env) = eval (.Constant (.str sep) j p) X.env := by rfl) (hline : (apos.endLine == pos.line) = true := by rfl) :
    JE X T Wi (.Call (.Attribute (.Constant (.str sep) j p) "join" apos) [a] [] pos) (dJoin sep da) := by
  refine (pe_join pe_str h hs hbase hline).impD fun σ H Q ⟨B, env, w, F, O, M, s, q⟩ => ?_
  refine ⟨⟨_, rfl⟩, B, env, w, F, O, M, s, q.bind.imp fun r w1 q1 y H1 F1 M1 s1 st1 r1 => ?_⟩
  cases ev : r.val with
  | none => rw [ev] at q1; exact q1.elim
  | some d =>
    rw [ev] at q1
    have rr := RV.rv s1 r1 ev
    cases d with
    | lst l =>
      obtain ⟨_, pp, vs, ey, hq, hp⟩ := rr
      cases es : strsOf l with
      | none => simp only [es] at q1; exact q1.elim
      | some ys =>
        simp only [es] at q1
        split at q1
        · rename_i c
          have evs := (strs_at hp es).1
          subst evs
          exact ⟨sep, pp, ys, rfl, by rw [ey], .inl hq, c.1, q1 _ H1 F1 M1 s1 st1 (.str _ c.2)⟩
        · exact q1.elim
    | _ => exact q1.elim
end
@[simp] theorem dCallSel_ap (C : Cs) (is : List Nat) (ix : Ex) (as : Exs) (env : Ev) (w : World) : dCallSel C is ix as env w = (ix env w).bind fun r w1 => match r.val with
  | some (.int k) => (match atI is k with
    | some i => (as env w1).bind fun rs w2 => withEnv env (C.call i rs w2)
    | none => .stuck)
  | _ => .stuck := rfl
@[simp] theorem dJoin_ap (sep : Str) (a : Ex) (env : Ev) (w : World) : dJoin sep a env w = (a env w).bind fun r w1 => match r.val with
  | some (.lst l) => (match strsOf l with
    | some ys => if (ys.map (·.length)).sum + ys.length * sep.length ≤ 16777216 ∧ PyData.strOk (Txt.join sep ys) = true ∧ (Txt.join sep ys).length ≤ sizeLine then .ok (.dat (.str (Txt.join sep ys))) w1 else .stuck
    | none => .stuck)
  | _ => .stuck := rfl
end Dl
namespace Dl
open PySem PySem.Spec PyProof.Rows L2 NdefX
def putO (f : Str) (v : FV) : List (Str × FV) → List (Str × FV)
  | [] => [(f, v)]
  | (g, x) :: r => if g = f then (g, v) :: r else (g, x) :: putO f v r
theorem putO_at {K : PySem.W.Frag} {F : Hp} {M : List Addr} {f : Str} {v : V} {o : FV} (hv : o.isAt K F M v) : ∀ {gs : List (Str × V)} {fs : List (Str × FV)},
    Paired (fun g f => g.1 = f.1 ∧ f.2.isAt K F M g.2) gs fs → Paired (fun g f => g.1 = f.1 ∧ f.2.isAt K F M g.2) (putF f v gs) (putO f o fs)
  | _, _, .nil => .cons ⟨rfl, hv⟩ .nil
  | (g, x) :: gs, (g', y) :: fs, .cons h t => by
    obtain ⟨e, h2⟩ := h
    have e : g = g' := e
    subst e
    show Paired _ (if g = f then (g, v) :: gs else (g, x) :: putF f v gs) (if g = f then (g, o) :: fs else (g, y) :: putO f o fs)
    split
    · exact .cons ⟨rfl, hv⟩ t
    · exact .cons ⟨rfl, h2⟩ (putO_at hv t)
theorem lookO {K : PySem.W.Frag} {F : Hp} {M : List Addr} {f : Str} {d : FV} : ∀ {gs : List (Str × V)} {fs : List (Str × FV)}, Paired (fun g f => g.1 = f.1 ∧ f.2.isAt K F M g.2) gs fs → fs.lookup f = some d → ∃ v, gs.lookup f = some v ∧ d.isAt K F M v
  | _, _, .nil, h => by cases h
  | (g, x) :: gs, (g', y) :: fs, .cons h t, e => by
    obtain ⟨e1, h2⟩ := h
    have e1 : g = g' := e1
    subst e1
    rw [List.lookup_cons] at e ⊢
    split at e
    · cases e
      exact ⟨x, rfl, h2⟩
    · exact lookO t e
theorem keepE_updI {H : Hp} {p C dx : Addr} {gs : List (Str × V)} {o : HO} (e : H p = some (.ins C dx gs)) : KeepE H (upd H p o) := fun a φ q => by
  rw [upd_ne (fun z => by rw [z, e] at q; cases q)]
  exact q
theorem tab_updI {T : List NTab} {H : Hp} {D C dx : Addr} {gs : List (Str × V)} {o : HO} (t : TabsN T H) (e : H D = some (.ins C dx gs)) : TabsN T (upd H D o) := fun p hp => by
  obtain ⟨ps, h1, h2, h3⟩ := t p hp
  have n1 : p.1 ≠ D := ne_of h1 e (by simp)
  refine ⟨ps, by rw [upd_ne n1]; exact h1, h2, fun pos cv hc => ?_⟩
  obtain ⟨c, e1, e2⟩ := h3 pos cv hc
  have n2 : c ≠ D := ne_of e2 e (by unfold LamX.CodeO; simp)
  exact ⟨c, e1, by rw [upd_ne n2]; exact e2⟩
theorem SR.updI {X : Tx} {B : Base} {env : Ev} {w : World} {σ : St} {H F : Hp} {O : Nat → Addr} {M : List Addr} {k : Nat} {m C dx : Addr} {x : Str} {fs fs' : List (Str × FV)} {gs gs' : List (Str × V)} (s : SR X B env w σ H F O M) (e : w[k]? = some (.obj x fs)) (em : M[k]? = some m)
    (c : ObjC X.K X.mg x C) (e5 : H m = some (.ins C dx gs)) (p : Paired (fun g f => g.1 = f.1 ∧ f.2.isAt X.K F M g.2) gs' fs') :
    SR X B env (w.set k (.obj x fs')) σ (upd H m (.ins C dx gs')) F O M := by
  obtain ⟨m', em', hF, _⟩ := s.wr.get e
  rw [em] at em'; cases em'
  have hmM : m ∈ M := List.mem_of_getElem? em
  have ne : ∀ {a : Addr} {o : HO}, H a = some o → a ≠ m → upd H m (.ins C dx gs') a = some o := fun h n => by rw [upd_ne n]; exact h
  have hBm : m ∈ B.M ∨ B.H m = none := by
    obtain ⟨nw, en, hn⟩ := s.st.mw
    rw [en] at hmM
    rcases List.mem_append.mp hmM with z | z
    · exact .inl z
    · exact .inr (hn m z)
  refine ⟨s.len, fun b o q => ?_, s.nt, ⟨s.st.fg, fun a o hM' ht q => ?_, fun a h => ?_, s.st.nf, s.st.mw⟩, ⟨s.wr.nd, ?_⟩, tab_updI s.tb e5, fun j sl e' => ?_, s.inj⟩
  · exact ne (s.fh _ _ q) (fun z => by subst z; rw [hF] at q; cases q)
  · refine ne (s.st.fr a o hM' ht q) (fun z => ?_)
    subst z
    rcases hBm with z | z
    · obtain ⟨φ, rfl⟩ := hM' z
      have q2 := s.st.fr _ _ hM' ht q
      rw [e5] at q2
      cases q2
    · rw [z] at q; cases q
  · by_cases z : a = m
    · subst z; rw [upd_same]; simp
    · rw [upd_ne z]; exact s.st.th a h
  · have stay : ∀ {a : Addr} {o : WO}, a ≠ m → F a = none ∧ WO.isAt X F H M a o → F a = none ∧ WO.isAt X F (upd H m (.ins C dx gs')) M a o := fun {a o} n h1 => by
      refine ⟨h1.1, ?_⟩
      cases o with
      | lst l => obtain ⟨_, ez, us, f1, f2⟩ := h1; exact ⟨ez, us, ne f1 n, f2⟩
      | clo i caps => exact CloAt.keep h1.2 (keepE_updI e5) (Same.refl _) (fun _ _ e => e)
      | obj y gs => exact ObjAt.keep h1.2 (Same.refl _) fun _ _ _ q => ne q n
      | dic kvs => exact DicAt.keep h1.2 (Same.refl _) fun _ q => ne q n
    have rest : ∀ {M' : List Addr} {w' : World}, m ∉ M' → Paired (fun m o => F m = none ∧ WO.isAt X F H M m o) M' w' → Paired (fun b o => F b = none ∧ WO.isAt X F (upd H m (.ins C dx gs')) M b o) M' w' := by
      intro M' w' hn h
      induction h with
      | nil => exact .nil
      | @cons b o _ _ h1 _ ih => exact .cons (stay (fun z => hn (by rw [← z]; exact List.mem_cons_self)) h1) (ih fun z => hn (List.mem_cons_of_mem _ z))
    have go : ∀ {L : List Addr} {w : World} {k : Nat}, L.Nodup → L[k]? = some m → Paired (fun m o => F m = none ∧ WO.isAt X F H M m o) L w → Paired (fun a o => F a = none ∧ WO.isAt X F (upd H m (.ins C dx gs')) M a o) L (w.set k (.obj x fs')) := by
      intro L w k nd hk h
      induction h generalizing k with
      | nil => cases hk
      | @cons a o M' w' h1 ht ih =>
        obtain ⟨nda, nd'⟩ := List.nodup_cons.mp nd
        cases k with
        | zero =>
          simp only [List.getElem?_cons_zero, Option.some.injEq] at hk
          subst hk
          exact .cons ⟨hF, ⟨C, dx, gs', c, upd_same, p⟩⟩ (rest nda ht)
        | succ k =>
          simp only [List.getElem?_cons_succ] at hk
          exact .cons (stay (fun z => nda (by rw [z]; exact List.mem_of_getElem? hk)) h1) (ih nd' hk)
    exact go s.wr.nd em s.wr.at_
  · have h := s.sl j sl e'
    cases sl with
    | un => trivial
    | dat d => exact h
    | own k =>
      obtain ⟨f1, f2, f3, f4, fz, us, f5, f6⟩ := h
      exact ⟨f1, f2, f3, f4, fz, us, ne f5 (fun z => f4 (z ▸ hmM)), f6⟩
    | wref k => exact h
    | exn x => obtain ⟨a, cls, d, e1', e2', e3'⟩ := h; exact ⟨a, cls, d, e1', e2', Exn.keep e3' (Same.refl _) (keepX_upd fun fs z => by rw [e5] at z; cases z)⟩
def RV.fld : RV → FV
  | .dat d => .dat d
  | .wref k => .ref k
  | _ => .un
def sFldO (x : Str) (i : Nat) (f : Str) (e : Ex) : Sd := fun env w => (e env w).bind fun r w1 => match env[i]? with
  | some (.wref k) => (match w1[k]? with
    | some (.obj y fs) => if y = x ∧ fs.length < 900 then .ok (.nx env) (w1.set k (.obj x (putO f r.fld fs))) else .stuck
    | _ => .stuck)
  | _ => .stuck
section
variable {X : Cx} {T : Tbs} {Wi : WX} {pos p p' : Pos} {e : Expr} {d : Ex} {x y f : Str} {i : Nat}
theorem js_fldO (hN : X.N[i]? = some y) (hv : Vis X.env.scope y) (h : JE X T Wi e d) (hno : ∀ C, X.mg x = some (.ref C) → NoAttr X.K C f) (hd : (y == ("__debug__" : Str)) = false := by decide) (hcd : (y == ("__classdict__" : Str)) = false := by decide)
    (hs : swapsWith e (some (.Attribute (.Name y p) f p')) pos.line X.env = pure false := by rfl) : JS X T Wi (.Assign [.Attribute (.Name y p) f p'] e pos) (sFldO x i f d) := by
  refine (ps_fld (pe_var (i := i) hN hv hd hcd) h hs).impD fun D σ H q => ?_
  obtain ⟨B, env, w, F, O, M, s, q⟩ := q
  refine ⟨B, env, w, F, O, M, s, q.bind.imp fun r w1 q1 v H1 F1 M1 s1 st1 r1 => ?_⟩
  split at q1
  case h_2 => exact q1.elim
  rename_i k ek
  split at q1
  case h_2 => exact q1.elim
  rename_i y' fs ew
  split at q1
  case isFalse => exact q1.elim
  rename_i hc
  obtain ⟨rfl, hl⟩ := hc
  obtain ⟨m, em, hslot⟩ := s1.sl i _ ek
  obtain ⟨m', em', hF, ho⟩ := s1.wr.get ew
  rw [em] at em'
  cases em'
  obtain ⟨C, dx, gs, c, e5, pr⟩ := ho.ex
  refine ⟨.ref m, hslot, m, C, dx, gs, rfl, e5, c.cls, hno C c.gl, by have := pr.length; omega, ?_⟩
  refine q1 σ _ F1 O M1 (s1.updI ew em c e5 (putO_at (M := M1) ?_ pr)) st1.fg
  cases r with
  | dat d2 => exact r1
  | fresh l => trivial
  | bor j l => trivial
  | wref j => exact r1
end
theorem RoomG.make {k : Nat} {A : Around} (r : RoomG (k + 1) A) (C : Addr) (us : List Value) (kw : List (Str × Value)) : RoomG k (A.under (.builtin "type.__call__" ⟨.ref C :: us, kw⟩)) :=
  ⟨⟨r.hd, by have := r.dp; rw [make_depth]; omega, by have := r.un; rw [make_units]; omega⟩, r.gd⟩
theorem pe_makeG {X : Cx} {CX : CXT} {k : Nat} {f C : Addr} {fd : FuncData} {ps : List Str} {sp : Sp} {E : L2.St → XK} {x : Str} {p pos : Pos} {e : Expr} {es : List Expr} {t : TA}
    (M : Mk X.K C f) (F : FnG X.prog X.w X.K X.mg X.base CX k f fd ps sp) (hr : (∃ vs H Q E, sp vs H Q E) → RoomG (k + 1) X.A) (hg : Gl X x) (hm : X.mg x = some (.ref C)) (hb : Binds X.K fd ps []) (hx : ∀ σ, PassesAt CX X σ (E σ)) (ha : PA X (e :: es) t)
    (hdb : (x == ("__debug__" : Str)) = false := by decide) (he : starEach (e :: es) X.env = (false, eval e X.env) :: starEach es X.env := by rfl) (hpl : (backTo pos (starEach es X.env)).any (·.1) = false := by rfl) :
    PE X (.Call (.Name x p) (e :: es) [] pos) (fun σ H Q => t σ H fun vs H1 => ∀ a dx, H1 a = none → H1 dx = none → dx ≠ a → sp (.ref a :: vs) (upd (upd H1 dx (.own a)) a (.ins C dx [])) (fun v H2 => v = .non ∧ Q (.ref a) H2) (E σ)) := by
  constructor
  intro pins z σ H Q I q
  apply wpAny_Call_Name_kw (ld_glob I hg hm ?_ hdb)
  apply PySem.W.callWith_K (h₀ := X.base) I.ok.mod.kin M.kp (thn (ha.run pos pins z σ H _ I q) ?_) he hpl
  rintro us z2 ⟨vs, H2, I2, rv, q2⟩
  refine ⟨I2.kIn, ?_⟩
  have q3 := q2 (z2.heap.objs.size + 1) z2.heap.objs.size (I2.hok.fresh (Nat.le_succ _)) (I2.hok.fresh (Nat.le_refl _)) (Nat.ne_of_lt (Nat.lt_succ_self _))
  have I3 := Inv.made (C := C) I2
  have r3 : Vals (V.ref (z2.heap.objs.size + 1) :: vs) (Value.ref (z2.heap.objs.size + 1) :: us) := .cons rfl rv
  have b3 := hb _ (Value.ref (z2.heap.objs.size + 1) :: us) I3.kIn (by rw [List.append_nil, ← r3.length]; exact F.many _ _ _ _ q3)
  rw [List.append_nil] at b3
  refine wpAny_call (make_map (f := f) I2.kIn M.makes M.init (beq_iff_eq.mp M.fn) (codeAny_mono (F.goes _ X.stack _ _ ⟨Value.ref (z2.heap.objs.size + 1) :: us, []⟩ (Value.ref (z2.heap.objs.size + 1) :: us) _ _ (E σ) ((hr ⟨_, _, _, _, q3⟩).make C us []) (I3.env0.make C us []) b3 r3 q3) ?_))
  rintro (er | fl) z3 hq
  · exact hx σ pins _ _ er z3 I3 hq
  · cases fl with
    | next => exact False.elim hq
    | brk => exact False.elim hq
    | cont => exact False.elim hq
    | ret u =>
      obtain ⟨v, H4, I4, r4, ev, q4⟩ := I3.after hq
      subst ev
      exact ⟨r4, ⟨V.ref (z2.heap.objs.size + 1), H4, I4, rfl, q4⟩⟩
theorem RoomG.mono {j k : Nat} {A : Around} (r : RoomG k A) (h : j ≤ k) : RoomG j A := ⟨⟨r.hd, by have := r.dp; omega, by have := r.un; omega⟩, r.gd⟩
structure MakD (P : Program) (w : PySem.World) (K : PySem.W.Frag) (mg : Str → Option Value) (base : Heap) (T : Tbs) (C : Cs) (n : Nat) (x : Str) (wi : Nat) : Prop where
  ex : ∃ (Ca f : Addr) (fd : FuncData) (ps : List Str), ObjC K mg x Ca ∧ Mk K Ca f ∧ Binds K fd ps [] ∧ ((∀ rs w, C.call wi rs w = .stuck) ∨ ∃ (m : Nat) (g : List RV → World → Out RV), m + 1 ≤ n ∧ FnG P w K mg base (L2N.CX P w) m f fd ps (spD ⟨K, mg, T⟩ g) ∧
    (∀ rs w r w', C.call wi rs w = .ok r w' → g rs w = .ok r w') ∧ (∀ rs w e v w', C.call wi rs w = .exc e v w' → g rs w = .exc e v w'))
def bLow2 (i : Nat) (C : Cs) : Sd := fun env w => match env with
  | [.wref k, .dat d] => (C.call i [.wref k, .dat d] w).bind fun r w1 => .ok (.rt r) w1
  | _ => .stuck
theorem mak_zero {P : Program} {w : PySem.World} {K : PySem.W.Frag} {mg : Str → Option Value} {base : Heap} {T : Tbs} {tbl : Nat → Option DefB} {x : Str} {wi : Nat} {Ca f : Addr} {fd : FuncData} {ps : List Str} (oc : ObjC K mg x Ca) (mk : Mk K Ca f) (hb : Binds K fd ps []) : MakD P w K mg base T (Den tbl 0) 0 x wi := ⟨Ca, f, fd, ps, oc, mk, hb, .inl fun _ _ => rfl⟩
theorem low2_of {tbl : Nat → Option DefB} {n wi i : Nat} (ht : tbl wi = some ⟨2, 2, bLow2 i⟩) {rs : List RV} {w : World} : (Den tbl (n + 1)).call wi rs w = .stuck ∨ ∃ k d, rs = [.wref k, .dat d] ∧ (Den tbl (n + 1)).call wi rs w = (Den tbl n).call i rs w := by
  rw [den_succ ht]
  unfold runB
  split
  case isFalse => exact .inl rfl
  rename_i hl
  match rs, hl with
  | [a, b], _ =>
    have go : ∀ a b, (endR (bLow2 i (Den tbl n) (initE [a, b] 2) w) = .stuck) ∨ ∃ k d, [a, b] = [RV.wref k, RV.dat d] ∧ endR (bLow2 i (Den tbl n) (initE [a, b] 2) w) = (Den tbl n).call i [a, b] w := by
      intro a b
      cases a with
      | wref k =>
        cases b with
        | dat d =>
          refine .inr ⟨k, d, rfl, ?_⟩
          show endR (((Den tbl n).call i [.wref k, .dat d] w).bind fun r w1 => .ok (.rt r) w1) = _
          cases (Den tbl n).call i [.wref k, .dat d] w <;> rfl
        | fresh l => exact .inl rfl
        | bor i l => exact .inl rfl
        | wref j => exact .inl rfl
      | dat d => exact .inl rfl
      | fresh l => exact .inl rfl
      | bor i l => exact .inl rfl
    exact go a b
theorem mak_succ {P : Program} {w : PySem.World} {K : PySem.W.Frag} {mg : Str → Option Value} {base : Heap} {T : Tbs} {tbl : Nat → Option DefB} {x : Str} {wi i n : Nat} {Ca f : Addr} {fd : FuncData} {ps : List Str} (ht : tbl wi = some ⟨2, 2, bLow2 i⟩)
    (oc : ObjC K mg x Ca) (mk : Mk K Ca f) (hb : Binds K fd ps []) (F : FnG P w K mg base (L2N.CX P w) n f fd ps (spD ⟨K, mg, T⟩ ((Den tbl n).call i))) : MakD P w K mg base T (Den tbl (n + 1)) (n + 1) x wi := by
  refine ⟨Ca, f, fd, ps, oc, mk, hb, .inr ⟨n, (Den tbl n).call i, Nat.le_refl _, F, fun rs w r w' e => ?_, fun rs w r v w' e => ?_⟩⟩
  · rcases low2_of (n := n) (rs := rs) (w := w) ht with z | ⟨k, d, _, z⟩
    · rw [z] at e; cases e
    · rw [← z]; exact e
  · rcases low2_of (n := n) (rs := rs) (w := w) ht with z | ⟨k, d, _, z⟩
    · rw [z] at e; cases e
    · rw [← z]; exact e
def dMake (C : Cs) (x : Str) (i : Nat) (as : Exs) : Ex := fun env w => (as env w).bind fun rs w1 => match C.call i (.wref w1.length :: rs) (w1 ++ [.obj x []]) with
  | .ok (.dat .non) w2 => .ok (.wref w1.length) w2
  | .exc e _ w2 => .exc e env w2
  | _ => .stuck
theorem argAt.more {X : Tx} {F : Hp} {M nw : List Addr} {v : V} {r : RV} (h : argAt X F M v r) : argAt X F (M ++ nw) v r := by
  cases r with
  | dat d => exact h
  | wref k => obtain ⟨m, e1, e2⟩ := h; exact ⟨m, mem_of_pfx rfl e1, e2⟩
  | fresh l => exact h
  | bor i l => exact h
section
variable {X : Cx} {T : Tbs} {Wi : WX} {pos p : Pos} {e : Expr} {es : List Expr} {ds : Exs} {C : Cs} {n i : Nat} {x : Str}
theorem je_make (c : MakD X.prog X.w X.K X.mg X.base T C n x i) (hr : RoomG n X.A) (tk : L2N.Takes X Wi) (hg : Gl X x) (h : JA X T Wi (e :: es) ds) (hdb : (x == ("__debug__" : Str)) = false := by decide)
    (he : starEach (e :: es) X.env = (false, eval e X.env) :: starEach es X.env := by rfl) (hpl : (backTo pos (starEach es X.env)).any (·.1) = false := by rfl) : JE X T Wi (.Call (.Name x p) (e :: es) [] pos) (dMake C x i ds) := by
  obtain ⟨Ca, f, fd, ps, oc, mk, hb, stuck | ⟨m, g, hmn, F, ok, ex⟩⟩ := c.ex
  · refine (pe_makeG (k := 0) (E := fun _ _ _ _ => False) (CX := L2N.CX X.prog X.w) mk (⟨fun _ _ _ _ h => h.elim, fun _ _ _ _ _ _ _ _ _ _ _ _ _ h => h.elim⟩ : FnG X.prog X.w X.K X.mg X.base (L2N.CX X.prog X.w) 0 f fd ps (fun _ _ _ _ => False)) (fun ⟨_, _, _, _, h⟩ => h.elim) hg oc.gl hb (fun σ => L2N.passAt (takesN (X := X)) σ) h hdb he hpl).impD fun σ H Q q => ?_
    obtain ⟨B, env, w, F0, O, M, s, q⟩ := q
    refine ⟨B, env, w, F0, O, M, s, q.bind.imp fun rs w1 q1 vs H1 F1 M1 s1 st1 p1 a dx ha hdx hne => ?_⟩
    rw [stuck] at q1
    exact q1.elim
  refine (pe_makeG mk F (fun _ => hr.mono hmn) hg oc.gl hb (fun σ => L2N.passAt tk σ) h hdb he hpl).impD fun σ H Q q => ?_
  obtain ⟨B, env, w, F0, O, M, s, q⟩ := q
  refine ⟨B, env, w, F0, O, M, s, q.bind.imp fun rs w1 q1 vs H1 F1 M1 s1 st1 p1 a dx ha hdx hne => ?_⟩
  have hl : M1.length = w1.length := s1.wr.at_.length
  have n2 : upd H1 dx (.own a) a = none := by rw [upd_ne (Ne.symm hne)]; exact ha
  have sm : Same H1 (upd (upd H1 dx (.own a)) a (.ins Ca dx [])) := (same_upd hdx).trans (same_upd n2)
  have xt : Xt H1 F1 (upd (upd H1 dx (.own a)) a (.ins Ca dx [])) F1 := ⟨sm, Same.refl _, s1.fh.trans sm, fun _ _ z => z, s1.nt⟩
  have aM : a ∉ M1 := fun z => s1.wr.there z ha
  have aF : F1 a = none := s1.fh.free ha
  have s2 := s1.xt xt
  generalize eH : upd (upd H1 dx (.own a)) a (.ins Ca dx []) = H2 at *
  have hat : H2 a = some (.ins Ca dx []) := by rw [← eH]; exact upd_same
  have wr2 : WRel (Cx.tx X T) F1 H2 (M1 ++ [a]) (w1 ++ [.obj x []]) := ⟨List.nodup_append.mpr ⟨s1.wr.nd, by simp, fun b hb' c hc z => by
    rw [List.mem_singleton.mp hc] at z
    exact aM (z ▸ hb')⟩, Pr.append (Paired.mapP s2.wr.at_ fun _ _ h => ⟨h.1, WO.more h.2 fun _ _ h => mem_of_pfx rfl h⟩) (.cons ⟨aF, ⟨Ca, dx, [], oc, hat, .nil⟩⟩ .nil)⟩
  have st2 : Stp H1 F1 M1 H2 F1 (M1 ++ [a]) := ⟨Same.refl _, fun b o _ _ z => sm b o z, fun b z z' => z (sm.free z'), fun _ _ z => z, [a], rfl, fun m hm => by rw [List.mem_singleton.mp hm]; exact ha⟩
  have s3 := s1.step st2 s2.fh s2.nt wr2 s2.tb
  have ak : (M1 ++ [a])[w1.length]? = some a := by rw [← hl]; simp
  refine ⟨F1, M1 ++ [a], .wref w1.length :: rs, w1 ++ [.obj x []], s2.fh, s2.nt, wr2, s2.tb, .cons ⟨a, ak, rfl⟩ (Paired.mapP p1 fun v r hvr => argAt.more hvr), ?_⟩
  cases ec : C.call i (.wref w1.length :: rs) (w1 ++ [.obj x []]) with
  | stuck => rw [ec] at q1; exact q1.elim
  | ok r w2 =>
    rw [ec] at q1
    rw [ok _ _ _ _ ec]
    intro v H4 F4 M4 fh nt wr tb st4 r4
    split at q1
    · rename_i e1
      cases e1
      cases r4
      obtain ⟨nw, en, _⟩ := id st4.mw
      exact ⟨rfl, q1 _ H4 F4 M4 (s3.step st4 fh nt wr tb) ((st1.trans st2).trans st4) ⟨a, mem_of_pfx en ak, rfl⟩⟩
    · rename_i e1
      cases e1
    · exact q1.elim
  | exc x' env' w2 =>
    rw [ec] at q1
    rw [ex _ _ _ _ _ ec]
    intro cls d' H4 F4 M4 fh nt wr tb st4 r4
    exact q1 cls d' σ H4 F4 O M4 (s3.step st4 fh nt wr tb) r4
end
def obB (K : PySem.W.Frag) (x : Str) (fs : List Str) : Bool :=
  PySem.W.plainGet K (He.ga K x) Str.empty && (PySem.W.hasDictIn K (He.ga K x) && (PySem.W.plainOver K (He.ga K x) && (decide (PySem.W.findIn K (.ref (He.ga K x)) "__setattr__" = some (some (.builtin "object.__setattr__"))) &&
    (PySem.W.makesIn K (He.ga K x) && (decide (PySem.W.findIn K (.ref (He.ga K x)) "__init__" = some (some (.ref (He.ma K (He.ga K x) "__init__")))) && (PySem.W.isFn K (.ref (He.ma K (He.ga K x) "__init__")) && (PySem.W.keepIn K (.ref (He.ga K x)) &&
    (decide (PySem.W.findIn K (.ref (He.ga K x)) "__class__" = some (some (.builtin "object.__class__"))) && (decide (PySem.W.specialIn K (.builtin "object.__class__") "__get__" = some (some (.builtin "getset_descriptor.__get__"))) &&
    (decide (PySem.W.takesIn K (.builtin "object.__class__") = some true) && (decide (PySem.W.mroIn K (He.ga K x) (.type "object") = some true) &&
    ((["int", "bool", "str", "tuple", "list", "dict"].all fun t => decide (PySem.W.kitOne K (.ref (He.ga K x)) (.type t) = some false)) && (fs.all fun f => decide (PySem.W.findIn K (.ref (He.ga K x)) f = some none))))))))))))))
theorem ob_of {K : PySem.W.Frag} {mg : Str → Option Value} {x : Str} {fs : List Str} (gx : mg x = some (.ref (He.ga K x))) (c : obB K x fs = true) :
    ObjC K mg x (He.ga K x) ∧ Mk K (He.ga K x) (He.ma K (He.ga K x) "__init__") ∧ ∀ f ∈ fs, ∀ C, mg x = some (.ref C) → NoAttr K C f := by
  unfold obB at c
  simp only [Bool.and_eq_true, decide_eq_true_eq, List.all_eq_true] at c
  obtain ⟨c1, c2, c3, c4, c5, c6, c7, c8, c9, c10, c11, c12, c13, c14⟩ := c
  refine ⟨⟨gx, ⟨c1, c2, c3, c4⟩, c9, c10, c11, c12, fun t ht => ?_⟩, ⟨c5, c6, c7, c8⟩, fun f hf C e => ?_⟩
  · have := c13 t (by simpa using ht)
    simpa using this
  · rw [gx] at e
    cases e
    exact c14 f hf
structure IniD (P : Program) (w : PySem.World) (K : PySem.W.Frag) (mg : Str → Option Value) (base : Heap) (T : Tbs) (C : Cs) (n : Nat) (x : Str) (i : Nat) : Prop where
  ex : ∃ (Ca f : Addr) (fd : FuncData) (ps : List Str), ObjC K mg x Ca ∧ Mk K Ca f ∧ Binds K fd ps [] ∧ FnG P w K mg base (L2N.CX P w) n f fd ps (spD ⟨K, mg, T⟩ (C.call i))
theorem IniD.mak {P : Program} {w : PySem.World} {K : PySem.W.Frag} {mg : Str → Option Value} {base : Heap} {T : Tbs} {tbl : Nat → Option DefB} {x : Str} {wi i n : Nat} (d : IniD P w K mg base T (Den tbl n) n x i) (ht : tbl wi = some ⟨2, 2, bLow2 i⟩) : MakD P w K mg base T (Den tbl (n + 1)) (n + 1) x wi := by
  obtain ⟨Ca, f, fd, ps, oc, mk, hb, F⟩ := d.ex
  exact mak_succ ht oc mk hb F
end Dl
namespace Dl
open PySem PySem.Spec PyProof.Rows L2 NdefX
namespace K24
def top (i : Nat) : Stmt := PySem.Challenge.pw_sealedplans_k24_whole_places_of_wrong_si.main.body.getD i (.Pass ⟨0, 0, 0, 0⟩)
def fnH : List He.DefD := [⟨("read", none), "read", "read", defArgs (top 7), defBody (top 7), defScope (top 7), [], []⟩, ⟨("_law_tape", none), "_law_tape", "_law_tape", defArgs (top 9), defBody (top 9), defScope (top 9), [], []⟩, ⟨("_law_pick", none), "_law_pick", "_law_pick", defArgs (top 10), defBody (top 10), defScope (top 10), [], []⟩, ⟨("_law_drawn", none), "_law_drawn", "_law_drawn", defArgs (top 11), defBody (top 11), defScope (top 11), [], []⟩, ⟨("_law_tree", none), "_law_tree", "_law_tree", defArgs (top 14), defBody (top 14), defScope (top 14), [], []⟩, ⟨("_law_written", none), "_law_written", "_law_written", defArgs (top 15), defBody (top 15), defScope (top 15), [], []⟩, ⟨("_law_piece", none), "_law_piece", "_law_piece", defArgs (top 16), defBody (top 16), defScope (top 16), [], []⟩, ⟨("_law_spoiled", none), "_law_spoiled", "_law_spoiled", defArgs (top 17), defBody (top 17), defScope (top 17), [], []⟩, ⟨("_law_drawn_text", none), "_law_drawn_text", "_law_drawn_text", defArgs (top 18), defBody (top 18), defScope (top 18), [], []⟩, ⟨("_law_place", none), "_law_place", "_law_place", defArgs (top 19), defBody (top 19), defScope (top 19), [], []⟩, ⟨("_law_begins", none), "_law_begins", "_law_begins", defArgs (top 20), defBody (top 20), defScope (top 20), [], []⟩, ⟨("law", none), "law", "law", defArgs (top 21), defBody (top 21), defScope (top 21), [], []⟩, ⟨("Reader", some "sign"), "sign", "Reader.sign", defArgs (clsAt 1 (top 6)), defBody (clsAt 1 (top 6)), defScope (clsAt 1 (top 6)), [], []⟩, ⟨("Reader", some "take"), "take", "Reader.take", defArgs (clsAt 2 (top 6)), defBody (clsAt 2 (top 6)), defScope (clsAt 2 (top 6)), [], []⟩, ⟨("Reader", some "number"), "number", "Reader.number", defArgs (clsAt 3 (top 6)), defBody (clsAt 3 (top 6)), defScope (clsAt 3 (top 6)), [], []⟩, ⟨("Reader", some "word"), "word", "Reader.word", defArgs (clsAt 4 (top 6)), defBody (clsAt 4 (top 6)), defScope (clsAt 4 (top 6)), [], []⟩, ⟨("Reader", some "mark"), "mark", "Reader.mark", defArgs (clsAt 5 (top 6)), defBody (clsAt 5 (top 6)), defScope (clsAt 5 (top 6)), [], []⟩, ⟨("Reader", some "whole"), "whole", "Reader.whole", defArgs (clsAt 6 (top 6)), defBody (clsAt 6 (top 6)), defScope (clsAt 6 (top 6)), [], []⟩, ⟨("Reader", some "item"), "item", "Reader.item", defArgs (clsAt 7 (top 6)), defBody (clsAt 7 (top 6)), defScope (clsAt 7 (top 6)), [], []⟩, ⟨("Reader", some "part"), "part", "Reader.part", defArgs (clsAt 8 (top 6)), defBody (clsAt 8 (top 6)), defScope (clsAt 8 (top 6)), [], []⟩, ⟨("Reader", some "body"), "body", "Reader.body", defArgs (clsAt 9 (top 6)), defBody (clsAt 9 (top 6)), defScope (clsAt 9 (top 6)), [], []⟩, ⟨("Reader", some "__init__"), "__init__", "Reader.__init__", defArgs (clsAt 0 (top 6)), defBody (clsAt 0 (top 6)), defScope (clsAt 0 (top 6)), [], []⟩, ⟨("BadText", some "__init__"), "__init__", "BadText.__init__", defArgs (clsAt 0 (top 2)), defBody (clsAt 0 (top 2)), defScope (clsAt 0 (top 2)), [], []⟩]
def faH : List He.Fa := [.glo "read", .glo "_law_tape", .glo "_law_pick", .glo "_law_drawn", .glo "_law_tree", .glo "_law_written", .glo "_law_piece", .glo "_law_spoiled", .glo "_law_drawn_text", .glo "_law_place", .glo "_law_begins", .glo "law", .glo "Reader", .meth "Reader" "sign", .meth "Reader" "take", .meth "Reader" "number", .meth "Reader" "word", .meth "Reader" "mark", .meth "Reader" "whole", .meth "Reader" "item", .meth "Reader" "part", .meth "Reader" "body", .free "bool", .free "int", .free "isinstance", .free "len", .free "list", .free "range", .free "str", .free "tuple", .int "MOST_FIGURES" 60, .int "MOST_LETTERS" 8, .glo "BadText", .exm "BadText" "BadText" true]
def tsH : List He.Tab := []
def exH (K : PySem.W.Frag) : Bool := xoB K "BadText" "place" && obB K "Reader" ["signs", "at"]
abbrev R : PySem.W.OpenRow := PySem.W.OpenLaw.row PySem.Challenge.rw_sealedplans_k24_whole_places_of_wrong_si
abbrev hkH : PySem.W.Hook := hookX 4 faH fnH tsH exH
def obH (s : PySem.W.SharedT) : AlX := obsXG 4 faH fnH tsH exH (HandSHeadRun.getT s)
theorem obH_eq (s : PySem.W.SharedT) : obH s = hkH.obs s.abs := obsXG_eq (HandSHeadRun.getT_eq s)
def loose0 : List Str := ["PlanError", "BadText", "MOST_LETTERS", "MOST_FIGURES", "Reader", "read", "_law_tape", "_law_pick", "_law_drawn", "_law_labels", "_law_doors", "_law_tree", "_law_written", "_law_piece", "_law_spoiled", "_law_drawn_text", "_law_place", "_law_begins"]
abbrev looseH : List Str := loose0
theorem runHf (w : PySem.World) : HandSHeadRun.RunEq R (PySem.W.view R.prog [21]) hkH obH 6000 looseH (w.withFollow "special-get-raises" false) := by
  intro os
  kernel_rfl
theorem runHt (w : PySem.World) : HandSHeadRun.RunEq R (PySem.W.view R.prog [21]) hkH obH 6000 looseH (w.withFollow "special-get-raises" true) := by
  intro os
  kernel_rfl
theorem runH (w : PySem.World) : HandSHeadRun.RunEq R (PySem.W.view R.prog [21]) hkH obH 6000 looseH w :=
  PySem.W.byRow2 "special-get-raises" (P := fun w => HandSHeadRun.RunEq R (PySem.W.view R.prog [21]) hkH obH 6000 looseH w) runHf runHt w
end K24
end Dl
namespace Dl
open PySem PySem.Spec PyProof.Rows L2 NdefX
section
variable {X : Cx} {T : Tbs} {Wi : WX}
def sFrz (i : Nat) (b : Sd) : Sd := fun env w => match env[i]? with
  | some (.own l) => b (env.set i (.dat (.lst l))) w
  | _ => b env w
@[simp] theorem sFrz_ap {i : Nat} {b : Sd} {env : Ev} {w : World} : sFrz i b env w = (match env[i]? with
  | some (.own l) => b (env.set i (.dat (.lst l))) w
  | _ => b env w) := rfl
def sAppPop (i j : Nat) (e : Ex) : Sd := fun env w => match env[i]?, env[j]? with
  | some (.own l), some (.own k) => if i = j then .stuck else (e env w).bind fun r w1 => (match r with
    | .dat (.int n) => (match (if 0 ≤ n then k[n.toNat]? else none) with
      | some d => if l.length < 16777216 then .ok (.nx ((env.set j (.own (k.eraseIdx n.toNat))).set i (.own (l ++ [d])))) w1 else .stuck
      | none => .stuck)
    | _ => .stuck)
  | _, _ => .stuck
@[simp] theorem sAppPop_ap {i j : Nat} {e : Ex} {env : Ev} {w : World} : sAppPop i j e env w = (match env[i]?, env[j]? with
  | some (.own l), some (.own k) => if i = j then .stuck else (e env w).bind fun r w1 => (match r with
    | .dat (.int n) => (match (if 0 ≤ n then k[n.toNat]? else none) with
      | some d => if l.length < 16777216 then .ok (.nx ((env.set j (.own (k.eraseIdx n.toNat))).set i (.own (l ++ [d])))) w1 else .stuck
      | none => .stuck)
    | _ => .stuck)
  | _, _ => .stuck) := rfl
end
end Dl
namespace Dl
open PySem PySem.Spec PyProof.Rows L2 NdefX
open SrtO (Swo Srtd Stb lt2 eqv AllL Cmp)
section
variable {α β : Type} {lt : α → α → Bool}
end
def insK {β : Type} (x : PyData × β) : List (PyData × β) → List (PyData × β)
  | [] => [x]
  | y :: r => if tokLt y.1 x.1 = true then y :: insK x r else x :: y :: r
def sortK {β : Type} : List (PyData × β) → List (PyData × β)
  | [] => []
  | x :: l => insK x (sortK l)
section
variable {X : Cx} {pins : List (Addr × Obj)} {σ : L2.St} {H : Hp} {s : Shared} {P : PySem.Fin → Shared → Prop} {vs : List V} {its : List Value}
end
end Dl
namespace Dl
open PySem PySem.Spec PyProof.Rows L2 NdefX
section
variable {X : Cx} {pins : List (Addr × Obj)} {σ : L2.St} {H : Hp} {s : Shared} {vs : List V} {its : List Value} {Q : VK}
end
end Dl
namespace Dl
open PySem PySem.Spec PyProof.Rows L2 NdefX
open LamX (CodeO Tabs TabB ExtN inv_table among_app codeO_ne)
def bLow (i : Nat) (C : Cs) : Sd := fun env w => match env with
  | [.dat d] => (C.call i [.dat d] w).bind fun r w1 => .ok (.rt r) w1
  | _ => .stuck
section
variable {P : Program} {w : PySem.World} {K : PySem.W.Frag} {mg : Str → Option Value} {base : Heap} {T : Tbs} {n wi i : Nat} {nd : ND} {tbl : Nat → Option DefB}
end
def keysK (C : Cs) (wi : Nat) : List D → World → Out (List D)
  | [], w => .ok [] w
  | d :: l, w => match C.call wi [.dat d] w with
    | .ok (.dat k) w1 => (match keysK C wi l w1 with
      | .ok ks w2 => .ok (k :: ks) w2
      | _ => .stuck)
    | _ => .stuck
def keysFit (rm : Nat) (ks : List D) : Bool := (ks.all fun k => keyP k.py) && (ks.all fun a => ks.all fun b => (pLt a.py b.py).isSome) && decide (D.depL ks + 2 ≤ rm)
def sortD (ks l : List D) : List D := (sortK ((D.pyAll ks).zip l)).map (·.2)
def dSortKey (C : Cs) (wi : Nat) (e : Ex) : Ex := fun env w => (e env w).bind fun r w1 => match r.arg with
  | some (.dat (.lst l)) => (match keysK C wi l w1 with
    | .ok ks w2 => if keysFit C.room ks = true then .ok (.fresh (sortD ks l)) w2 else .stuck
    | _ => .stuck)
  | some (.dat (.tup l)) => (match keysK C wi l w1 with
    | .ok ks w2 => if keysFit C.room ks = true then .ok (.fresh (sortD ks l)) w2 else .stuck
    | _ => .stuck)
  | _ => .stuck
section
variable {X : Cx} {T : Tbs} {Wi : WX} {pins : List (Addr × Obj)} {σ : St} {H : Hp} {s : Shared}
end
end Dl
namespace PySem
open Sem (wp)
end PySem
namespace Dl
open PySem PySem.Spec PyProof.Rows L2 NdefX
def enumD : Nat → List D → List D
  | _, [] => []
  | k, d :: l => .tup [.int k, d] :: enumD (k + 1) l
def iEnumD (e : Ex) : Src := fun env w => (e env w).bind fun r w1 => match r.its with
  | some l => .ok (enumD 0 l) w1
  | none => .stuck
@[simp] theorem iEnumD_ap {e : Ex} {env : Ev} {w : World} : iEnumD e env w = (e env w).bind fun r w1 => match r.its with
  | some l => .ok (enumD 0 l) w1
  | none => .stuck := rfl
section
variable {X : Cx} {T : Tbs} {Wi : WX} {e : Expr} {d : Ex} {p pos tpos : Pos} {elts : List Expr} {kk : Nat}
def dIndexS (e a : Ex) : Ex := fun env w => (e env w).bind fun r w1 => match r.arg with
  | some (.dat (.lst l)) => (match strsOf l with
    | some ss => (a env w1).bind fun ra w2 => (match ra with
      | .dat (.str z) => (match ss.findIdx? (· == z) with
        | some j => .ok (.dat (.int (j : Nat))) w2
        | none => .stuck)
      | _ => .stuck)
    | none => .stuck)
  | _ => .stuck
@[simp] theorem dIndexS_ap {e a : Ex} {env : Ev} {w : World} : dIndexS e a env w = (e env w).bind fun r w1 => match r.arg with
  | some (.dat (.lst l)) => (match strsOf l with
    | some ss => (a env w1).bind fun ra w2 => (match ra with
      | .dat (.str z) => (match ss.findIdx? (· == z) with
        | some j => .ok (.dat (.int (j : Nat))) w2
        | none => .stuck)
      | _ => .stuck)
    | none => .stuck)
  | _ => .stuck := rfl
end
end Dl
namespace Dl
open PySem PySem.Spec PyProof.Rows L2 NdefX
@[simp] theorem dSortKey_ap {C : Cs} {wi : Nat} {e : Ex} {env : Ev} {w : World} : dSortKey C wi e env w = (e env w).bind fun r w1 => match r.arg with
  | some (.dat (.lst l)) => (match keysK C wi l w1 with
    | .ok ks w2 => if keysFit C.room ks = true then .ok (.fresh (sortD ks l)) w2 else .stuck
    | _ => .stuck)
  | some (.dat (.tup l)) => (match keysK C wi l w1 with
    | .ok ks w2 => if keysFit C.room ks = true then .ok (.fresh (sortD ks l)) w2 else .stuck
    | _ => .stuck)
  | _ => .stuck := rfl
end Dl
namespace Dl
open PySem PySem.Spec PyProof.Rows L2 NdefX
def FV.rv : FV → Option RV
  | .dat d => some (.dat d)
  | .ref k => some (.wref k)
  | .un => none
def fldK (x f : Str) (r : RV) (w : World) : Out RV := match r with
  | .wref k => (match w[k]? with
    | some (.obj y fs) => if y = x then (match fs.lookup f with
      | some v => lift v.rv w
      | none => .stuck) else .stuck
    | _ => .stuck)
  | _ => .stuck
def dFld (x f : Str) (e : Ex) : Ex := fun env w => (e env w).bind (fldK x f)
theorem at_obj {X : Tx} {B : Base} {env : Ev} {w : World} {σ : St} {H F : Hp} {O : Nat → Addr} {M : List Addr} {k : Nat} {x : Str} {fs : List (Str × FV)} {m : Addr} (s : SR X B env w σ H F O M) (ew : w[k]? = some (.obj x fs)) (em : M[k]? = some m) :
    F m = none ∧ ∃ (C dx : Addr) (gs : List (Str × V)), ObjC X.K X.mg x C ∧ H m = some (.ins C dx gs) ∧ Paired (fun g f => g.1 = f.1 ∧ f.2.isAt X.K F M g.2) gs fs := by
  obtain ⟨m', em', hF, ho⟩ := s.wr.get ew
  rw [em] at em'
  cases em'
  exact ⟨hF, ObjAt.ex ho⟩
section
variable {X : Cx} {T : Tbs} {Wi : WX} {pos p p' : Pos} {e : Expr} {d : Ex} {x y f : Str} {i : Nat}
theorem je_fld (h : JE X T Wi e d) (hno : ∀ C, X.mg x = some (.ref C) → NoAttr X.K C f) (hb : attributeBase e f X.env (eval e X.env) = eval e X.env := by rfl) : JE X T Wi (.Attribute e f pos) (dFld x f d) := by
  refine (pe_fld h hb).impD fun σ H Q q => ?_
  obtain ⟨B, env, w, F, O, M, s, q⟩ := q
  refine ⟨B, env, w, F, O, M, s, q.bind.imp fun r w1 q1 v H1 F1 M1 s1 st1 r1 => ?_⟩
  unfold fldK at q1
  split at q1
  case h_2 => exact q1.elim
  rename_i k
  split at q1
  case h_2 => exact q1.elim
  rename_i y fs ew
  split at q1
  case isFalse => exact q1.elim
  rename_i ey
  subst ey
  split at q1
  case h_2 => exact q1.elim
  rename_i fv el
  obtain ⟨m, em, ev⟩ := r1
  subst ev
  obtain ⟨hF, C, dx, gs, c, e5, pr⟩ := at_obj s1 ew em
  obtain ⟨v', e6, at_⟩ := lookO pr el
  obtain ⟨rv, e7, q3⟩ := q1.lift
  refine ⟨m, C, dx, gs, v', rfl, e5, c.cls, hno C c.gl, e6, q3 v' H1 F1 M1 s1 st1 ?_⟩
  cases fv with
  | un => cases e7
  | dat d => cases e7; exact at_
  | ref j => cases e7; exact at_
end
def sFldAug (x : Str) (i : Nat) (f : Str) (g : D → D → Option RV) (e : Ex) : Sd := fun env w => match env[i]? with
  | some (.wref k) => (match w[k]? with
    | some (.obj y fs) => if y = x then (match fs.lookup f with
      | some (.dat d0) => (e env w).bind fun r w1 => (match r.val with
        | some d1 => (match g d0 d1 with
          | some (.dat d2) => (match w1[k]? with
            | some (.obj y' fs') => if y' = x ∧ fs'.length < 900 then .ok (.nx env) (w1.set k (.obj x (putO f (.dat d2) fs'))) else .stuck
            | _ => .stuck)
          | _ => .stuck)
        | none => .stuck)
      | _ => .stuck) else .stuck
    | _ => .stuck)
  | _ => .stuck
theorem cls_one {K : PySem.W.Frag} {mg : Str → Option Value} {x : Str} {C C' : Addr} (a : ObjC K mg x C) (b : ObjC K mg x C') : C = C' := by
  have := a.gl.symm.trans b.gl
  injection this with h
  injection h
section
variable {X : Cx} {T : Tbs} {Wi : WX} {pos p p' : Pos} {e : Expr} {d : Ex} {x y f : Str} {i : Nat}
theorem js_fldAug {op : Operator} {g : D → D → Option RV} (hN : X.N[i]? = some y) (hv : Vis X.env.scope y) (hop : OpS X (inplaceOp op) g) (h : JE X T Wi e d) (hno : ∀ C, X.mg x = some (.ref C) → NoAttr X.K C f) (hd : (y == ("__debug__" : Str)) = false := by decide) (hcd : (y == ("__classdict__" : Str)) = false := by decide) :
    JS X T Wi (.AugAssign (.Attribute (.Name y p) f p') op e pos) (sFldAug x i f g d) := by
  obtain ⟨r, ho, hr⟩ := hop
  refine (ps_fldaug (pe_var (i := i) hN hv hd hcd) h (fun pins s σ H x y u v Q I rx ry q => ho pins s σ H x y u v Q I rx ry q : InOp X op r)).impD fun D σ H q => ?_
  obtain ⟨B, env, w, F, O, M, s, q⟩ := q
  unfold sFldAug at q
  split at q
  case h_2 => exact q.elim
  rename_i k ek
  split at q
  case h_2 => exact q.elim
  rename_i y' fs ew
  split at q
  case isFalse => exact q.elim
  rename_i ey
  subst ey
  split at q
  case h_2 => exact q.elim
  rename_i d0 el
  obtain ⟨m, em, hslot⟩ := s.sl i _ ek
  obtain ⟨hF, C, dx, gs, c, e5, pr⟩ := at_obj s ew em
  obtain ⟨v0, e6, at0⟩ := lookO pr el
  refine ⟨.ref m, hslot, m, C, dx, gs, v0, rfl, e5, c.cls, hno C c.gl, e6, B, env, w, F, O, M, s, q.bind.imp fun r w1 q1 v H1 F1 M1 s1 st1 r1 => ?_⟩
  split at q1
  case h_2 => exact q1.elim
  rename_i d1 ev
  split at q1
  case h_2 => exact q1.elim
  rename_i d2 eg
  split at q1
  case h_2 => exact q1.elim
  rename_i y2 fs2 ew2
  split at q1
  case isFalse => exact q1.elim
  rename_i hc
  obtain ⟨rfl, hl⟩ := hc
  have at0' : Rp X.K F v0 d0 := at0
  refine hr v0 v d0 d1 (.dat d2) H1 F1 s1.fh s1.nt ((Rp.mono st1.fg _ _ at0').rv s1.fh) (RV.rv s1 r1 ev) eg _ fun z H2 F2 xt nw => ?_
  have s2 := s1.xt xt
  obtain ⟨nw1, en, _⟩ := id st1.mw
  have em1 : M1[k]? = some m := mem_of_pfx en em
  obtain ⟨hF2, C2, dx2, gs2, c2, e52, pr2⟩ := at_obj s2 ew2 em1
  obtain rfl := cls_one c c2
  have hd2 : FV.isAt X.K F2 M1 z (.dat d2) := nw
  refine ⟨dx2, gs2, e52, by have := pr2.length; omega, ?_⟩
  exact q1 σ _ F2 O M1 (s2.updI ew2 em1 c e52 (putO_at (M := M1) hd2 pr2)) (st1.fg.trans xt.ff)
end
def sSetO (i : Nat) (e : Ex) : Sd := fun env w => (e env w).bind fun r w1 => match r with
  | .wref k => .ok (.nx (env.set i (.wref k))) w1
  | _ => .stuck
section
variable {X : Cx} {T : Tbs} {Wi : WX} {pos : Pos} {e : Expr} {d : Ex}
theorem js_setO {i : Nat} {x : Str} {pos' : Pos} (hN : X.N.Nodup) (hi : X.N[i]? = some x) (hx : Loc X.env.scope x) (h : JE X T Wi e d) (hs : swapsWith e (some (.Name x pos')) pos.line X.env = pure false := by rfl)
    (hf : X.fn x = true ∨ X.env.scope.names.lookup x = some .local := by first | exact .inl rfl | exact .inr rfl | assumption) : JS X T Wi (.Assign [.Name x pos'] e pos) (sSetO i d) := by
  refine (ps_set hN hi hx h hs hf).impD fun D σ H q => ?_
  obtain ⟨B, env, w, F, O, M, s, q⟩ := q
  refine ⟨B, env, w, F, O, M, s, q.bind.imp fun r w1 q1 v H1 F1 M1 s1 st1 r1 => ?_⟩
  cases r with
  | dat d => exact q1.elim
  | fresh l => exact q1.elim
  | bor i l => exact q1.elim
  | wref k =>
    obtain ⟨m, em, ev⟩ := r1
    subst ev
    exact q1 _ H1 F1 O M1 (s1.setRef em) st1.fg
end
structure MthD (P : Program) (w : PySem.World) (K : PySem.W.Frag) (mg : Str → Option Value) (base : Heap) (T : Tbs) (C : Cs) (n : Nat) (x m : Str) (i : Nat) : Prop where
  ex : ∃ (Ca f : Addr) (fd : FuncData) (ps : List Str), ObjC K mg x Ca ∧ Meth K Ca m f ∧ Binds K fd ps [] ∧ FnG P w K mg base (L2N.CX P w) n f fd ps (spD ⟨K, mg, T⟩ (C.call i))
def hasM (x m : Str) (r : RV) (w : World) : Bool := match r with
  | .wref k => (match w[k]? with
    | some (.obj y fs) => decide (y = x) && (fs.lookup m).isNone
    | _ => false)
  | _ => false
def dMeth (C : Cs) (x m : Str) (i : Nat) (e : Ex) (as : Exs) : Ex := fun env w => (e env w).bind fun r w1 => if hasM x m r w1 = true then (as env w1).bind fun rs w2 => withEnv env (C.call i (r :: rs) w2) else .stuck
def tMethS (C : Addr) (m : Str) (sp : Sp) (E : L2.St → XK) (ta : TE) (t : TA) : TE := fun σ H Q => ta σ H fun x H1 => ∃ a dx fs, x = .ref a ∧ H1 a = some (.ins C dx fs) ∧ fs.lookup m = none ∧
  t σ H1 fun vs H2 => sp (x :: vs) H2 Q (E σ)
section
variable {X : Cx} {CX : CXT} {k : Nat} {f C : Addr} {fd : FuncData} {ps : List Str} {sp : Sp} {E : L2.St → XK} {m : Str} {apos pos : Pos} {e o : Expr} {es : List Expr} {ta : TE} {t : TA}
theorem run_fnG {pins : List (Addr × Obj)} {σ : St} {H : Hp} {s : Shared} {Q : VK} {us : List Value} {vs : List V} (F : FnG X.prog X.w X.K X.mg X.base CX k f fd ps sp) (hr : RoomG k X.A) (hb : Binds X.K fd ps []) (hx : ∀ σ, PassesAt CX X σ (E σ))
    (I : Inv X pins σ H s) (r : Vals vs us) (h : sp vs H Q (E σ)) : wpAny (model X.prog X.w) X.A (call (.ref f) us) (EP X pins σ Q) X.xe s := by
  have b := hb s us I.kIn (by rw [List.append_nil, ← r.length]; exact F.many _ _ _ _ h)
  rw [List.append_nil] at b
  refine wpAny_call (codeAny_mono (F.goes X.A X.stack s H ⟨us, []⟩ us vs Q (E σ) hr I.env0 b r h) ?_)
  rintro (e | fl) s3 hq
  · exact hx σ pins H s e s3 I hq
  · cases fl <;> first | exact I.after hq | exact False.elim hq
theorem pe_methG {pl : Sem Bool} (he : PE X o ta) (c : Cls X.K C) (hm : Meth X.K C m f) (F : FnG X.prog X.w X.K X.mg X.base CX k f fd ps sp) (hr : RoomG k X.A) (hb : Binds X.K fd ps []) (hx : ∀ σ, PassesAt CX X σ (E σ)) (ha : PA X (e :: es) t)
    (hst : starEach (e :: es) X.env = (false, eval e X.env) :: starEach es X.env := by rfl) (hpl : (backTo pos (starEach es X.env)).any (·.1) = false := by rfl)
    (ht : eval (.Call (.Attribute o m apos) (e :: es) [] pos) X.env = (do
      let ov ← eval o X.env
      standAt apos.atName
      let (f, first) ← holding [ov] (getMethod ov m pl)
      callWith pos f first (backTo pos (starEach (e :: es) X.env)) (backToKw pos (keywordEach [] X.env))) := by rfl) :
    PE X (.Call (.Attribute o m apos) (e :: es) [] pos) (tMethS C m sp E ta t) := by
  refine ⟨fun pins s σ H Q I h => ?_⟩
  refine PySem.W.methodCall_KW (pl := pl) (thn (he.run pins s σ H _ I h) fun u s1 ⟨x, H1, I1, rx, a, dx, fs, ex, ea, l, q⟩ => ?_) ht
  subst ex
  obtain rfl : u = Value.ref a := rx
  refine getmeth_ok I1 ea c hm l ?_
  refine PySem.W.callWith_K (first := [.ref a]) (h₀ := X.base) I.ok.mod.kin hm.kp (thn (ha.run pos pins s1 σ H1 _ I1 q) fun us s2 ⟨vs, H2, I2, r, q2⟩ => ⟨I2.kIn, ?_⟩) hst hpl
  exact run_fnG (us := .ref a :: us) (vs := .ref a :: vs) F hr hb hx I2 (.cons rfl r) q2
theorem pe_methG0 {pl : Sem Bool} (he : PE X o ta) (c : Cls X.K C) (hm : Meth X.K C m f) (F : FnG X.prog X.w X.K X.mg X.base CX k f fd ps sp) (hr : RoomG k X.A) (hb : Binds X.K fd ps []) (hx : ∀ σ, PassesAt CX X σ (E σ))
    (ht : eval (.Call (.Attribute o m apos) [] [] pos) X.env = (do
      let ov ← eval o X.env
      standAt apos.atName
      let (f, first) ← holding [ov] (getMethod ov m pl)
      callWith pos f first (backTo pos (starEach [] X.env)) (backToKw pos (keywordEach [] X.env))) := by rfl) :
    PE X (.Call (.Attribute o m apos) [] [] pos) (tMethS C m sp E ta tNil) := by
  refine ⟨fun pins s σ H Q I h => ?_⟩
  refine PySem.W.methodCall_KW (pl := pl) (thn (he.run pins s σ H _ I h) fun u s1 ⟨x, H1, I1, rx, a, dx, fs, ex, ea, l, q⟩ => ?_) ht
  subst ex
  obtain rfl : u = Value.ref a := rx
  refine getmeth_ok I1 ea c hm l ?_
  exact PySem.W.callWith_K0 (first := [.ref a]) I1.kIn hm.kp (run_fnG (us := [.ref a]) (vs := [.ref a]) F hr hb hx I1 (.cons rfl .nil) q)
end
theorem lookO_none {K : PySem.W.Frag} {F : Hp} {M : List Addr} {f : Str} : ∀ {gs : List (Str × V)} {fs : List (Str × FV)}, Paired (fun g f => g.1 = f.1 ∧ f.2.isAt K F M g.2) gs fs → fs.lookup f = none → gs.lookup f = none
  | _, _, .nil, _ => rfl
  | (g, x) :: gs, (g', y) :: fs, .cons h t, e => by
    obtain ⟨e1, h2⟩ := h
    have e1 : g = g' := e1
    subst e1
    rw [List.lookup_cons] at e ⊢
    split at e
    · cases e
    · exact lookO_none t e
section
variable {X : Cx} {T : Tbs} {Wi : WX} {pos apos : Pos} {o e : Expr} {es : List Expr} {d : Ex} {ds : Exs} {C : Cs} {n i : Nat} {x m : Str}
theorem meth_read {Ca : Addr} {H : Hp} {F : Hp} {env : Ev} {w1 : World} {B : Base} {σ : St} {O : Nat → Addr} {M1 : List Addr} {r : RV} {v : V} {Hs : Hp} (s1 : SR (Cx.tx X T) B env w1 σ H F O M1) (r1 : r.isAt (Cx.tx X T) Hs env O H F M1 v) (hm : hasM x m r w1 = true) (oc : ObjC X.K X.mg x Ca) :
    ∃ k a dx gs, r = .wref k ∧ M1[k]? = some a ∧ v = .ref a ∧ H a = some (.ins Ca dx gs) ∧ gs.lookup m = none := by
  unfold hasM at hm
  split at hm
  case h_2 => cases hm
  rename_i k
  split at hm
  case h_2 => cases hm
  rename_i y fs ew
  rw [Bool.and_eq_true, decide_eq_true_eq, Option.isNone_iff_eq_none] at hm
  obtain ⟨rfl, hl⟩ := hm
  obtain ⟨a, em, ev⟩ := r1
  obtain ⟨_, C2, dx, gs, c2, e5, pr⟩ := at_obj s1 ew em
  obtain rfl := cls_one oc c2
  exact ⟨k, a, dx, gs, rfl, em, ev, e5, lookO_none pr hl⟩
theorem je_meth {pl : Sem Bool} (c : MthD X.prog X.w X.K X.mg X.base T C n x m i) (hr : RoomG n X.A) (tk : L2N.Takes X Wi) (h : JE X T Wi o d) (ha : JA X T Wi (e :: es) ds)
    (hst : starEach (e :: es) X.env = (false, eval e X.env) :: starEach es X.env := by rfl) (hpl : (backTo pos (starEach es X.env)).any (·.1) = false := by rfl)
    (ht : eval (.Call (.Attribute o m apos) (e :: es) [] pos) X.env = (do
      let ov ← eval o X.env
      standAt apos.atName
      let (f, first) ← holding [ov] (getMethod ov m pl)
      callWith pos f first (backTo pos (starEach (e :: es) X.env)) (backToKw pos (keywordEach [] X.env))) := by rfl) : JE X T Wi (.Call (.Attribute o m apos) (e :: es) [] pos) (dMeth C x m i d ds) := by
  obtain ⟨Ca, f, fd, ps, oc, mt, hb, F⟩ := c.ex
  refine (pe_methG (pl := pl) h oc.cls mt F hr hb (fun σ => L2N.passAt tk σ) ha hst hpl ht).impD fun σ H Q q => ?_
  obtain ⟨B, env, w, F, O, M, s, q⟩ := q
  refine ⟨B, env, w, F, O, M, s, q.bind.imp fun r w1 q1 v H1 F1 M1 s1 st1 r1 => ?_⟩
  split at q1
  case isFalse => exact q1.elim
  rename_i hm
  obtain ⟨k, a, dx, gs, rfl, em, rfl, e5, hl⟩ := meth_read s1 r1 hm oc
  refine ⟨a, dx, gs, rfl, e5, hl, B, env, w1, F1, O, M1, s1, q1.bind.imp fun rs w2 q2 vs H2 F2 M2 s2 st2 p2 => ?_⟩
  obtain ⟨nw, en, _⟩ := id st2.mw
  refine ⟨F2, M2, .wref k :: rs, w2, s2.fh, s2.nt, s2.wr, s2.tb, .cons ⟨a, mem_of_pfx en em, rfl⟩ p2, ?_⟩
  cases ec : C.call i (.wref k :: rs) w2 with
  | stuck => rw [ec] at q2; exact q2.elim
  | ok r w3 =>
    rw [ec] at q2
    intro v H3 F3 M3 fh nt wr tb st3 r3
    exact q2 v H3 F3 M3 (s2.step st3 fh nt wr tb) ((st1.trans st2).trans st3) (RV.since (isAt_nil r3) (st1.trans st2).th)
  | exc x' env' w3 =>
    rw [ec] at q2
    intro cls d' H3 F3 M3 fh nt wr tb st3 r3
    exact q2 cls d' σ H3 F3 O M3 (s2.step st3 fh nt wr tb) r3
theorem je_meth0 {pl : Sem Bool} (c : MthD X.prog X.w X.K X.mg X.base T C n x m i) (hr : RoomG n X.A) (tk : L2N.Takes X Wi) (h : JE X T Wi o d)
    (ht : eval (.Call (.Attribute o m apos) [] [] pos) X.env = (do
      let ov ← eval o X.env
      standAt apos.atName
      let (f, first) ← holding [ov] (getMethod ov m pl)
      callWith pos f first (backTo pos (starEach [] X.env)) (backToKw pos (keywordEach [] X.env))) := by rfl) : JE X T Wi (.Call (.Attribute o m apos) [] [] pos) (dMeth C x m i d aNil) := by
  obtain ⟨Ca, f, fd, ps, oc, mt, hb, F⟩ := c.ex
  refine (pe_methG0 (pl := pl) h oc.cls mt F hr hb (fun σ => L2N.passAt tk σ) ht).impD fun σ H Q q => ?_
  obtain ⟨B, env, w, F, O, M, s, q⟩ := q
  refine ⟨B, env, w, F, O, M, s, q.bind.imp fun r w1 q1 v H1 F1 M1 s1 st1 r1 => ?_⟩
  split at q1
  case isFalse => exact q1.elim
  rename_i hm
  obtain ⟨k, a, dx, gs, rfl, em, rfl, e5, hl⟩ := meth_read s1 r1 hm oc
  refine ⟨a, dx, gs, rfl, e5, hl, ?_⟩
  have q2 : Pst (withEnv env (C.call i [.wref k] w1)) _ _ := q1
  refine ⟨F1, M1, [.wref k], w1, s1.fh, s1.nt, s1.wr, s1.tb, .cons ⟨a, em, rfl⟩ .nil, ?_⟩
  cases ec : C.call i [.wref k] w1 with
  | stuck => rw [ec] at q2; exact q2.elim
  | ok r w3 =>
    rw [ec] at q2
    intro v H3 F3 M3 fh nt wr tb st3 r3
    exact q2 v H3 F3 M3 (s1.step st3 fh nt wr tb) (st1.trans st3) (RV.since (isAt_nil r3) st1.th)
  | exc x' env' w3 =>
    rw [ec] at q2
    intro cls d' H3 F3 M3 fh nt wr tb st3 r3
    exact q2 cls d' σ H3 F3 O M3 (s1.step st3 fh nt wr tb) r3
end
theorem mth_zero {P : Program} {w : PySem.World} {K : PySem.W.Frag} {mg : Str → Option Value} {base : Heap} {T : Tbs} {tbl : Nat → Option DefB} {x m : Str} {i : Nat} {Ca f : Addr} {fd : FuncData} {ps : List Str} (oc : ObjC K mg x Ca) (mt : Meth K Ca m f) (hb : Binds K fd ps []) : MthD P w K mg base T (Den tbl 0) 0 x m i := ⟨Ca, f, fd, ps, oc, mt, hb, def_zero⟩
@[simp] theorem dFld_ap {x f : Str} {e : Ex} {env : Ev} {w : World} : dFld x f e env w = (e env w).bind (fldK x f) := rfl
@[simp] theorem sSetO_ap {i : Nat} {e : Ex} {env : Ev} {w : World} : sSetO i e env w = (e env w).bind fun r w1 => match r with
  | .wref k => .ok (.nx (env.set i (.wref k))) w1
  | _ => .stuck := rfl
@[simp] theorem dMeth_ap {C : Cs} {x m : Str} {i : Nat} {e : Ex} {as : Exs} {env : Ev} {w : World} : dMeth C x m i e as env w = (e env w).bind fun r w1 => if hasM x m r w1 = true then (as env w1).bind fun rs w2 => withEnv env (C.call i (r :: rs) w2) else .stuck := rfl
end Dl
namespace Dl
open PySem PySem.Spec PyProof.Rows L2 NdefX
section
open PySem.Sem (wp)
variable {prog : Program} {w : PySem.World} {A : Around} {E : Value → Shared → Prop} {s : Shared}
end
section
variable {X : Cx}
end
def dJoinRev (sep : Str) (a : Ex) : Ex := fun env w => (a env w).bind fun r w1 => match r.val with
  | some (.lst l) => (match strsOf l with
    | some ys => if (ys.map (·.length)).sum + ys.length * sep.length ≤ 16777216 ∧ PyData.strOk (Txt.join sep ys.reverse) = true ∧ (Txt.join sep ys.reverse).length ≤ sizeLine then .ok (.dat (.str (Txt.join sep ys.reverse))) w1 else .stuck
    | none => .stuck)
  | _ => .stuck
section
variable {X : Cx} {T : Tbs} {Wi : WX} {pos p2 pos2 apos : Pos}
end
@[simp] theorem dJoinRev_ap (sep : Str) (a : Ex) (env : Ev) (w : World) : dJoinRev sep a env w = (a env w).bind fun r w1 => match r.val with
  | some (.lst l) => (match strsOf l with
    | some ys => if (ys.map (·.length)).sum + ys.length * sep.length ≤ 16777216 ∧ PyData.strOk (Txt.join sep ys.reverse) = true ∧ (Txt.join sep ys.reverse).length ≤ sizeLine then .ok (.dat (.str (Txt.join sep ys.reverse))) w1 else .stuck
    | none => .stuck)
  | _ => .stuck := rfl
def cDivmod : List D → Option RV
  | [.int i, .int j] => if 0 < j ∧ Builtin.Int.intBits i ≤ Builtin.Int.intBits j + 4000 then some (.dat (.tup [.int (i / j), .int (i % j)])) else none
  | _ => none
def cStrI : List D → Option RV
  | [.int i] => if i.natAbs.log2 < 1920 ∧ PyData.strOk (Str.ofString (toString i)) = true ∧ (Str.ofString (toString i)).length ≤ sizeLine then some (.dat (.str (Str.ofString (toString i)))) else none
  | _ => none
def cIntT : List D → Option RV
  | [.str a] => if a.length ≤ 640 then (PySem.intText? a).map fun n => .dat (.int n) else none
  | _ => none
def gZfill (k : Int) : D → Option RV
  | .str a => if PadOk k = true ∧ PyData.strOk (Txt.zfill a k) = true ∧ (Txt.zfill a k).length ≤ sizeLine then some (.dat (.str (Txt.zfill a k))) else none
  | _ => none
section
variable {X : Cx}
theorem cs_str : CaS X (.type "str") cStrI := by
  refine ⟨_, call_str_int, fun xs ds rv H F fh nt p h Q q => ?_⟩
  unfold cStrI at h
  split at h
  · split at h
    · rename_i hc
      simp only [Option.some.injEq] at h; subst h
      cases p with
      | cons h1 t =>
        cases t; cases h1
        exact ⟨_, rfl, hc.1, new_val fh nt q (.str _ hc.2)⟩
    · cases h
  · cases h
theorem cs_intT : CaS X (.type "int") cIntT := by
  refine ⟨_, call_int_str, fun xs ds rv H F fh nt p h Q q => ?_⟩
  unfold cIntT at h
  split at h
  · split at h
    · rename_i hc
      cases hn : PySem.intText? _ with
      | none => rw [hn] at h; cases h
      | some n =>
        rw [hn] at h
        simp only [Option.map_some, Option.some.injEq] at h; subst h
        cases p with
        | cons h1 t =>
          cases t; cases h1
          exact ⟨_, _, rfl, hn, hc, new_val fh nt q (.int _)⟩
    · cases h
  · cases h
end
section
variable {X : Cx} {T : Tbs} {Wi : WX} {pos apos p : Pos} {e : Expr} {d : Ex}
end
end Dl
namespace Dl
open PySem PySem.Spec PyProof.Rows L2 NdefX
section
variable {X : Cx} {pins : List (Addr × Obj)} {σ : St} {H : Hp} {s : Shared}
end
section
variable {X : Cx}
end
end Dl
namespace Dl
open PySem PySem.Spec PyProof.Rows L2 NdefX
def repS (x : Str) (n : Int) : Str := if n < 1 then Str.empty else if (n == 1 || x.length == 0) = true then x else ⟨(List.replicate n.toNat x.cps).foldl (· ++ ·) #[]⟩
def gMulS : D → D → Option RV
  | .str a, .int k => if k ≤ 1000 ∧ -1000 ≤ k ∧ a.length ≤ 1000 ∧ PyData.strOk (repS a k) = true ∧ (repS a k).length ≤ sizeLine then some (.dat (.str (repS a k))) else none
  | _, _ => none
section
variable {X : Cx}
theorem op_mul_str : OpR X (binaryOp .Mult) (fun x y H Q => ∃ i n, x = .str i ∧ y = .int n ∧ n ≤ 1000 ∧ -1000 ≤ n ∧ i.length ≤ 1000 ∧ (repS i n).length ≤ sizeLine ∧ Q (.str (repS i n)) H) := by
  intro pins s σ H x y v u Q I rx ry h
  obtain ⟨i, n, rfl, rfl, h1, h2, h3, hz, q⟩ := h
  obtain ⟨t, rfl⟩ := rx
  obtain ⟨t', rfl⟩ := ry
  refine PySem.P.mul_str ?_ ?_ ?_ ?_
  · rw [decide_eq_false (by omega), decide_eq_false (by omega)]; rfl
  · intro h4 _ h5
    have : (2 ^ 63 - 1 : Int) / n ≥ 9223372036854775 := by
      have h6 : (9223372036854775 : Int) * n ≤ 2 ^ 63 - 1 := by omega
      exact (Int.le_ediv_iff_mul_le (by omega)).mpr h6
    omega
  · intro h4 _
    have h5 : i.length * n.toNat ≤ 1000 * 1000 := Nat.mul_le_mul h3 (by omega)
    have h6 : i.length * n.toNat ≤ sizeLine := by rw [sizeLine_eq]; omega
    exact decide_eq_false (Nat.not_lt.mpr h6)
  · unfold repS at hz q
    by_cases c1 : n < 1
    · rw [if_pos c1] at hz q ⊢
      exact ⟨hz, ⟨.str _, H, I.tok _, ⟨_, rfl⟩, q⟩⟩
    · rw [if_neg c1] at hz q ⊢
      by_cases c2 : (n == 1 || i.length == 0) = true
      · rw [if_pos c2] at hz q ⊢
        exact ⟨.str _, H, I, ⟨_, rfl⟩, q⟩
      · rw [if_neg c2] at hz q ⊢
        exact ⟨hz, ⟨.str _, H, I.tok _, ⟨_, rfl⟩, q⟩⟩
theorem os_mulS : OpS X (binaryOp .Mult) gMulS := by
  refine ⟨_, op_mul_str, fun x y d e rv H F fh nt rx ry h Q q => ?_⟩
  cases d <;> cases e <;> first | (simp only [gMulS] at h; cases h; done) | skip
  simp only [gMulS] at h
  split at h
  · rename_i hc
    simp only [Option.some.injEq] at h; subst h
    cases rx with
    | str _ q1 =>
      cases ry
      exact ⟨_, _, rfl, rfl, hc.1, hc.2.1, hc.2.2.1, hc.2.2.2.2, new_val fh nt q (.str _ hc.2.2.2)⟩
  · cases h
end
@[simp] theorem gMulS_s {a : Str} {k : Int} : gMulS (.str a) (.int k) = if k ≤ 1000 ∧ -1000 ≤ k ∧ a.length ≤ 1000 ∧ PyData.strOk (repS a k) = true ∧ (repS a k).length ≤ sizeLine then some (.dat (.str (repS a k))) else none := rfl
end Dl
namespace Dl
open PySem PySem.Spec PyProof.Rows L2 NdefX
def b_is_integer (C : Cs) : Sd := (sRet (dAnd (dIsi .int (dName 0)) (dUn gNot (dIsi .bool (dName 0)))))
def b_is_within (C : Cs) : Sd := (sRet (dAnd (dCall C 1 (aCons (dName 0) aNil)) (dChain (gLe C.room) (gLe C.room) (dName 1) (dName 0) (dName 2))))
def b_is_pair (C : Cs) : Sd := (sRet (dAnd (dIsi .tuple (dName 0)) (dBin (gEq C.room) (dBlt cLen (rCons (dName 0) rNil)) (dC (.int 2)))))
def b_is_triple (C : Cs) : Sd := (sRet (dAnd (dIsi .tuple (dName 0)) (dBin (gEq C.room) (dBlt cLen (rCons (dName 0) rNil)) (dC (.int 3)))))
def b_is_word (C : Cs) : Sd := (sSeq (sIf (tOr' (tNot' (dTru (dIsi .str (dName 0)))) (tNot' (dTst (dChain (gLe C.room) (gLe C.room) (dC (.int 1)) (dBlt cLen (rCons (dName 0) rNil)) (dC (.int 8)))))) (sRet (dC (.bl false))) sNil)
  (sRet (dBlt cAll (rCons (dComp (iTxt (dName 0)) [1] (gN 1) tYes' (dBin (inD false C.room) (dName 1) (dC (.str "abcdefghijklmnopqrstuvwxyz")))) rNil))))
def b_is_door (C : Cs) : Sd := (sRet (dAnd (dCall C 24 (aCons (dName 0) aNil)) (dBin (gEq C.room) (dBlt cLen (rCons (dName 0) rNil)) (dC (.int 1)))))
def b_is_part (C : Cs) : Sd := (sSeq (sIf (dTru (dCall C 4 (aCons (dName 0) aNil))) (sSeq (sIf (dTst (dBin (gEq C.room) (dBin gIx (dName 0) (dC (.int 0))) (dC (.str "name")))) (sRet (dCall C 24 (aCons (dBin gIx (dName 0) (dC (.int 1))) aNil))) sNil)
  (sSeq (sIf (dTst (dBin (gEq C.room) (dBin gIx (dName 0) (dC (.int 0))) (dC (.str "mark")))) (sRet (dAnd (dCall C 1 (aCons (dBin gIx (dName 0) (dC (.int 1))) aNil)) (dBin (gGe C.room) (dBin gIx (dName 0) (dC (.int 1))) (dC (.int 0))))) sNil)
  (sRet (dAnd (dBin (gEq C.room) (dBin gIx (dName 0) (dC (.int 0))) (dC (.str "got"))) (dCall C 2 (aCons (dBin gIx (dName 0) (dC (.int 1))) (aCons (dC (.int 0)) (aCons (dBin gSub (dName 1) (dC (.int 1))) aNil)))))))) sNil)
  (sSeq (sIf (tOr' (tNot' (dTru (dCall C 27 (aCons (dName 0) aNil)))) (tOr' (dTst (dBin (inD true C.room) (dBin gIx (dName 0) (dC (.int 0))) (dTup (aCons (dC (.str "letter")) (aCons (dC (.str "wait")) aNil))))) (tNot' (dTru (dCall C 26 (aCons (dBin gIx (dName 0) (dC (.int 1))) aNil)))))) (sRet (dC (.bl false))) sNil)
  (sRet (dCall C 25 (aCons (dBin gIx (dName 0) (dC (.int 2))) (aCons (dIf (dTst (dBin (gEq C.room) (dBin gIx (dName 0) (dC (.int 0))) (dC (.str "wait")))) (dBin gAdd (dName 1) (dC (.int 1))) (dName 1)) aNil))))))
def b_is_plan_in (C : Cs) : Sd := (sSeq (sIf (tNot' (dTru (dIsi .tuple (dName 0)))) (sRet (dC (.bl false))) sNil)
  (sSeq (sFor (iSeq (dName 0)) (gN 2) (sIf (tOr' (tNot' (dTru (dCall C 4 (aCons (dName 2) aNil)))) (tOr' (tNot' (dTru (dCall C 1 (aCons (dBin gIx (dName 2) (dC (.int 0))) aNil)))) (tOr' (dTst (dBin (gLt C.room) (dBin gIx (dName 2) (dC (.int 0))) (dC (.int 1)))) (tNot' (dTru (dCall C 28 (aCons (dBin gIx (dName 2) (dC (.int 1))) (aCons (dName 1) aNil)))))))) (sRet (dC (.bl false))) sNil))
  (sRet (dC (.bl true)))))
def b_check_plan (C : Cs) : Sd := (sIf (tNot' (dTru (dCall C 25 (aCons (dName 0) (aCons (dC (.int 0)) aNil))))) (sRaise "NoPlan") sNil)
def b_check_door (C : Cs) : Sd := (sIf (tNot' (dTru (dCall C 26 (aCons (dName 0) aNil)))) (sRaise "NoDoor") sNil)
def b_check_word (C : Cs) : Sd := (sIf (tNot' (dTru (dCall C 24 (aCons (dName 0) aNil)))) (sRaise "NoWord") sNil)
def b_is_plan (C : Cs) : Sd := (sRet (dCall C 25 (aCons (dName 0) (aCons (dC (.int 0)) aNil))))
def b_part_size (C : Cs) : Sd := (sRet (dIf (dTst (dBin (gEq C.room) (dBlt cLen (rCons (dName 0) rNil)) (dC (.int 3)))) (dBin gAdd (dC (.int 1)) (dCall C 29 (aCons (dBin gIx (dName 0) (dC (.int 2))) aNil))) (dC (.int 1))))
def b_size_of (C : Cs) : Sd := (sRet (dBlt cSum (rCons (dComp (iSeq (dName 0)) [1, 2] (gT 2 (gsCons (gN 1) (gsCons (gN 2) gsNil))) tYes' (dBin gMul (dName 1) (dCall C 30 (aCons (dName 2) aNil)))) rNil)))
def b_size (C : Cs) : Sd := (sSeq (sExpr (dCall C 31 (aCons (dName 0) aNil)))
  (sRet (dCall C 29 (aCons (dName 0) aNil))))
def b_parts_within (C : Cs) : Sd := (sSeq (sSet 1 (dLst aNil))
  (sSeq (sFor (iSeq (dName 0)) (gT 2 (gsCons (gN 2) (gsCons (gN 3) gsNil))) (sSeq (sAppend 1 (dName 3))
  (sIf (dTst (dBin (gEq C.room) (dBlt cLen (rCons (dName 3) rNil)) (dC (.int 3)))) (sExtend 1 (dCall C 32 (aCons (dBin gIx (dName 3) (dC (.int 2))) aNil))) sNil)))
  (sRet (dName 1))))
def b_labels_of (C : Cs) : Sd := (sRet (dBlt cSortS (rCons (dKeys (iSeq (dCall C 32 (aCons (dName 0) aNil))) [2] (gN 2) (dTst (dBin (gEq C.room) (dBin gIx (dName 2) (dC (.int 0))) (dName 1))) (dBin gIx (dName 2) (dC (.int 1)))) rNil)))
def b_names (C : Cs) : Sd := (sSeq (sExpr (dCall C 31 (aCons (dName 0) aNil)))
  (sRet (dCall C 33 (aCons (dName 0) (aCons (dC (.str "name")) aNil)))))
def b_mapped (C : Cs) : Sd := (sSeq (sSet 3 (dLst aNil))
  (sSeq (sFor (iSeq (dName 0)) (gT 2 (gsCons (gN 4) (gsCons (gN 5) gsNil))) (sIf (dTst (dBin (gEq C.room) (dBin gIx (dName 5) (dC (.int 0))) (dC (.str "letter")))) (sAppend 3 (dTup (aCons (dName 4) (aCons (dTup (aCons (dC (.str "letter")) (aCons (dBin gIx (dName 5) (dC (.int 1))) (aCons (dCall C 34 (aCons (dBin gIx (dName 5) (dC (.int 2))) (aCons (dName 1) (aCons (dName 2) aNil)))) aNil)))) aNil)))) (sIf (dTst (dBin (gEq C.room) (dBin gIx (dName 5) (dC (.int 0))) (dC (.str "wait")))) (sAppend 3 (dTup (aCons (dName 4) (aCons (dTup (aCons (dC (.str "wait")) (aCons (dBin gIx (dName 5) (dC (.int 1))) (aCons (dCall C 34 (aCons (dBin gIx (dName 5) (dC (.int 2))) (aCons (dBin gAdd (dName 1) (dC (.int 1))) (aCons (dName 2) aNil)))) aNil)))) aNil)))) (sExtend 3 (dComp (iSeq (dAct C 2 (aCons (dName 5) (aCons (dName 1) aNil)))) [6, 7] (gT 2 (gsCons (gN 6) (gsCons (gN 7) gsNil))) tYes' (dTup (aCons (dBin gMul (dName 4) (dName 6)) (aCons (dName 7) aNil))))))))
  (sRet (dBlt cTuple (rCons (dName 3) rNil)))))
def b_bound_to'clo (C : Cs) : Ex := (dTup (aCons (dTup (aCons (dC (.int 1)) (aCons (dIf (dTst (dBin (gEq C.room) (dName 0) (dName 2))) (dTup (aCons (dC (.str "got")) (aCons (dName 1) aNil))) (dName 0)) aNil))) aNil))
def b_bound_to (C : Cs) : Sd := (sRet (dTup (aCons (dC (.str "wait")) (aCons (dName 0) (aCons (dClo C 34 50 [1] (aCons (dName 2) (aCons (dC (.int 0)) aNil))) aNil)))))
def b_letter (C : Cs) : Sd := (sSeq (sExpr (dCall C 35 (aCons (dName 0) aNil)))
  (sSeq (sExpr (dCall C 31 (aCons (dName 1) aNil)))
  (sRet (dTup (aCons (dTup (aCons (dC (.int 1)) (aCons (dTup (aCons (dC (.str "letter")) (aCons (dName 0) (aCons (dName 1) aNil)))) aNil))) aNil)))))
def b_wait (C : Cs) : Sd := (sSeq (sExpr (dCall C 35 (aCons (dName 0) aNil)))
  (sSeq (sExpr (dCall C 37 (aCons (dName 1) aNil)))
  (sSeq (sExpr (dCall C 31 (aCons (dName 2) aNil)))
  (sRet (dTup (aCons (dTup (aCons (dC (.int 1)) (aCons (dCall C 36 (aCons (dName 0) (aCons (dTup (aCons (dC (.str "name")) (aCons (dName 1) aNil))) (aCons (dName 2) aNil)))) aNil))) aNil))))))
def b__law_plan (C : Cs) : Sd := (sSeq (sSet 5 (dLst aNil))
  (sSeq (sFor (iRange rg1 (rCons (dC (.int 6)) rNil)) (gN 6) (sSeq (sIf (tOr' (dTst (dBin (gLt C.room) (dName 1) (dC (.int 1)))) (dTst (dBin (gEq C.room) (dCall C 11 (aCons (dName 0) (aCons (dC (.int 5)) aNil))) (dC (.int 0))))) sBreak sNil)
  (sSeq (sSet 7 (dBin gIx (dLst (aCons (dC (.int 1)) (aCons (dC (.int 1)) (aCons (dC (.int 1)) (aCons (dC (.int 2)) (aCons (dC (.int 3)) aNil)))))) (dCall C 11 (aCons (dName 0) (aCons (dC (.int 5)) aNil)))))
  (sSeq (sIf (dTst (dBin (gGt C.room) (dName 7) (dName 1))) (sSet 7 (dC (.int 1))) sNil)
  (sSeq (sSet 8 (dCall C 39 (aCons (dName 0) (aCons (dBin gFdiv (dName 1) (dName 7)) (aCons (dName 2) (aCons (dName 3) (aCons (dName 4) aNil)))))))
  (sSeq (sAppend 5 (dTup (aCons (dName 7) (aCons (dName 8) aNil))))
  (sSet 1 (dBin gSub (dName 1) (dBin gMul (dName 7) (dCall C 38 (aCons (dName 8) aNil)))))))))))
  (sRet (dBlt cTuple (rCons (dName 5) rNil)))))
def b__law_part (C : Cs) : Sd := (sSeq (sSet 5 (dCall C 11 (aCons (dName 0) (aCons (dC (.int 6)) aNil))))
  (sSeq (sIf (tAnd' (dTst (dBin (gLt C.room) (dName 1) (dC (.int 2)))) (dTst (dBin (gGt C.room) (dName 5) (dC (.int 3))))) (sSet 5 (dCall C 11 (aCons (dName 0) (aCons (dC (.int 4)) aNil)))) sNil)
  (sSeq (sSet 6 (dBin gIx (dName 3) (dCall C 11 (aCons (dName 0) (aCons (dBlt cLen (rCons (dName 3) rNil)) aNil)))))
  (sSeq (sIf (tAnd' (dTst (dBin (gEq C.room) (dName 5) (dC (.int 0)))) (dTst (dBin (gGt C.room) (dBlt cLen (rCons (dName 4) rNil)) (dC (.int 0))))) (sRet (dTup (aCons (dC (.str "name")) (aCons (dBin gIx (dName 4) (dCall C 11 (aCons (dName 0) (aCons (dBlt cLen (rCons (dName 4) rNil)) aNil)))) aNil)))) sNil)
  (sSeq (sIf (tAnd' (dTst (dBin (gLt C.room) (dName 5) (dC (.int 2)))) (dTst (dBin (gGt C.room) (dName 2) (dC (.int 0))))) (sRet (dTup (aCons (dC (.str "got")) (aCons (dBin gIx (dLst (aCons (dC (.int 0)) (aCons (dC (.int 0)) (aCons (dCall C 11 (aCons (dName 0) (aCons (dName 2) aNil))) aNil)))) (dCall C 11 (aCons (dName 0) (aCons (dC (.int 3)) aNil)))) aNil)))) sNil)
  (sSeq (sIf (tOr' (dTst (dBin (gEq C.room) (dName 5) (dC (.int 2)))) (dTst (dBin (gEq C.room) (dName 5) (dC (.int 4))))) (sRet (dTup (aCons (dC (.str "letter")) (aCons (dName 6) (aCons (dCall C 40 (aCons (dName 0) (aCons (dBin gSub (dName 1) (dC (.int 1))) (aCons (dName 2) (aCons (dName 3) (aCons (dName 4) aNil)))))) aNil))))) sNil)
  (sRet (dTup (aCons (dC (.str "wait")) (aCons (dName 6) (aCons (dCall C 40 (aCons (dName 0) (aCons (dBin gSub (dName 1) (dC (.int 1))) (aCons (dBin gAdd (dName 2) (dC (.int 1))) (aCons (dName 3) (aCons (dName 4) aNil)))))) aNil)))))))))))
def b__law_part_size (C : Cs) : Sd := (sSeq (sIf (dTst (dBin (gEq C.room) (dBlt cLen (rCons (dName 0) rNil)) (dC (.int 3)))) (sRet (dBin gAdd (dC (.int 1)) (dCall C 41 (aCons (dBin gIx (dName 0) (dC (.int 2))) aNil)))) sNil)
  (sRet (dC (.int 1))))
def b__law_size (C : Cs) : Sd := (sRet (dBlt cSum (rCons (dComp (iSeq (dName 0)) [1, 2] (gT 2 (gsCons (gN 1) (gsCons (gN 2) gsNil))) tYes' (dBin gMul (dName 1) (dCall C 38 (aCons (dName 2) aNil)))) rNil)))
end Dl
namespace Dl
open PySem PySem.Spec PyProof.Rows L2 NdefX
def b_items_in (C : Cs) : Sd := (sRet (dBlt cLen (rCons (dCall C 32 (aCons (dName 0) aNil)) rNil)))
def b_nesting (C : Cs) : Sd := (sRet (dBlt cMax1 (rCons (dBin gAdd (dLst (aCons (dC (.int 0)) aNil)) (dComp (iSeq (dName 0)) [1, 2] (gT 2 (gsCons (gN 1) (gsCons (gN 2) gsNil))) (dTst (dBin (gEq C.room) (dBlt cLen (rCons (dName 2) rNil)) (dC (.int 3)))) (dBin gAdd (dC (.int 1)) (dCall C 51 (aCons (dBin gIx (dName 2) (dC (.int 2))) aNil))))) rNil)))
def b_check_room (C : Cs) : Sd := (sIf (dTst (dBin (gGt C.room) (dName 0) (dC (.int 5000)))) (sRaiseF C.room "TooMany" "most" (aCons (dC (.int 5000)) aNil)) sNil)
def b_roomy (C : Cs) : Sd := (sSeq (sExpr (dCall C 53 (aCons (dCall C 52 (aCons (dName 0) aNil)) aNil)))
  (sSeq (sIf (dTst (dBin (gGt C.room) (dCall C 51 (aCons (dName 0) aNil)) (dC (.int 120)))) (sRaiseF C.room "TooMany" "most" (aCons (dC (.int 5000)) aNil)) sNil)
  (sRet (dName 0))))
def b_raised'clo (C : Cs) : Sd := (sSeq (sIf (tAnd' (dTst (dBin (gEq C.room) (dBin gIx (dName 0) (dC (.int 0))) (dC (.str "got")))) (dTst (dBin (gGe C.room) (dBin gIx (dName 0) (dC (.int 1))) (dBin gAdd (dName 1) (dName 2))))) (sRet (dTup (aCons (dTup (aCons (dC (.int 1)) (aCons (dTup (aCons (dC (.str "got")) (aCons (dBin gAdd (dBin gIx (dName 0) (dC (.int 1))) (dName 3)) aNil))) aNil))) aNil))) sNil)
  (sRet (dTup (aCons (dTup (aCons (dC (.int 1)) (aCons (dName 0) aNil))) aNil))))
def b_raised (C : Cs) : Sd := (sDefRet 3 (dClo C 34 55 [2, 1] (aCons (dName 0) (aCons (dC (.int 0)) aNil))))
def b_replaced'clo (C : Cs) : Ex := (dIf (dTst (dBin (gEq C.room) (dName 0) (dName 2))) (dCall C 57 (aCons (dName 3) (aCons (dName 1) (aCons (dC (.int 0)) aNil)))) (dTup (aCons (dTup (aCons (dC (.int 1)) (aCons (dName 0) aNil))) aNil)))
def b_replaced (C : Cs) : Sd := (sRet (dClo C 34 56 [1, 2] (aCons (dName 0) (aCons (dC (.int 0)) aNil))))
def b_roomy_replaced (C : Cs) : Sd := (sSeq (sSet 3 (dBlt cLen (rCons (dComp (iSeq (dCall C 32 (aCons (dName 0) aNil))) [4] (gN 4) (dTst (dBin (gEq C.room) (dName 4) (dName 1))) (dName 4)) rNil)))
  (sSeq (sExpr (dCall C 53 (aCons (dBin gAdd (dCall C 52 (aCons (dName 0) aNil)) (dBin gMul (dName 3) (dBin gSub (dCall C 52 (aCons (dName 2) aNil)) (dC (.int 1))))) aNil)))
  (sRet (dCall C 59 (aCons (dCall C 58 (aCons (dName 0) (aCons (dName 1) (aCons (dName 2) aNil)))) aNil)))))
def b_put (C : Cs) : Sd := (sSeq (sExpr (dCall C 31 (aCons (dName 0) aNil)))
  (sSeq (sExpr (dCall C 37 (aCons (dName 1) aNil)))
  (sSeq (sExpr (dCall C 31 (aCons (dName 2) aNil)))
  (sRet (dCall C 61 (aCons (dName 0) (aCons (dTup (aCons (dC (.str "name")) (aCons (dName 1) aNil))) (aCons (dName 2) aNil))))))))
def b_check_mark (C : Cs) : Sd := (sIf (tOr' (tNot' (dTru (dCall C 1 (aCons (dName 0) aNil)))) (dTst (dBin (gLt C.room) (dName 0) (dC (.int 0))))) (sRaise "NoMark") sNil)
def b_mark_put (C : Cs) : Sd := (sSeq (sExpr (dCall C 31 (aCons (dName 0) aNil)))
  (sSeq (sExpr (dCall C 62 (aCons (dName 1) aNil)))
  (sSeq (sExpr (dCall C 31 (aCons (dName 2) aNil)))
  (sRet (dCall C 61 (aCons (dName 0) (aCons (dTup (aCons (dC (.str "mark")) (aCons (dName 1) aNil))) (aCons (dName 2) aNil))))))))
end Dl
namespace Dl
open PySem PySem.Spec PyProof.Rows L2 NdefX
def t_LENGTHS : List (Str × D) := [("swap", .int 3), ("join", .int 3), ("split", .int 4), ("fold", .int 3), ("unfold", .int 4)]
def b_has_step_form (C : Cs) : Sd := (sSeq (sIf (tOr' (tNot' (dTru (dIsi .tuple (dName 0)))) (tOr' (dTst (dBin (gLt C.room) (dBlt cLen (rCons (dName 0) rNil)) (dC (.int 3)))) (tNot' (dTru (dIsi .str (dBin gIx (dName 0) (dC (.int 0)))))))) (sRet (dC (.bl false))) sNil)
  (sSeq (sIf (tOr' (dTst (dBin (gNe C.room) (dUn (gGetKD t_LENGTHS 0) (dBin gIx (dName 0) (dC (.int 0)))) (dBlt cLen (rCons (dName 0) rNil)))) (tNot' (dTru (dIsi .tuple (dBin gIx (dName 0) (dC (.int 1))))))) (sRet (dC (.bl false))) sNil)
  (sRet (dBlt cAll (rCons (dComp (iSeq (dBin gAdd (dBin gIx (dName 0) (dC (.int 1))) (dSl (dName 0) (some (dC (.int 2))) none))) [1] (gN 1) tYes' (dCall C 1 (aCons (dName 1) aNil))) rNil)))))
def b_joined_pair (C : Cs) : Sd := (sSeq (sIf (dTst (dBin (gNe C.room) (dBin gIx (dName 0) (dC (.int 1))) (dBin gIx (dName 1) (dC (.int 1))))) (sRet (dC .non)) sNil)
  (sRet (dTup (aCons (dTup (aCons (dBin gAdd (dBin gIx (dName 0) (dC (.int 0))) (dBin gIx (dName 1) (dC (.int 0)))) (aCons (dBin gIx (dName 0) (dC (.int 1))) aNil))) aNil))))
def b_split_item (C : Cs) : Sd := (sSeq (sAsg (gT 2 (gsCons (gN 2) (gsCons (gN 3) gsNil))) (dName 0))
  (sSeq (sIf (tNot' (dTru (dCall C 2 (aCons (dName 1) (aCons (dC (.int 1)) (aCons (dBin gSub (dName 2) (dC (.int 1))) aNil)))))) (sRet (dC .non)) sNil)
  (sRet (dTup (aCons (dTup (aCons (dName 1) (aCons (dName 3) aNil))) (aCons (dTup (aCons (dBin gSub (dName 2) (dName 1)) (aCons (dName 3) aNil))) aNil))))))
def b_folded_item (C : Cs) : Sd := (sSeq (sAsg (gT 2 (gsCons (gN 1) (gsCons (gN 2) gsNil))) (dName 0))
  (sSeq (sIf (tOr' (dTst (dBin (gNe C.room) (dBin gIx (dName 2) (dC (.int 0))) (dC (.str "wait")))) (tNot' (dTru (dBin gIx (dName 2) (dC (.int 2)))))) (sRet (dC .non)) sNil)
  (sSeq (sSet 3 (dSl (dBin gIx (dName 2) (dC (.int 2))) none (some (dUn gNeg (dC (.int 1))))))
  (sSeq (sAsg (gT 2 (gsCons (gN 4) (gsCons (gN 5) gsNil))) (dBin gIx (dBin gIx (dName 2) (dC (.int 2))) (dUn gNeg (dC (.int 1)))))
  (sSeq (sIf (dTst (dBin (gNe C.room) (dName 5) (dTup (aCons (dC (.str "wait")) (aCons (dBin gIx (dName 2) (dC (.int 1))) (aCons (dCall C 57 (aCons (dName 3) (aCons (dC (.int 1)) (aCons (dC (.int 1)) aNil)))) aNil)))))) (sRet (dC .non)) sNil)
  (sRet (dTup (aCons (dTup (aCons (dBin gMul (dName 1) (dBin gAdd (dName 4) (dC (.int 1)))) (aCons (dTup (aCons (dC (.str "wait")) (aCons (dBin gIx (dName 2) (dC (.int 1))) (aCons (dName 3) aNil)))) aNil))) aNil))))))))
def b_unfolded_item (C : Cs) : Sd := (sSeq (sAsg (gT 2 (gsCons (gN 2) (gsCons (gN 3) gsNil))) (dName 0))
  (sSeq (sIf (tOr' (dTst (dBin (gNe C.room) (dBin gIx (dName 3) (dC (.int 0))) (dC (.str "wait")))) (tOr' (dTst (dBin (gLt C.room) (dName 1) (dC (.int 2)))) (dTst (dBin (gNe C.room) (dBin gMod (dName 2) (dName 1)) (dC (.int 0)))))) (sRet (dC .non)) sNil)
  (sSeq (sSet 4 (dTup (aCons (dBin gSub (dName 1) (dC (.int 1))) (aCons (dTup (aCons (dC (.str "wait")) (aCons (dBin gIx (dName 3) (dC (.int 1))) (aCons (dCall C 57 (aCons (dBin gIx (dName 3) (dC (.int 2))) (aCons (dC (.int 1)) (aCons (dC (.int 1)) aNil)))) aNil)))) aNil))))
  (sRet (dTup (aCons (dTup (aCons (dBin gFdiv (dName 2) (dName 1)) (aCons (dTup (aCons (dC (.str "wait")) (aCons (dBin gIx (dName 3) (dC (.int 1))) (aCons (dBin gAdd (dBin gIx (dName 3) (dC (.int 2))) (dTup (aCons (dName 4) aNil))) aNil)))) aNil))) aNil))))))
def b_done_here (C : Cs) : Sd := (sSeq (sPar 2 3 (aCons (dBin gIx (dName 1) (dC (.int 0))) (aCons (dBin gIx (dName 1) (dC (.int 2))) aNil)))
  (sSeq (sSet 4 (dIf (dTst (dBin (inD false C.room) (dName 2) (dTup (aCons (dC (.str "swap")) (aCons (dC (.str "join")) aNil))))) (dC (.int 2)) (dC (.int 1))))
  (sSeq (sIf (tNot' (dTru (dCall C 2 (aCons (dName 3) (aCons (dC (.int 0)) (aCons (dBin gSub (dBlt cLen (rCons (dName 0) rNil)) (dName 4)) aNil)))))) (sRet (dC .non)) sNil)
  (sSeq (sIf (dTst (dBin (gEq C.room) (dName 2) (dC (.str "swap")))) (sSet 5 (dTup (aCons (dBin gIx (dName 0) (dBin gAdd (dName 3) (dC (.int 1)))) (aCons (dBin gIx (dName 0) (dName 3)) aNil)))) (sIf (dTst (dBin (gEq C.room) (dName 2) (dC (.str "join")))) (sSet 5 (dCall C 78 (aCons (dBin gIx (dName 0) (dName 3)) (aCons (dBin gIx (dName 0) (dBin gAdd (dName 3) (dC (.int 1)))) aNil)))) (sIf (dTst (dBin (gEq C.room) (dName 2) (dC (.str "split")))) (sSet 5 (dCall C 79 (aCons (dBin gIx (dName 0) (dName 3)) (aCons (dBin gIx (dName 1) (dC (.int 3))) aNil)))) (sIf (dTst (dBin (gEq C.room) (dName 2) (dC (.str "fold")))) (sSet 5 (dCall C 80 (aCons (dBin gIx (dName 0) (dName 3)) aNil))) (sSet 5 (dCall C 81 (aCons (dBin gIx (dName 0) (dName 3)) (aCons (dBin gIx (dName 1) (dC (.int 3))) aNil))))))))
  (sRet (dIf (dTst (dBin gIs (dName 5) (dC .non))) (dC .non) (dBin gAdd (dBin gAdd (dSl (dName 0) none (some (dName 3))) (dName 5)) (dSl (dName 0) (some (dBin gAdd (dName 3) (dName 4))) none))))))))
def b_done_at (C : Cs) : Sd := (sSeq (sIf (tNot' (dTru (dName 1))) (sRet (dCall C 83 (aCons (dName 0) (aCons (dName 2) aNil)))) sNil)
  (sSeq (sSet 3 (dBin gIx (dName 1) (dC (.int 0))))
  (sSeq (sIf (tOr' (tNot' (dTru (dCall C 2 (aCons (dName 3) (aCons (dC (.int 0)) (aCons (dBin gSub (dBlt cLen (rCons (dName 0) rNil)) (dC (.int 1))) aNil)))))) (dTst (dBin (gNe C.room) (dBlt cLen (rCons (dBin gIx (dBin gIx (dName 0) (dName 3)) (dC (.int 1))) rNil)) (dC (.int 3))))) (sRet (dC .non)) sNil)
  (sSeq (sAsg (gT 2 (gsCons (gN 4) (gsCons (gN 5) gsNil))) (dBin gIx (dName 0) (dName 3)))
  (sSeq (sSet 6 (dCall C 82 (aCons (dBin gIx (dName 5) (dC (.int 2))) (aCons (dSl (dName 1) (some (dC (.int 1))) none) (aCons (dName 2) aNil)))))
  (sSeq (sIf (dTst (dBin gIs (dName 6) (dC .non))) (sRet (dC .non)) sNil)
  (sRet (dBin gAdd (dBin gAdd (dSl (dName 0) none (some (dName 3))) (dTup (aCons (dTup (aCons (dName 4) (aCons (dTup (aCons (dBin gIx (dName 5) (dC (.int 0))) (aCons (dBin gIx (dName 5) (dC (.int 1))) (aCons (dName 6) aNil)))) aNil))) aNil))) (dSl (dName 0) (some (dBin gAdd (dName 3) (dC (.int 1)))) none)))))))))
def b_step_done (C : Cs) : Sd := (sSeq (sIf (tNot' (dTru (dCall C 84 (aCons (dName 1) aNil)))) (sRet (dC .non)) sNil)
  (sSeq (sSet 2 (dCall C 82 (aCons (dName 0) (aCons (dBin gIx (dName 1) (dC (.int 1))) (aCons (dName 1) aNil)))))
  (sSeq (sIf (tOr' (dTst (dBin gIs (dName 2) (dC .non))) (tOr' (dTst (dBin (gGt C.room) (dCall C 52 (aCons (dName 2) aNil)) (dC (.int 5000)))) (dTst (dBin (gGt C.room) (dCall C 51 (aCons (dName 2) aNil)) (dC (.int 120)))))) (sRet (dC .non)) sNil)
  (sRet (dName 2)))))
def b_stepped (C : Cs) : Sd := (sSeq (sExpr (dCall C 31 (aCons (dName 0) aNil)))
  (sSeq (sSet 2 (dCall C 85 (aCons (dName 0) (aCons (dName 1) aNil))))
  (sSeq (sIf (dTst (dBin gIs (dName 2) (dC .non))) (sRaise "NoStep") sNil)
  (sRet (dName 2)))))
def b__law_plan_87 (C : Cs) : Sd := (sSeq (sSet 5 (dLst aNil))
  (sSeq (sFor (iRange rg1 (rCons (dC (.int 6)) rNil)) (gN 6) (sSeq (sIf (tOr' (dTst (dBin (gLt C.room) (dName 1) (dC (.int 1)))) (dTst (dBin (gEq C.room) (dCall C 11 (aCons (dName 0) (aCons (dC (.int 5)) aNil))) (dC (.int 0))))) sBreak sNil)
  (sSeq (sSet 7 (dBin gIx (dLst (aCons (dC (.int 1)) (aCons (dC (.int 1)) (aCons (dC (.int 1)) (aCons (dC (.int 2)) (aCons (dC (.int 3)) aNil)))))) (dCall C 11 (aCons (dName 0) (aCons (dC (.int 5)) aNil)))))
  (sSeq (sIf (dTst (dBin (gGt C.room) (dName 7) (dName 1))) (sSet 7 (dC (.int 1))) sNil)
  (sSeq (sSet 8 (dCall C 86 (aCons (dName 0) (aCons (dBin gFdiv (dName 1) (dName 7)) (aCons (dName 2) (aCons (dName 3) (aCons (dName 4) aNil)))))))
  (sSeq (sAppend 5 (dTup (aCons (dName 7) (aCons (dName 8) aNil))))
  (sSet 1 (dBin gSub (dName 1) (dBin gMul (dName 7) (dCall C 38 (aCons (dName 8) aNil)))))))))))
  (sRet (dBlt cTuple (rCons (dName 5) rNil)))))
def b__law_part_86 (C : Cs) : Sd := (sSeq (sSet 5 (dCall C 11 (aCons (dName 0) (aCons (dC (.int 6)) aNil))))
  (sSeq (sIf (tAnd' (dTst (dBin (gLt C.room) (dName 1) (dC (.int 2)))) (dTst (dBin (gGt C.room) (dName 5) (dC (.int 3))))) (sSet 5 (dCall C 11 (aCons (dName 0) (aCons (dC (.int 4)) aNil)))) sNil)
  (sSeq (sSet 6 (dBin gIx (dName 3) (dCall C 11 (aCons (dName 0) (aCons (dBlt cLen (rCons (dName 3) rNil)) aNil)))))
  (sSeq (sIf (tAnd' (dTst (dBin (gEq C.room) (dName 5) (dC (.int 0)))) (dTst (dBin (gGt C.room) (dBlt cLen (rCons (dName 4) rNil)) (dC (.int 0))))) (sSeq (sSet 7 (dBin gIx (dName 4) (dCall C 11 (aCons (dName 0) (aCons (dBlt cLen (rCons (dName 4) rNil)) aNil)))))
  (sRet (dTup (aCons (dBin gIx (dLst (aCons (dC (.str "name")) (aCons (dC (.str "mark")) aNil))) (dBlt cInt (rCons (dIsi .int (dName 7)) rNil))) (aCons (dName 7) aNil))))) sNil)
  (sSeq (sIf (tAnd' (dTst (dBin (gLt C.room) (dName 5) (dC (.int 2)))) (dTst (dBin (gGt C.room) (dName 2) (dC (.int 0))))) (sRet (dTup (aCons (dC (.str "got")) (aCons (dBin gIx (dLst (aCons (dC (.int 0)) (aCons (dC (.int 0)) (aCons (dCall C 11 (aCons (dName 0) (aCons (dName 2) aNil))) aNil)))) (dCall C 11 (aCons (dName 0) (aCons (dC (.int 3)) aNil)))) aNil)))) sNil)
  (sSeq (sIf (tOr' (dTst (dBin (gEq C.room) (dName 5) (dC (.int 2)))) (dTst (dBin (gEq C.room) (dName 5) (dC (.int 4))))) (sRet (dTup (aCons (dC (.str "letter")) (aCons (dName 6) (aCons (dCall C 87 (aCons (dName 0) (aCons (dBin gSub (dName 1) (dC (.int 1))) (aCons (dName 2) (aCons (dName 3) (aCons (dName 4) aNil)))))) aNil))))) sNil)
  (sRet (dTup (aCons (dC (.str "wait")) (aCons (dName 6) (aCons (dCall C 87 (aCons (dName 0) (aCons (dBin gSub (dName 1) (dC (.int 1))) (aCons (dBin gAdd (dName 2) (dC (.int 1))) (aCons (dName 3) (aCons (dName 4) aNil)))))) aNil)))))))))))
def b__law_raise (C : Cs) : Sd := (sSeq (sSet 3 (dLst aNil))
  (sSeq (sFor (iSeq (dName 0)) (gT 2 (gsCons (gN 4) (gsCons (gN 5) gsNil))) (sSeq (sIf (tAnd' (dTst (dBin (gEq C.room) (dBin gIx (dName 5) (dC (.int 0))) (dC (.str "got")))) (dTst (dBin (gGe C.room) (dBin gIx (dName 5) (dC (.int 1))) (dName 2)))) (sSet 5 (dTup (aCons (dC (.str "got")) (aCons (dBin gAdd (dBin gIx (dName 5) (dC (.int 1))) (dName 1)) aNil)))) sNil)
  (sSeq (sIf (dTst (dBin (gEq C.room) (dBin gIx (dName 5) (dC (.int 0))) (dC (.str "letter")))) (sSet 5 (dTup (aCons (dC (.str "letter")) (aCons (dBin gIx (dName 5) (dC (.int 1))) (aCons (dCall C 88 (aCons (dBin gIx (dName 5) (dC (.int 2))) (aCons (dName 1) (aCons (dName 2) aNil)))) aNil))))) sNil)
  (sSeq (sIf (dTst (dBin (gEq C.room) (dBin gIx (dName 5) (dC (.int 0))) (dC (.str "wait")))) (sSet 5 (dTup (aCons (dC (.str "wait")) (aCons (dBin gIx (dName 5) (dC (.int 1))) (aCons (dCall C 88 (aCons (dBin gIx (dName 5) (dC (.int 2))) (aCons (dName 1) (aCons (dBin gAdd (dName 2) (dC (.int 1))) aNil)))) aNil))))) sNil)
  (sAppend 3 (dTup (aCons (dName 4) (aCons (dName 5) aNil))))))))
  (sRet (dBlt cTuple (rCons (dName 3) rNil)))))
def b__law_step (C : Cs) : Sd := (sSeq (sSet 2 (dBin gIx (dName 1) (dC (.int 1))))
  (sSeq (sIf (dTst (dBin (gGt C.room) (dBlt cLen (rCons (dName 2) rNil)) (dC (.int 0)))) (sSeq (sIf (tOr' (dTst (dBin (gLt C.room) (dBin gIx (dName 2) (dC (.int 0))) (dC (.int 0)))) (tOr' (dTst (dBin (gGe C.room) (dBin gIx (dName 2) (dC (.int 0))) (dBlt cLen (rCons (dName 0) rNil)))) (dTst (dBin (gEq C.room) (dBlt cLen (rCons (dBin gIx (dBin gIx (dName 0) (dBin gIx (dName 2) (dC (.int 0)))) (dC (.int 1))) rNil)) (dC (.int 2)))))) (sRet (dC .non)) sNil)
  (sSeq (sAsg (gT 2 (gsCons (gN 3) (gsCons (gN 4) gsNil))) (dBin gIx (dName 0) (dBin gIx (dName 2) (dC (.int 0)))))
  (sSeq (sSet 5 (dCall C 89 (aCons (dBin gIx (dName 4) (dC (.int 2))) (aCons (dBin gAdd (dTup (aCons (dBin gIx (dName 1) (dC (.int 0))) (aCons (dSl (dName 2) (some (dC (.int 1))) none) aNil))) (dSl (dName 1) (some (dC (.int 2))) none)) aNil))))
  (sSeq (sIf (dTst (dBin gIs (dName 5) (dC .non))) (sRet (dC .non)) sNil)
  (sRet (dBin gAdd (dBin gAdd (dSl (dName 0) none (some (dBin gIx (dName 2) (dC (.int 0))))) (dTup (aCons (dTup (aCons (dName 3) (aCons (dTup (aCons (dBin gIx (dName 4) (dC (.int 0))) (aCons (dBin gIx (dName 4) (dC (.int 1))) (aCons (dName 5) aNil)))) aNil))) aNil))) (dSl (dName 0) (some (dBin gAdd (dBin gIx (dName 2) (dC (.int 0))) (dC (.int 1)))) none))))))) sNil)
  (sSeq (sSet 6 (dBin gIx (dName 1) (dC (.int 2))))
  (sSeq (sIf (tOr' (dTst (dBin (gLt C.room) (dName 6) (dC (.int 0)))) (dTst (dBin (gGe C.room) (dName 6) (dBlt cLen (rCons (dName 0) rNil))))) (sRet (dC .non)) sNil)
  (sSeq (sAsg (gT 2 (gsCons (gN 3) (gsCons (gN 4) gsNil))) (dBin gIx (dName 0) (dName 6)))
  (sSeq (sIf (tOr' (dTst (dBin (gEq C.room) (dBin gIx (dName 1) (dC (.int 0))) (dC (.str "swap")))) (dTst (dBin (gEq C.room) (dBin gIx (dName 1) (dC (.int 0))) (dC (.str "join"))))) (sSeq (sIf (tOr' (dTst (dBin (gEq C.room) (dBin gAdd (dName 6) (dC (.int 1))) (dBlt cLen (rCons (dName 0) rNil)))) (tAnd' (dTst (dBin (gEq C.room) (dBin gIx (dName 1) (dC (.int 0))) (dC (.str "join")))) (dTst (dBin (gNe C.room) (dBin gIx (dBin gIx (dName 0) (dBin gAdd (dName 6) (dC (.int 1)))) (dC (.int 1))) (dName 4))))) (sRet (dC .non)) sNil)
  (sSeq (sIf (dTst (dBin (gEq C.room) (dBin gIx (dName 1) (dC (.int 0))) (dC (.str "swap")))) (sRet (dBin gAdd (dBin gAdd (dSl (dName 0) none (some (dName 6))) (dTup (aCons (dBin gIx (dName 0) (dBin gAdd (dName 6) (dC (.int 1)))) (aCons (dBin gIx (dName 0) (dName 6)) aNil)))) (dSl (dName 0) (some (dBin gAdd (dName 6) (dC (.int 2)))) none))) sNil)
  (sRet (dBin gAdd (dBin gAdd (dSl (dName 0) none (some (dName 6))) (dTup (aCons (dTup (aCons (dBin gAdd (dName 3) (dBin gIx (dBin gIx (dName 0) (dBin gAdd (dName 6) (dC (.int 1)))) (dC (.int 0)))) (aCons (dName 4) aNil))) aNil))) (dSl (dName 0) (some (dBin gAdd (dName 6) (dC (.int 2)))) none))))) sNil)
  (sSeq (sIf (dTst (dBin (gEq C.room) (dBin gIx (dName 1) (dC (.int 0))) (dC (.str "split")))) (sSeq (sIf (tOr' (dTst (dBin (gLt C.room) (dBin gIx (dName 1) (dC (.int 3))) (dC (.int 1)))) (dTst (dBin (gGe C.room) (dBin gIx (dName 1) (dC (.int 3))) (dName 3)))) (sRet (dC .non)) sNil)
  (sRet (dBin gAdd (dBin gAdd (dSl (dName 0) none (some (dName 6))) (dTup (aCons (dTup (aCons (dBin gIx (dName 1) (dC (.int 3))) (aCons (dName 4) aNil))) (aCons (dTup (aCons (dBin gSub (dName 3) (dBin gIx (dName 1) (dC (.int 3)))) (aCons (dName 4) aNil))) aNil)))) (dSl (dName 0) (some (dBin gAdd (dName 6) (dC (.int 1)))) none)))) sNil)
  (sSeq (sIf (dTst (dBin (gNe C.room) (dBin gIx (dName 4) (dC (.int 0))) (dC (.str "wait")))) (sRet (dC .non)) sNil)
  (sSeq (sIf (dTst (dBin (gEq C.room) (dBin gIx (dName 1) (dC (.int 0))) (dC (.str "unfold")))) (sSeq (sIf (tOr' (dTst (dBin (gLt C.room) (dBin gIx (dName 1) (dC (.int 3))) (dC (.int 2)))) (dTst (dBin (gGt C.room) (dBin gMod (dBlt cInt (rCons (dName 3) rNil)) (dBin gIx (dName 1) (dC (.int 3)))) (dC (.int 0))))) (sRet (dC .non)) sNil)
  (sSeq (sSet 5 (dBin gAdd (dBin gIx (dName 4) (dC (.int 2))) (dTup (aCons (dTup (aCons (dBin gSub (dBin gIx (dName 1) (dC (.int 3))) (dC (.int 1))) (aCons (dTup (aCons (dC (.str "wait")) (aCons (dBin gIx (dName 4) (dC (.int 1))) (aCons (dCall C 88 (aCons (dBin gIx (dName 4) (dC (.int 2))) (aCons (dC (.int 1)) (aCons (dC (.int 1)) aNil)))) aNil)))) aNil))) aNil))))
  (sRet (dBin gAdd (dBin gAdd (dSl (dName 0) none (some (dName 6))) (dTup (aCons (dTup (aCons (dBin gFdiv (dName 3) (dBin gIx (dName 1) (dC (.int 3)))) (aCons (dTup (aCons (dC (.str "wait")) (aCons (dBin gIx (dName 4) (dC (.int 1))) (aCons (dName 5) aNil)))) aNil))) aNil))) (dSl (dName 0) (some (dBin gAdd (dName 6) (dC (.int 1)))) none))))) sNil)
  (sSeq (sIf (dTst (dBin (gEq C.room) (dBlt cLen (rCons (dBin gIx (dName 4) (dC (.int 2))) rNil)) (dC (.int 0)))) (sRet (dC .non)) sNil)
  (sSeq (sSet 7 (dSl (dBin gIx (dName 4) (dC (.int 2))) none (some (dBin gSub (dBlt cLen (rCons (dBin gIx (dName 4) (dC (.int 2))) rNil)) (dC (.int 1))))))
  (sSeq (sAsg (gT 2 (gsCons (gN 8) (gsCons (gN 9) gsNil))) (dBin gIx (dBin gIx (dName 4) (dC (.int 2))) (dBin gSub (dBlt cLen (rCons (dBin gIx (dName 4) (dC (.int 2))) rNil)) (dC (.int 1)))))
  (sSeq (sIf (dTst (dBin (gNe C.room) (dName 9) (dTup (aCons (dC (.str "wait")) (aCons (dBin gIx (dName 4) (dC (.int 1))) (aCons (dCall C 88 (aCons (dName 7) (aCons (dC (.int 1)) (aCons (dC (.int 1)) aNil)))) aNil)))))) (sRet (dC .non)) sNil)
  (sRet (dBin gAdd (dBin gAdd (dSl (dName 0) none (some (dName 6))) (dTup (aCons (dTup (aCons (dBin gMul (dName 3) (dBin gAdd (dName 8) (dC (.int 1)))) (aCons (dTup (aCons (dC (.str "wait")) (aCons (dBin gIx (dName 4) (dC (.int 1))) (aCons (dName 7) aNil)))) aNil))) aNil))) (dSl (dName 0) (some (dBin gAdd (dName 6) (dC (.int 1)))) none))))))))))))))))
def b__law_undoing (C : Cs) : Sd := (sSeq (sSet 2 (dName 0))
  (sSeq (sFor (iSeq (dBin gIx (dName 1) (dC (.int 1)))) (gN 3) (sSet 2 (dBin gIx (dBin gIx (dBin gIx (dName 2) (dName 3)) (dC (.int 1))) (dC (.int 2)))))
  (sSeq (sSet 3 (dBin gIx (dName 1) (dC (.int 2))))
  (sSeq (sIf (dTst (dBin (gEq C.room) (dBin gIx (dName 1) (dC (.int 0))) (dC (.str "swap")))) (sRet (dName 1)) sNil)
  (sSeq (sIf (dTst (dBin (gEq C.room) (dBin gIx (dName 1) (dC (.int 0))) (dC (.str "join")))) (sRet (dTup (aCons (dC (.str "split")) (aCons (dBin gIx (dName 1) (dC (.int 1))) (aCons (dName 3) (aCons (dBin gIx (dBin gIx (dName 2) (dName 3)) (dC (.int 0))) aNil)))))) sNil)
  (sSeq (sIf (dTst (dBin (gEq C.room) (dBin gIx (dName 1) (dC (.int 0))) (dC (.str "split")))) (sRet (dTup (aCons (dC (.str "join")) (aCons (dBin gIx (dName 1) (dC (.int 1))) (aCons (dName 3) aNil))))) sNil)
  (sSeq (sIf (dTst (dBin (gEq C.room) (dBin gIx (dName 1) (dC (.int 0))) (dC (.str "unfold")))) (sRet (dTup (aCons (dC (.str "fold")) (aCons (dBin gIx (dName 1) (dC (.int 1))) (aCons (dName 3) aNil))))) sNil)
  (sSeq (sSet 4 (dBin gIx (dBin gIx (dBin gIx (dName 2) (dName 3)) (dC (.int 1))) (dC (.int 2))))
  (sRet (dTup (aCons (dC (.str "unfold")) (aCons (dBin gIx (dName 1) (dC (.int 1))) (aCons (dName 3) (aCons (dBin gAdd (dC (.int 1)) (dBin gIx (dBin gIx (dName 4) (dBin gSub (dBlt cLen (rCons (dName 4) rNil)) (dC (.int 1)))) (dC (.int 0)))) aNil))))))))))))))
end Dl
namespace Dl
open PySem PySem.Spec PyProof.Rows L2 NdefX
def b_check_two (C : Cs) : Sd := (sSeq (sExpr (dCall C 31 (aCons (dName 0) aNil)))
  (sExpr (dCall C 31 (aCons (dName 1) aNil))))
def t_RANKS : List (Str × D) := [("name", .int 0), ("mark", .int 1), ("got", .int 2), ("letter", .int 3), ("wait", .int 4)]
def b_part_key (C : Cs) : Sd := (sSeq (sSet 1 (dIf (dTst (dBin (gEq C.room) (dBlt cLen (rCons (dName 0) rNil)) (dC (.int 3)))) (dCall C 101 (aCons (dBin gIx (dName 0) (dC (.int 2))) aNil)) (dTup aNil)))
  (sSeq (sSet 2 (dBin gAdd (dC (.int 1)) (dBlt cSum (rCons (dComp (iSeq (dName 1)) [3, 4] (gT 2 (gsCons (gN 3) (gsCons (gN 4) gsNil))) tYes' (dBin gMul (dName 4) (dBin gIx (dName 3) (dC (.int 0))))) rNil))))
  (sRet (dTup (aCons (dName 2) (aCons (dUn (gGetK t_RANKS) (dBin gIx (dName 0) (dC (.int 0)))) (aCons (dBin gIx (dName 0) (dC (.int 1))) (aCons (dName 1) aNil))))))))
def b_plan_key (C : Cs) : Sd := (sRet (dBlt cTuple (rCons (dComp (iSeq (dName 0)) [1, 2] (gT 2 (gsCons (gN 1) (gsCons (gN 2) gsNil))) tYes' (dTup (aCons (dCall C 102 (aCons (dName 2) aNil)) (aCons (dName 1) aNil)))) rNil)))
def b_sorted_items'clo (C : Cs) : Ex := (dCall C 102 (aCons (dBin gIx (dName 0) (dC (.int 1))) aNil))
def b_sorted_items (C : Cs) : Sd := (sSeq (sSet 1 (dLst aNil))
  (sSeq (sFor (iSeq (dSortKey C 104 (dBlt cList (rCons (dName 0) rNil)))) (gT 2 (gsCons (gN 2) (gsCons (gN 3) gsNil))) (sIf (tAnd' (dTst (dBin (gGt C.room) (dBlt cLen (rCons (dName 1) rNil)) (dC (.int 0)))) (dTst (dBin (gEq C.room) (dBin gIx (dBin gIx (dName 1) (dUn gNeg (dC (.int 1)))) (dC (.int 1))) (dName 3)))) (sSetIx 1 (dUn gNeg (dC (.int 1))) (dTup (aCons (dBin gAdd (dBin gIx (dBin gIx (dName 1) (dUn gNeg (dC (.int 1)))) (dC (.int 0))) (dName 2)) (aCons (dName 3) aNil)))) (sAppend 1 (dTup (aCons (dName 2) (aCons (dName 3) aNil))))))
  (sRet (dBlt cTuple (rCons (dName 1) rNil)))))
def b_folded (C : Cs) : Sd := (sSeq (sFor (iEnumD (dName 1)) (gT 2 (gsCons (gN 2) (gsCons (gT 2 (gsCons (gN 3) (gsCons (gN 4) gsNil))) gsNil))) (sIf (tAnd' (dTst (dBin (gEq C.room) (dBin gIx (dName 4) (dC (.int 0))) (dC (.str "wait")))) (dTst (dBin (gEq C.room) (dBin gIx (dName 4) (dC (.int 1))) (dName 0)))) (sSeq (sSet 5 (dBin gAdd (dSl (dName 1) none (some (dName 2))) (dSl (dName 1) (some (dBin gAdd (dName 2) (dC (.int 1)))) none)))
  (sIf (dTst (dBin (gEq C.room) (dBin gIx (dName 4) (dC (.int 2))) (dCall C 57 (aCons (dName 5) (aCons (dC (.int 1)) (aCons (dC (.int 1)) aNil)))))) (sRet (dTup (aCons (dBin gAdd (dName 3) (dC (.int 1))) (aCons (dTup (aCons (dC (.str "wait")) (aCons (dName 0) (aCons (dName 5) aNil)))) aNil)))) sNil)) sNil))
  (sRet (dTup (aCons (dC (.int 1)) (aCons (dTup (aCons (dC (.str "wait")) (aCons (dName 0) (aCons (dName 1) aNil)))) aNil)))))
def b_plain_of (C : Cs) : Sd := (sSeq (sSet 1 (dLst aNil))
  (sSeq (sFor (iSeq (dName 0)) (gT 2 (gsCons (gN 2) (gsCons (gN 3) gsNil))) (sIf (dTst (dBin (gEq C.room) (dBin gIx (dName 3) (dC (.int 0))) (dC (.str "letter")))) (sAppend 1 (dTup (aCons (dName 2) (aCons (dTup (aCons (dC (.str "letter")) (aCons (dBin gIx (dName 3) (dC (.int 1))) (aCons (dCall C 106 (aCons (dBin gIx (dName 3) (dC (.int 2))) aNil)) aNil)))) aNil)))) (sIf (dTst (dBin (gEq C.room) (dBin gIx (dName 3) (dC (.int 0))) (dC (.str "wait")))) (sSeq (sAsg (gT 2 (gsCons (gN 4) (gsCons (gN 5) gsNil))) (dCall C 107 (aCons (dBin gIx (dName 3) (dC (.int 1))) (aCons (dCall C 106 (aCons (dBin gIx (dName 3) (dC (.int 2))) aNil)) aNil))))
  (sAppend 1 (dTup (aCons (dBin gMul (dName 2) (dName 4)) (aCons (dName 5) aNil))))) (sAppend 1 (dTup (aCons (dName 2) (aCons (dName 3) aNil)))))))
  (sFrz 1 (sRet (dCall C 105 (aCons (dName 1) aNil))))))
def b_plain (C : Cs) : Sd := (sSeq (sExpr (dCall C 31 (aCons (dName 0) aNil)))
  (sRet (dCall C 106 (aCons (dName 0) aNil))))
def b_alike (C : Cs) : Sd := (sSeq (sExpr (dCall C 60 (aCons (dName 0) (aCons (dName 1) aNil))))
  (sRet (dBin (gEq C.room) (dCall C 106 (aCons (dName 0) aNil)) (dCall C 106 (aCons (dName 1) aNil)))))
def b_is_plain (C : Cs) : Sd := (sRet (dAnd (dCall C 25 (aCons (dName 0) (aCons (dC (.int 0)) aNil))) (dBin (gEq C.room) (dCall C 106 (aCons (dName 0) aNil)) (dName 0))))
def b__law_key (C : Cs) : Sd := (sSeq (sSet 1 (dIndexS (dLst (aCons (dC (.str "name")) (aCons (dC (.str "mark")) (aCons (dC (.str "got")) (aCons (dC (.str "letter")) (aCons (dC (.str "wait")) aNil)))))) (dBin gIx (dName 0) (dC (.int 0)))))
  (sSeq (sSet 2 (dTup aNil))
  (sSeq (sIf (dTst (dBin (gEq C.room) (dBlt cLen (rCons (dName 0) rNil)) (dC (.int 3)))) (sSet 2 (dBlt cTuple (rCons (dComp (iSeq (dBin gIx (dName 0) (dC (.int 2)))) [3, 4] (gT 2 (gsCons (gN 3) (gsCons (gN 4) gsNil))) tYes' (dTup (aCons (dCall C 108 (aCons (dName 4) aNil)) (aCons (dName 3) aNil)))) rNil))) sNil)
  (sRet (dTup (aCons (dCall C 38 (aCons (dName 0) aNil)) (aCons (dName 1) (aCons (dBin gIx (dName 0) (dC (.int 1))) (aCons (dName 2) aNil)))))))))
def b__law_joined'clo (C : Cs) : Ex := (dCall C 108 (aCons (dBin gIx (dName 0) (dC (.int 1))) aNil))
def b__law_joined (C : Cs) : Sd := (sSeq (sSet 1 (dLst aNil))
  (sSeq (sFor (iSeq (dSortKey C 110 (dName 0))) (gT 2 (gsCons (gN 2) (gsCons (gN 3) gsNil))) (sIf (tAnd' (dTst (dBin (gGt C.room) (dBlt cLen (rCons (dName 1) rNil)) (dC (.int 0)))) (dTst (dBin (gEq C.room) (dBin gIx (dBin gIx (dName 1) (dUn gNeg (dC (.int 1)))) (dC (.int 1))) (dName 3)))) (sSetIx 1 (dUn gNeg (dC (.int 1))) (dTup (aCons (dBin gAdd (dBin gIx (dBin gIx (dName 1) (dUn gNeg (dC (.int 1)))) (dC (.int 0))) (dName 2)) (aCons (dName 3) aNil)))) (sAppend 1 (dTup (aCons (dName 2) (aCons (dName 3) aNil))))))
  (sRet (dBlt cTuple (rCons (dName 1) rNil)))))
def b__law_form (C : Cs) : Sd := (sSeq (sSet 1 (dLst aNil))
  (sSeq (sFor (iSeq (dName 0)) (gT 2 (gsCons (gN 2) (gsCons (gN 3) gsNil))) (sSeq (sIf (dTst (dBin (gEq C.room) (dBin gIx (dName 3) (dC (.int 0))) (dC (.str "letter")))) (sSet 3 (dTup (aCons (dC (.str "letter")) (aCons (dBin gIx (dName 3) (dC (.int 1))) (aCons (dCall C 112 (aCons (dBin gIx (dName 3) (dC (.int 2))) aNil)) aNil))))) sNil)
  (sSeq (sIf (dTst (dBin (gEq C.room) (dBin gIx (dName 3) (dC (.int 0))) (dC (.str "wait")))) (sSeq (sSet 4 (dCall C 112 (aCons (dBin gIx (dName 3) (dC (.int 2))) aNil)))
  (sSeq (sFor (iSeq (dName 4)) (gT 2 (gsCons (gN 5) (gsCons (gN 6) gsNil))) (sSeq (sSet 7 (dBlt cTuple (rCons (dComp (iSeq (dName 4)) [8] (gN 8) (dTst (dBin (gNe C.room) (dBin gIx (dName 8) (dC (.int 1))) (dName 6))) (dName 8)) rNil)))
  (sIf (tAnd' (dTst (dBin (gEq C.room) (dBin gIx (dName 6) (dC (.int 0))) (dC (.str "wait")))) (tAnd' (dTst (dBin (gEq C.room) (dBin gIx (dName 6) (dC (.int 1))) (dBin gIx (dName 3) (dC (.int 1))))) (dTst (dBin (gEq C.room) (dBin gIx (dName 6) (dC (.int 2))) (dCall C 88 (aCons (dName 7) (aCons (dC (.int 1)) (aCons (dC (.int 1)) aNil)))))))) (sSeq (sSet 4 (dName 7))
  (sSeq (sSet 2 (dBin gMul (dName 2) (dBin gAdd (dName 5) (dC (.int 1)))))
  sBreak)) sNil)))
  (sSet 3 (dTup (aCons (dC (.str "wait")) (aCons (dBin gIx (dName 3) (dC (.int 1))) (aCons (dName 4) aNil))))))) sNil)
  (sAppend 1 (dTup (aCons (dName 2) (aCons (dName 3) aNil)))))))
  (sFrz 1 (sRet (dCall C 111 (aCons (dName 1) aNil))))))
def b__law_copied (C : Cs) : Sd := (sSeq (sIf (dTst (dBin (gEq C.room) (dName 2) (dC (.int 1)))) (sRet (dName 1)) sNil)
  (sRet (dBin gAdd (dName 1) (dTup (aCons (dTup (aCons (dBin gSub (dName 2) (dC (.int 1))) (aCons (dTup (aCons (dC (.str "wait")) (aCons (dName 0) (aCons (dCall C 88 (aCons (dName 1) (aCons (dC (.int 1)) (aCons (dC (.int 1)) aNil)))) aNil)))) aNil))) aNil)))))
def b__law_spread (C : Cs) : Sd := (sSeq (sSet 3 (dLst aNil))
  (sSeq (sFor (iSeq (dName 1)) (gT 2 (gsCons (gN 4) (gsCons (gN 5) gsNil))) (sSeq (sIf (dTst (dBin (gEq C.room) (dBlt cLen (rCons (dName 5) rNil)) (dC (.int 3)))) (sSet 5 (dTup (aCons (dBin gIx (dName 5) (dC (.int 0))) (aCons (dBin gIx (dName 5) (dC (.int 1))) (aCons (dCall C 114 (aCons (dName 0) (aCons (dBin gIx (dName 5) (dC (.int 2))) (aCons (dName 2) aNil)))) aNil))))) sNil)
  (sSeq (sIf (tAnd' (dTst (dBin (gEq C.room) (dBin gIx (dName 5) (dC (.int 0))) (dC (.str "wait")))) (tAnd' (dTst (dBin (gGt C.room) (dName 4) (dC (.int 1)))) (dTst (dBin (gEq C.room) (dCall C 11 (aCons (dName 0) (aCons (dC (.int 2)) aNil))) (dC (.int 0)))))) (sSeq (sSet 6 (dBin gIx (dLst (aCons (dName 4) (aCons (dC (.int 2)) (aCons (dC (.int 3)) aNil)))) (dCall C 11 (aCons (dName 0) (aCons (dC (.int 3)) aNil)))))
  (sIf (dTst (dBin (gEq C.room) (dBin gMod (dBlt cInt (rCons (dName 4) rNil)) (dName 6)) (dC (.int 0)))) (sSeq (sSet 5 (dTup (aCons (dC (.str "wait")) (aCons (dBin gIx (dName 5) (dC (.int 1))) (aCons (dCall C 113 (aCons (dBin gIx (dName 5) (dC (.int 1))) (aCons (dBin gIx (dName 5) (dC (.int 2))) (aCons (dName 6) aNil)))) aNil)))))
  (sSet 4 (dBin gFdiv (dName 4) (dName 6)))) sNil)) sNil)
  (sSeq (sIf (tAnd' (dTst (dBin (gGt C.room) (dName 4) (dC (.int 1)))) (dTst (dBin (gEq C.room) (dCall C 11 (aCons (dName 0) (aCons (dC (.int 2)) aNil))) (dC (.int 0))))) (sSeq (sSet 7 (dBin gAdd (dC (.int 1)) (dCall C 11 (aCons (dName 0) (aCons (dBlt cMin2 (rCons (dBin gSub (dName 4) (dC (.int 1))) (rCons (dC (.int 50)) rNil))) aNil)))))
  (sSeq (sAppend 3 (dTup (aCons (dName 7) (aCons (dName 5) aNil))))
  (sSet 4 (dBin gSub (dName 4) (dName 7))))) sNil)
  (sAppend 3 (dTup (aCons (dName 4) (aCons (dName 5) aNil))))))))
  (sSeq (sSet 8 (dLst aNil))
  (sSeq (sFor (iRange rg1 (rCons (dBlt cLen (rCons (dName 3) rNil)) rNil)) (gN 9) (sAppPop 8 3 (dCall C 11 (aCons (dName 0) (aCons (dBlt cLen (rCons (dName 3) rNil)) aNil)))))
  (sRet (dBlt cTuple (rCons (dName 8) rNil)))))))
end Dl
namespace Dl
open PySem PySem.Spec PyProof.Rows L2 NdefX
def b_beside (C : Cs) : Sd := (sSeq (sExpr (dCall C 60 (aCons (dName 0) (aCons (dName 1) aNil))))
  (sRet (dBin gAdd (dName 0) (dName 1))))
end Dl
namespace Dl
open PySem PySem.Spec PyProof.Rows L2 NdefX
def b_power (C : Cs) : Sd := (sSeq (sExpr (dCall C 31 (aCons (dName 0) aNil)))
  (sSeq (sSet 1 (dCall C 106 (aCons (dName 0) aNil)))
  (sRet (dIf (dTst (dBin (gEq C.room) (dBlt cLen (rCons (dName 1) rNil)) (dC (.int 1)))) (dBin gIx (dName 1) (dC (.int 0))) (dC .non)))))
def b__law_dulled (C : Cs) : Sd := (sSeq (sSet 2 (dLst aNil))
  (sSeq (sFor (iSeq (dName 0)) (gT 2 (gsCons (gN 3) (gsCons (gN 4) gsNil))) (sSeq (sIf (dTst (dBin (gEq C.room) (dName 4) (dTup (aCons (dC (.str "got")) (aCons (dName 1) aNil))))) (sSet 4 (dTup (aCons (dC (.str "name")) (aCons (dC (.str "dull")) aNil)))) sNil)
  (sSeq (sIf (dTst (dBin (gEq C.room) (dBlt cLen (rCons (dName 4) rNil)) (dC (.int 3)))) (sSet 4 (dTup (aCons (dBin gIx (dName 4) (dC (.int 0))) (aCons (dBin gIx (dName 4) (dC (.int 1))) (aCons (dCall C 121 (aCons (dBin gIx (dName 4) (dC (.int 2))) (aCons (dBin gAdd (dName 1) (dBlt cInt (rCons (dBin (gEq C.room) (dBin gIx (dName 4) (dC (.int 0))) (dC (.str "wait"))) rNil))) aNil))) aNil))))) sNil)
  (sAppend 2 (dTup (aCons (dName 3) (aCons (dName 4) aNil)))))))
  (sRet (dBlt cTuple (rCons (dName 2) rNil)))))
end Dl
namespace Dl
open PySem PySem.Spec PyProof.Rows L2 NdefX
def b_doors_of (C : Cs) : Sd := (sRet (dBlt cSortS (rCons (dKeys (iSeq (dCall C 32 (aCons (dName 0) aNil))) [1] (gN 1) (dTst (dBin (gEq C.room) (dBlt cLen (rCons (dName 1) rNil)) (dC (.int 3)))) (dBin gIx (dName 1) (dC (.int 1)))) rNil)))
def b_labels_of_124 (C : Cs) : Sd := (sRet (dBlt cSortA (rCons (dKeysA (iSeq (dCall C 32 (aCons (dName 0) aNil))) [2] (gN 2) (dTst (dBin (gEq C.room) (dBin gIx (dName 2) (dC (.int 0))) (dName 1))) (dBin gIx (dName 2) (dC (.int 1)))) rNil)))
def b_doors (C : Cs) : Sd := (sSeq (sExpr (dCall C 31 (aCons (dName 0) aNil)))
  (sRet (dCall C 54 (aCons (dName 0) aNil))))
def b_names_128 (C : Cs) : Sd := (sSeq (sExpr (dCall C 31 (aCons (dName 0) aNil)))
  (sRet (dCall C 124 (aCons (dName 0) (aCons (dC (.str "name")) aNil)))))
def b_marks_127 (C : Cs) : Sd := (sSeq (sExpr (dCall C 31 (aCons (dName 0) aNil)))
  (sRet (dCall C 124 (aCons (dName 0) (aCons (dC (.str "mark")) aNil)))))
def b_primes (C : Cs) : Sd := (sSeq (sExpr (dCall C 31 (aCons (dName 0) aNil)))
  (sRet (dBlt cList (rCons (dCall C 106 (aCons (dName 0) aNil)) rNil))))
end Dl
namespace Dl
open PySem PySem.Spec PyProof.Rows L2 NdefX
def b_read (C : Cs) : Sd := (sSeq (sIf (tNot' (dTru (dIsi .str (dName 0)))) (sRaiseF C.room "BadText" "place" (aCons (dUn gNeg (dC (.int 1))) aNil)) sNil)
  (sSeq (sSetO 1 (dMake C "Reader" 564 (aCons (dName 0) aNil)))
  (sSeq (sSet 2 (dMeth C "Reader" "whole" 563 (dName 1) (aCons (dLst aNil) aNil)))
  (sSeq (sIf (dTst (dBin (gLt C.room) (dFld "Reader" "at" (dName 1)) (dBlt cLen (rCons (dName 0) rNil)))) (sRaiseF C.room "BadText" "place" (aCons (dFld "Reader" "at" (dName 1)) aNil)) sNil)
  (sRet (dName 2))))))
def b_digits_of (C : Cs) : Sd := (sSeq (sSet 1 (dLst aNil))
  (sSeq (sWhile (dTst (dBin (gGe C.room) (dName 0) (dBin gPow (dC (.int 10)) (dC (.int 18))))) (sSeq (sAsg (gT 2 (gsCons (gN 0) (gsCons (gN 2) gsNil))) (dBlt cDivmod (rCons (dName 0) (rCons (dBin gPow (dC (.int 10)) (dC (.int 18))) rNil))))
  (sAppend 1 (dUn (gZfill 18) (dBlt cStrI (rCons (dName 2) rNil))))))
  (sSeq (sAppend 1 (dBlt cStrI (rCons (dName 0) rNil)))
  (sRet (dJoinRev "" (dName 1))))))
def b_word_at (C : Cs) : Sd := (sSeq (sSet 1 (dC (.str "")))
  (sSeq (sAug 0 gAddI (dC (.int 1)))
  (sSeq (sWhile (dTst (dBin (gGt C.room) (dName 0) (dC (.int 0)))) (sSeq (sAsg (gT 2 (gsCons (gN 0) (gsCons (gN 2) gsNil))) (dBlt cDivmod (rCons (dBin gSub (dName 0) (dC (.int 1))) (rCons (dC (.int 3)) rNil))))
  (sSet 1 (dBin gAdd (dBin gIx (dC (.str "xyz")) (dName 2)) (dName 1)))))
  (sRet (dName 1)))))
def b_free_word (C : Cs) : Sd := (sSeq (sSet 1 (dC (.int 0)))
  (sSeq (sWhile (dTst (dBin (inD false C.room) (dCall C 514 (aCons (dName 1) aNil)) (dName 0))) (sAug 1 gAddI (dC (.int 1))))
  (sRet (dCall C 514 (aCons (dName 1) aNil)))))
def b_plan_text (C : Cs) : Sd := (sSeq (sIf (tNot' (dTru (dName 0))) (sRet (dC (.str "0"))) sNil)
  (sSeq (sSet 3 (dLst aNil))
  (sSeq (sFor (iSeq (dName 0)) (gT 2 (gsCons (gN 4) (gsCons (gN 5) gsNil))) (sSeq (sSet 6 (dIf (dTst (dBin (gGt C.room) (dName 4) (dC (.int 1)))) (dBin gAdd (dCall C 517 (aCons (dName 4) aNil)) (dC (.str " "))) (dC (.str ""))))
  (sAppend 3 (dBin gAdd (dName 6) (dCall C 565 (aCons (dName 5) (aCons (dName 1) (aCons (dName 2) aNil))))))))
  (sRet (dJoin " | " (dName 3))))))
def b_part_text (C : Cs) : Sd := (sSeq (sIf (dTst (dBin (gEq C.room) (dBin gIx (dName 0) (dC (.int 0))) (dC (.str "name")))) (sRet (dBin gIx (dName 0) (dC (.int 1)))) sNil)
  (sSeq (sIf (dTst (dBin (gEq C.room) (dBin gIx (dName 0) (dC (.int 0))) (dC (.str "mark")))) (sRet (dBin gAdd (dC (.str "?")) (dCall C 517 (aCons (dBin gIx (dName 0) (dC (.int 1))) aNil)))) sNil)
  (sSeq (sIf (dTst (dBin (gEq C.room) (dBin gIx (dName 0) (dC (.int 0))) (dC (.str "got")))) (sRet (dBin gIx (dName 1) (dBin gIx (dName 0) (dC (.int 1))))) sNil)
  (sSeq (sIf (dTst (dBin (gEq C.room) (dBin gIx (dName 0) (dC (.int 0))) (dC (.str "letter")))) (sRet (dBin gAdd (dBin gAdd (dBin gAdd (dBin gIx (dName 0) (dC (.int 1))) (dC (.str "<"))) (dCall C 515 (aCons (dBin gIx (dName 0) (dC (.int 2))) (aCons (dName 1) (aCons (dName 2) aNil))))) (dC (.str ">")))) sNil)
  (sSeq (sSet 3 (dCall C 516 (aCons (dBin gAdd (dName 1) (dName 2)) aNil)))
  (sSeq (sSet 4 (dCall C 515 (aCons (dBin gIx (dName 0) (dC (.int 2))) (aCons (dBin gAdd (dLst (aCons (dName 3) aNil)) (dName 1)) (aCons (dName 2) aNil)))))
  (sSeq (sIf (tOr' (dTst (dBin (gGt C.room) (dBlt cLen (rCons (dBin gIx (dName 0) (dC (.int 2))) rNil)) (dC (.int 1)))) (dTst (dBin (gGt C.room) (dBlt cSum (rCons (dComp (iSeq (dBin gIx (dName 0) (dC (.int 2)))) [5, 6] (gT 2 (gsCons (gN 5) (gsCons (gN 6) gsNil))) tYes' (dName 5)) rNil)) (dC (.int 1))))) (sSet 4 (dBin gAdd (dBin gAdd (dC (.str "(")) (dName 4)) (dC (.str ")")))) sNil)
  (sRet (dBin gAdd (dBin gAdd (dBin gAdd (dBin gAdd (dBin gIx (dName 0) (dC (.int 1))) (dC (.str "("))) (dName 3)) (dC (.str "): "))) (dName 4))))))))))
def b_Reader_sign (C : Cs) : Sd := (sRet (dSl (dFld "Reader" "signs" (dName 0)) (some (dFld "Reader" "at" (dName 0))) (some (dBin gAdd (dFld "Reader" "at" (dName 0)) (dC (.int 1))))))
def b_Reader_take (C : Cs) : Sd := (sFor (iTxt (dName 1)) (gN 2) (sSeq (sIf (dTst (dBin (gNe C.room) (dMeth C "Reader" "sign" 572 (dName 0) aNil) (dName 2))) (sRaiseF C.room "BadText" "place" (aCons (dFld "Reader" "at" (dName 0)) aNil)) sNil)
  (sFldAug "Reader" 0 "at" gAddI (dC (.int 1)))))
def b_Reader_number (C : Cs) : Sd := (sSeq (sSet 1 (dFld "Reader" "at" (dName 0)))
  (sSeq (sWhile (tAnd' (dTst (dChain (gLe C.room) (gLe C.room) (dC (.str "0")) (dMeth C "Reader" "sign" 572 (dName 0) aNil) (dC (.str "9")))) (dTst (dBin (gLt C.room) (dFld "Reader" "at" (dName 0)) (dBin gAdd (dName 1) (dC (.int 60)))))) (sFldAug "Reader" 0 "at" gAddI (dC (.int 1))))
  (sRet (dBlt cIntT (rCons (dSl (dFld "Reader" "signs" (dName 0)) (some (dName 1)) (some (dFld "Reader" "at" (dName 0)))) rNil)))))
def b_Reader_word (C : Cs) : Sd := (sSeq (sSet 1 (dFld "Reader" "at" (dName 0)))
  (sSeq (sWhile (tAnd' (dTst (dChain (gLe C.room) (gLe C.room) (dC (.str "a")) (dMeth C "Reader" "sign" 572 (dName 0) aNil) (dC (.str "z")))) (dTst (dBin (gLt C.room) (dFld "Reader" "at" (dName 0)) (dBin gAdd (dName 1) (dC (.int 8)))))) (sFldAug "Reader" 0 "at" gAddI (dC (.int 1))))
  (sSeq (sIf (dTst (dBin (gEq C.room) (dFld "Reader" "at" (dName 0)) (dName 1))) (sRaiseF C.room "BadText" "place" (aCons (dFld "Reader" "at" (dName 0)) aNil)) sNil)
  (sRet (dSl (dFld "Reader" "signs" (dName 0)) (some (dName 1)) (some (dFld "Reader" "at" (dName 0))))))))
def b_Reader_mark (C : Cs) : Sd := (sSeq (sIf (dTst (dBin (gEq C.room) (dMeth C "Reader" "sign" 572 (dName 0) aNil) (dC (.str "0")))) (sSeq (sFldAug "Reader" 0 "at" gAddI (dC (.int 1)))
  (sRet (dC (.int 0)))) sNil)
  (sSeq (sIf (tNot' (dTst (dChain (gLe C.room) (gLe C.room) (dC (.str "1")) (dMeth C "Reader" "sign" 572 (dName 0) aNil) (dC (.str "9"))))) (sRaiseF C.room "BadText" "place" (aCons (dFld "Reader" "at" (dName 0)) aNil)) sNil)
  (sRet (dMeth C "Reader" "number" 573 (dName 0) aNil))))
def b_Reader_whole (C : Cs) : Sd := (sSeq (sIf (dTst (dBin (gEq C.room) (dMeth C "Reader" "sign" 572 (dName 0) aNil) (dC (.str "0")))) (sSeq (sFldAug "Reader" 0 "at" gAddI (dC (.int 1)))
  (sRet (dTup aNil))) sNil)
  (sSeq (sSet 2 (dLst (aCons (dMeth C "Reader" "item" 574 (dName 0) (aCons (dName 1) aNil)) aNil)))
  (sSeq (sWhile (dTst (dBin (gEq C.room) (dMeth C "Reader" "sign" 572 (dName 0) aNil) (dC (.str " ")))) (sSeq (sExpr (dMeth C "Reader" "take" 575 (dName 0) (aCons (dC (.str " | ")) aNil)))
  (sAppend 2 (dMeth C "Reader" "item" 574 (dName 0) (aCons (dName 1) aNil)))))
  (sRet (dBlt cTuple (rCons (dName 2) rNil))))))
def b_Reader_item (C : Cs) : Sd := (sSeq (sSet 2 (dC (.int 1)))
  (sSeq (sIf (dTst (dChain (gLe C.room) (gLe C.room) (dC (.str "1")) (dMeth C "Reader" "sign" 572 (dName 0) aNil) (dC (.str "9")))) (sSeq (sSet 2 (dMeth C "Reader" "number" 573 (dName 0) aNil))
  (sSeq (sIf (dTst (dBin (gEq C.room) (dName 2) (dC (.int 1)))) (sRaiseF C.room "BadText" "place" (aCons (dFld "Reader" "at" (dName 0)) aNil)) sNil)
  (sExpr (dMeth C "Reader" "take" 575 (dName 0) (aCons (dC (.str " ")) aNil))))) sNil)
  (sRet (dTup (aCons (dName 2) (aCons (dMeth C "Reader" "part" 576 (dName 0) (aCons (dName 1) aNil)) aNil))))))
def b_Reader_part (C : Cs) : Sd := (sSeq (sIf (dTst (dBin (gEq C.room) (dMeth C "Reader" "sign" 572 (dName 0) aNil) (dC (.str "?")))) (sSeq (sFldAug "Reader" 0 "at" gAddI (dC (.int 1)))
  (sRet (dTup (aCons (dC (.str "mark")) (aCons (dMeth C "Reader" "mark" 579 (dName 0) aNil) aNil))))) sNil)
  (sSeq (sSet 2 (dMeth C "Reader" "word" 578 (dName 0) aNil))
  (sSeq (sIf (tAnd' (dTst (dBin (gEq C.room) (dBlt cLen (rCons (dName 2) rNil)) (dC (.int 1)))) (dTst (dBin (gEq C.room) (dMeth C "Reader" "sign" 572 (dName 0) aNil) (dC (.str "<"))))) (sSeq (sFldAug "Reader" 0 "at" gAddI (dC (.int 1)))
  (sSeq (sSet 3 (dMeth C "Reader" "whole" 563 (dName 0) (aCons (dName 1) aNil)))
  (sSeq (sExpr (dMeth C "Reader" "take" 575 (dName 0) (aCons (dC (.str ">")) aNil)))
  (sRet (dTup (aCons (dC (.str "letter")) (aCons (dName 2) (aCons (dName 3) aNil)))))))) sNil)
  (sSeq (sIf (tAnd' (dTst (dBin (gEq C.room) (dBlt cLen (rCons (dName 2) rNil)) (dC (.int 1)))) (dTst (dBin (gEq C.room) (dMeth C "Reader" "sign" 572 (dName 0) aNil) (dC (.str "("))))) (sSeq (sFldAug "Reader" 0 "at" gAddI (dC (.int 1)))
  (sSeq (sSet 4 (dMeth C "Reader" "word" 578 (dName 0) aNil))
  (sSeq (sExpr (dMeth C "Reader" "take" 575 (dName 0) (aCons (dC (.str "): ")) aNil)))
  (sRet (dTup (aCons (dC (.str "wait")) (aCons (dName 2) (aCons (dMeth C "Reader" "body" 577 (dName 0) (aCons (dBin gAdd (dLst (aCons (dName 4) aNil)) (dName 1)) aNil)) aNil)))))))) sNil)
  (sSeq (sIf (dTst (dBin (inD false C.room) (dName 2) (dName 1))) (sRet (dTup (aCons (dC (.str "got")) (aCons (dIndexD C.room (dName 1) (dName 2)) aNil)))) sNil)
  (sRet (dTup (aCons (dC (.str "name")) (aCons (dName 2) aNil)))))))))
def b_Reader_body (C : Cs) : Sd := (sSeq (sIf (dTst (dBin (gEq C.room) (dMeth C "Reader" "sign" 572 (dName 0) aNil) (dC (.str "0")))) (sSeq (sFldAug "Reader" 0 "at" gAddI (dC (.int 1)))
  (sRet (dTup aNil))) sNil)
  (sSeq (sIf (dTst (dBin (gNe C.room) (dMeth C "Reader" "sign" 572 (dName 0) aNil) (dC (.str "(")))) (sRet (dTup (aCons (dTup (aCons (dC (.int 1)) (aCons (dMeth C "Reader" "part" 576 (dName 0) (aCons (dName 1) aNil)) aNil))) aNil))) sNil)
  (sSeq (sFldAug "Reader" 0 "at" gAddI (dC (.int 1)))
  (sSeq (sSet 2 (dMeth C "Reader" "whole" 563 (dName 0) (aCons (dName 1) aNil)))
  (sSeq (sExpr (dMeth C "Reader" "take" 575 (dName 0) (aCons (dC (.str ")")) aNil)))
  (sRet (dName 2)))))))
def b_init_Reader (C : Cs) : Sd := (sSeq (sFldO "Reader" 0 "signs" (dName 1))
  (sFldO "Reader" 0 "at" (dC (.int 0))))
end Dl
namespace Dl
open PySem PySem.Spec PyProof.Rows L2 NdefX
end Dl
namespace Dl
open PySem PySem.Spec PyProof.Rows L2 NdefX
end Dl
namespace Dl
open PySem PySem.Spec PyProof.Rows L2 NdefX
end Dl
namespace Dl
open PySem PySem.Spec PyProof.Rows L2 NdefX
end Dl
namespace Dl
open PySem PySem.Spec PyProof.Rows L2 NdefX
end Dl
namespace Dl
open PySem PySem.Spec PyProof.Rows L2 NdefX
def b__law_drawn (C : Cs) : Sd := (sSeq (sSet 1 (dC (.str "")))
  (sSeq (sFor (iRange rg1 (rCons (dBin gAdd (dC (.int 1)) (dCall C 11 (aCons (dName 0) (aCons (dC (.int 8)) aNil)))) rNil)) (gN 2) (sSet 1 (dBin gAdd (dName 1) (dBin gIx (dC (.str "abcdefghijklmnopqrstuvwxyz")) (dCall C 11 (aCons (dName 0) (aCons (dC (.int 26)) aNil)))))))
  (sRet (dName 1))))
def b__law_labels (C : Cs) : Sd := (sSeq (sSet 1 (dLst (aCons (dC (.str "x")) (aCons (dBin gIx (dLst (aCons (dC (.str "y")) (aCons (dC (.str "z")) (aCons (dC (.str "xx")) (aCons (dC (.str "a")) aNil))))) (dCall C 11 (aCons (dName 0) (aCons (dC (.int 4)) aNil)))) (aCons (dCall C 566 (aCons (dName 0) aNil)) aNil)))))
  (sRet (dBin gAdd (dName 1) (dLst (aCons (dBin gIx (dLst (aCons (dC (.int 0)) (aCons (dC (.int 7)) (aCons (dBin gAdd (dBin gPow (dC (.int 10)) (dC (.int 59))) (dC (.int 3))) aNil)))) (dCall C 11 (aCons (dName 0) (aCons (dC (.int 3)) aNil)))) aNil)))))
def b__law_great_567 (C : Cs) : Sd := (sSeq (sSet 2 (dLst aNil))
  (sSeq (sFor (iSeq (dName 1)) (gT 2 (gsCons (gN 3) (gsCons (gN 4) gsNil))) (sSeq (sIf (dTst (dBin (gEq C.room) (dBlt cLen (rCons (dName 4) rNil)) (dC (.int 3)))) (sSet 4 (dTup (aCons (dBin gIx (dName 4) (dC (.int 0))) (aCons (dBin gIx (dName 4) (dC (.int 1))) (aCons (dCall C 567 (aCons (dName 0) (aCons (dBin gIx (dName 4) (dC (.int 2))) aNil))) aNil))))) sNil)
  (sAppend 2 (dTup (aCons (dBin gMul (dName 3) (dBin gIx (dLst (aCons (dC (.int 1)) (aCons (dC (.int 1)) (aCons (dC (.int 1)) (aCons (dBin gAdd (dBin gPow (dC (.int 10)) (dC (.int 20))) (dC (.int 7))) (aCons (dBin gPow (dC (.int 10)) (dC (.int 18))) aNil)))))) (dCall C 11 (aCons (dName 0) (aCons (dC (.int 5)) aNil))))) (aCons (dName 4) aNil))))))
  (sRet (dBlt cTuple (rCons (dName 2) rNil)))))
def b__law_names (C : Cs) : Sd := (sSeq (sSet 1 (dLst aNil))
  (sSeq (sFor (iSeq (dName 0)) (gT 2 (gsCons (gN 2) (gsCons (gN 3) gsNil))) (sSeq (sIf (dTst (dBin (gEq C.room) (dBin gIx (dName 3) (dC (.int 0))) (dC (.str "name")))) (sAppend 1 (dBin gIx (dName 3) (dC (.int 1)))) sNil)
  (sIf (dTst (dBin (gEq C.room) (dBlt cLen (rCons (dName 3) rNil)) (dC (.int 3)))) (sSet 1 (dBin gAdd (dName 1) (dCall C 568 (aCons (dBin gIx (dName 3) (dC (.int 2))) aNil)))) sNil)))
  (sRet (dName 1))))
end Dl
namespace Dl
open PySem PySem.Spec PyProof.Rows L2 NdefX
def b__law_tree (C : Cs) : Sd := (sSeq (sSet 3 (dLst aNil))
  (sSeq (sFor (iRange rg1 (rCons (dC (.int 4)) rNil)) (gN 4) (sSeq (sIf (tOr' (dTst (dBin (gLt C.room) (dName 1) (dC (.int 1)))) (dTst (dBin (gEq C.room) (dCall C 11 (aCons (dName 0) (aCons (dC (.int 5)) aNil))) (dC (.int 0))))) sBreak sNil)
  (sSeq (sSet 5 (dCall C 11 (aCons (dName 0) (aCons (dC (.int 6)) aNil))))
  (sSeq (sSet 6 (dBin gIx (dName 2) (dCall C 11 (aCons (dName 0) (aCons (dBlt cLen (rCons (dName 2) rNil)) aNil)))))
  (sSeq (sSet 7 (dBin gIx (dC (.str "abx")) (dCall C 11 (aCons (dName 0) (aCons (dC (.int 3)) aNil)))))
  (sSeq (sSet 8 (dFrz (dLst (aCons (dC (.str "use")) (aCons (dName 6) aNil)))))
  (sSeq (sIf (dTst (dBin (gEq C.room) (dName 5) (dC (.int 2)))) (sSet 8 (dFrz (dLst (aCons (dC (.str "mark")) (aCons (dCall C 11 (aCons (dName 0) (aCons (dC (.int 30)) aNil))) aNil))))) sNil)
  (sSeq (sIf (tAnd' (dTst (dBin (gEq C.room) (dName 5) (dC (.int 3)))) (dTst (dBin (gGt C.room) (dName 1) (dC (.int 1))))) (sSet 8 (dFrz (dLst (aCons (dC (.str "letter")) (aCons (dName 7) (aCons (dCall C 591 (aCons (dName 0) (aCons (dBin gSub (dName 1) (dC (.int 2))) (aCons (dName 2) aNil)))) aNil)))))) sNil)
  (sSeq (sIf (tAnd' (dTst (dBin (gGt C.room) (dName 5) (dC (.int 3)))) (dTst (dBin (gGt C.room) (dName 1) (dC (.int 1))))) (sSet 8 (dFrz (dLst (aCons (dC (.str "wait")) (aCons (dName 7) (aCons (dName 6) (aCons (dCall C 591 (aCons (dName 0) (aCons (dBin gSub (dName 1) (dC (.int 2))) (aCons (dName 2) aNil)))) (aCons (dBin (gEq C.room) (dCall C 11 (aCons (dName 0) (aCons (dC (.int 2)) aNil))) (dC (.int 0))) aNil)))))))) sNil)
  (sSeq (sAppend 3 (dLst (aCons (dBin gIx (dLst (aCons (dC (.int 1)) (aCons (dC (.int 1)) (aCons (dC (.int 2)) (aCons (dC (.int 10)) (aCons (dC (.int 907)) aNil)))))) (dCall C 11 (aCons (dName 0) (aCons (dC (.int 5)) aNil)))) (aCons (dName 8) aNil))))
  (sSet 1 (dBin gSub (dName 1) (dC (.int 2))))))))))))))
  (sRet (dName 3))))
def b__law_written (C : Cs) : Sd := (sSeq (sSet 1 (dLst aNil))
  (sSeq (sFor (iSeq (dName 0)) (gT 2 (gsCons (gN 2) (gsCons (gN 3) gsNil))) (sSeq (sSet 4 (dBin gIx (dName 3) (dC (.int 1))))
  (sSeq (sIf (dTst (dBin (gEq C.room) (dBin gIx (dName 3) (dC (.int 0))) (dC (.str "mark")))) (sSet 4 (dBin gAdd (dC (.str "?")) (dBlt cStrI (rCons (dBin gIx (dName 3) (dC (.int 1))) rNil)))) sNil)
  (sSeq (sIf (dTst (dBin (gEq C.room) (dBin gIx (dName 3) (dC (.int 0))) (dC (.str "letter")))) (sSet 4 (dBin gAdd (dBin gAdd (dBin gAdd (dBin gIx (dName 3) (dC (.int 1))) (dC (.str "<"))) (dCall C 592 (aCons (dBin gIx (dName 3) (dC (.int 2))) aNil))) (dC (.str ">")))) sNil)
  (sSeq (sIf (dTst (dBin (gEq C.room) (dBin gIx (dName 3) (dC (.int 0))) (dC (.str "wait")))) (sSeq (sSet 5 (dCall C 592 (aCons (dBin gIx (dName 3) (dC (.int 3))) aNil)))
  (sSeq (sIf (tOr' (dTru (dBin gIx (dName 3) (dC (.int 4)))) (tOr' (dTst (dBin (gGt C.room) (dBlt cLen (rCons (dBin gIx (dName 3) (dC (.int 3))) rNil)) (dC (.int 1)))) (tAnd' (dTst (dBin (gEq C.room) (dBlt cLen (rCons (dBin gIx (dName 3) (dC (.int 3))) rNil)) (dC (.int 1)))) (dTst (dBin (gGt C.room) (dBin gIx (dBin gIx (dBin gIx (dName 3) (dC (.int 3))) (dC (.int 0))) (dC (.int 0))) (dC (.int 1))))))) (sSet 5 (dBin gAdd (dBin gAdd (dC (.str "(")) (dName 5)) (dC (.str ")")))) sNil)
  (sSet 4 (dBin gAdd (dBin gAdd (dBin gAdd (dBin gAdd (dBin gIx (dName 3) (dC (.int 1))) (dC (.str "("))) (dBin gIx (dName 3) (dC (.int 2)))) (dC (.str "): "))) (dName 5))))) sNil)
  (sSeq (sIf (dTst (dBin (gGt C.room) (dName 2) (dC (.int 1)))) (sSet 4 (dBin gAdd (dBin gAdd (dBlt cStrI (rCons (dName 2) rNil)) (dC (.str " "))) (dName 4))) sNil)
  (sAppend 1 (dName 4))))))))
  (sSeq (sIf (dTst (dBin (gEq C.room) (dBlt cLen (rCons (dName 1) rNil)) (dC (.int 0)))) (sRet (dC (.str "0"))) sNil)
  (sRet (dJoin " | " (dName 1))))))
def b__law_meant (C : Cs) : Sd := (sSeq (sSet 2 (dLst aNil))
  (sSeq (sFor (iSeq (dName 0)) (gT 2 (gsCons (gN 3) (gsCons (gN 4) gsNil))) (sSeq (sSet 5 (dTup (aCons (dC (.str "mark")) (aCons (dBin gIx (dName 4) (dC (.int 1))) aNil))))
  (sSeq (sIf (dTst (dBin (gEq C.room) (dBin gIx (dName 4) (dC (.int 0))) (dC (.str "use")))) (sSeq (sSet 6 (dComp (iRange rg1 (rCons (dBlt cLen (rCons (dName 1) rNil)) rNil)) [7] (gN 7) (dTst (dBin (gEq C.room) (dBin gIx (dName 1) (dName 7)) (dBin gIx (dName 4) (dC (.int 1))))) (dName 7)))
  (sSeq (sSet 5 (dTup (aCons (dC (.str "name")) (aCons (dBin gIx (dName 4) (dC (.int 1))) aNil))))
  (sIf (dTst (dBin (gGt C.room) (dBlt cLen (rCons (dName 6) rNil)) (dC (.int 0)))) (sSet 5 (dTup (aCons (dC (.str "got")) (aCons (dBin gSub (dBin gSub (dBlt cLen (rCons (dName 1) rNil)) (dC (.int 1))) (dBin gIx (dName 6) (dBin gSub (dBlt cLen (rCons (dName 6) rNil)) (dC (.int 1))))) aNil)))) sNil))) sNil)
  (sSeq (sIf (dTst (dBin (gEq C.room) (dBin gIx (dName 4) (dC (.int 0))) (dC (.str "letter")))) (sSet 5 (dTup (aCons (dC (.str "letter")) (aCons (dBin gIx (dName 4) (dC (.int 1))) (aCons (dCall C 593 (aCons (dBin gIx (dName 4) (dC (.int 2))) (aCons (dName 1) aNil))) aNil))))) sNil)
  (sSeq (sIf (dTst (dBin (gEq C.room) (dBin gIx (dName 4) (dC (.int 0))) (dC (.str "wait")))) (sSet 5 (dTup (aCons (dC (.str "wait")) (aCons (dBin gIx (dName 4) (dC (.int 1))) (aCons (dCall C 593 (aCons (dBin gIx (dName 4) (dC (.int 3))) (aCons (dBin gAdd (dName 1) (dLst (aCons (dBin gIx (dName 4) (dC (.int 2))) aNil))) aNil))) aNil))))) sNil)
  (sAppend 2 (dTup (aCons (dName 3) (aCons (dName 5) aNil)))))))))
  (sRet (dBlt cTuple (rCons (dName 2) rNil)))))
end Dl
namespace Dl
open PySem PySem.Spec PyProof.Rows L2 NdefX
def b__law_word (C : Cs) : Sd := (sSeq (sSet 1 (dC (.int 3)))
  (sSeq (sSet 2 (dC (.int 1)))
  (sSeq (sFor (iRange rg1 (rCons (dC (.int 6)) rNil)) (gN 3) (sIf (dTst (dBin (gGe C.room) (dName 0) (dName 1))) (sSeq (sSet 0 (dBin gSub (dName 0) (dName 1)))
  (sSeq (sSet 1 (dBin gMul (dName 1) (dC (.int 3))))
  (sSet 2 (dBin gAdd (dName 2) (dC (.int 1)))))) sNil))
  (sSeq (sSet 4 (dC (.str "")))
  (sSeq (sFor (iRange rg1 (rCons (dName 2) rNil)) (gN 3) (sSeq (sSet 4 (dBin gAdd (dBin gIx (dC (.str "xyz")) (dBin gMod (dBlt cInt (rCons (dName 0) rNil)) (dC (.int 3)))) (dName 4)))
  (sSet 0 (dBin gFdiv (dName 0) (dC (.int 3))))))
  (sRet (dName 4)))))))
def b__law_free (C : Cs) : Sd := (sSeq (sSet 1 (dComp (iRange rg1 (rCons (dBin gAdd (dBlt cLen (rCons (dName 0) rNil)) (dC (.int 1))) rNil)) [2] (gN 2) (dTst (dBin (inD true C.room) (dCall C 583 (aCons (dName 2) aNil)) (dName 0))) (dName 2)))
  (sRet (dCall C 583 (aCons (dBin gIx (dName 1) (dC (.int 0))) aNil))))
def b__law_text (C : Cs) : Sd := (sSeq (sSet 3 (dLst aNil))
  (sSeq (sFor (iSeq (dName 0)) (gT 2 (gsCons (gN 4) (gsCons (gN 5) gsNil))) (sSeq (sSet 6 (dBin gIx (dName 5) (dC (.int 1))))
  (sSeq (sIf (dTst (dBin (gEq C.room) (dBin gIx (dName 5) (dC (.int 0))) (dC (.str "mark")))) (sSet 6 (dBin gAdd (dC (.str "?")) (dBlt cStrI (rCons (dBin gIx (dName 5) (dC (.int 1))) rNil)))) sNil)
  (sSeq (sIf (dTst (dBin (gEq C.room) (dBin gIx (dName 5) (dC (.int 0))) (dC (.str "got")))) (sSet 6 (dBin gIx (dName 1) (dBin gSub (dBin gSub (dBlt cLen (rCons (dName 1) rNil)) (dC (.int 1))) (dBin gIx (dName 5) (dC (.int 1)))))) sNil)
  (sSeq (sIf (dTst (dBin (gEq C.room) (dBin gIx (dName 5) (dC (.int 0))) (dC (.str "letter")))) (sSet 6 (dBin gAdd (dBin gAdd (dBin gAdd (dBin gIx (dName 5) (dC (.int 1))) (dC (.str "<"))) (dCall C 584 (aCons (dBin gIx (dName 5) (dC (.int 2))) (aCons (dName 1) (aCons (dName 2) aNil))))) (dC (.str ">")))) sNil)
  (sSeq (sIf (dTst (dBin (gEq C.room) (dBin gIx (dName 5) (dC (.int 0))) (dC (.str "wait")))) (sSeq (sSet 7 (dCall C 585 (aCons (dBin gAdd (dName 1) (dName 2)) aNil)))
  (sSeq (sSet 8 (dCall C 584 (aCons (dBin gIx (dName 5) (dC (.int 2))) (aCons (dBin gAdd (dName 1) (dLst (aCons (dName 7) aNil))) (aCons (dName 2) aNil)))))
  (sSeq (sIf (tOr' (dTst (dBin (gGt C.room) (dBlt cLen (rCons (dBin gIx (dName 5) (dC (.int 2))) rNil)) (dC (.int 1)))) (tAnd' (dTst (dBin (gEq C.room) (dBlt cLen (rCons (dBin gIx (dName 5) (dC (.int 2))) rNil)) (dC (.int 1)))) (dTst (dBin (gGt C.room) (dBin gIx (dBin gIx (dBin gIx (dName 5) (dC (.int 2))) (dC (.int 0))) (dC (.int 0))) (dC (.int 1)))))) (sSet 8 (dBin gAdd (dBin gAdd (dC (.str "(")) (dName 8)) (dC (.str ")")))) sNil)
  (sSet 6 (dBin gAdd (dBin gAdd (dBin gAdd (dBin gAdd (dBin gIx (dName 5) (dC (.int 1))) (dC (.str "("))) (dName 7)) (dC (.str "): "))) (dName 8)))))) sNil)
  (sSeq (sIf (dTst (dBin (gGt C.room) (dName 4) (dC (.int 1)))) (sSet 6 (dBin gAdd (dBin gAdd (dBlt cStrI (rCons (dName 4) rNil)) (dC (.str " "))) (dName 6))) sNil)
  (sAppend 3 (dName 6)))))))))
  (sSeq (sIf (dTst (dBin (gEq C.room) (dBlt cLen (rCons (dName 3) rNil)) (dC (.int 0)))) (sRet (dC (.str "0"))) sNil)
  (sRet (dJoin " | " (dName 3))))))
def b__law_chain (C : Cs) : Sd := (sSeq (sSet 4 (dTup aNil))
  (sSeq (sIf (tAnd' (dTst (dBin (gGt C.room) (dName 1) (dC (.int 0)))) (dTst (dBin (gGt C.room) (dCall C 11 (aCons (dName 0) (aCons (dC (.int 3)) aNil))) (dC (.int 0))))) (sSet 4 (dTup (aCons (dTup (aCons (dBin gAdd (dC (.int 1)) (dCall C 11 (aCons (dName 0) (aCons (dC (.int 2)) aNil)))) (aCons (dTup (aCons (dC (.str "got")) (aCons (dCall C 11 (aCons (dName 0) (aCons (dName 1) aNil))) aNil))) aNil))) aNil))) (sIf (dTst (dBin (gEq C.room) (dCall C 11 (aCons (dName 0) (aCons (dC (.int 2)) aNil))) (dC (.int 0)))) (sSet 4 (dTup (aCons (dTup (aCons (dC (.int 1)) (aCons (dTup (aCons (dC (.str "name")) (aCons (dBin gIx (dName 3) (dCall C 11 (aCons (dName 0) (aCons (dBlt cLen (rCons (dName 3) rNil)) aNil)))) aNil))) aNil))) aNil))) sNil))
  (sSeq (sIf (dTst (dBin (gGt C.room) (dName 2) (dC (.int 0)))) (sSeq (sSet 5 (dCall C 586 (aCons (dName 0) (aCons (dBin gAdd (dName 1) (dC (.int 1))) (aCons (dBin gSub (dName 2) (dC (.int 1))) (aCons (dName 3) aNil))))))
  (sSet 4 (dBin gAdd (dName 4) (dTup (aCons (dTup (aCons (dBin gAdd (dC (.int 1)) (dBin gFdiv (dCall C 11 (aCons (dName 0) (aCons (dC (.int 3)) aNil))) (dC (.int 2)))) (aCons (dTup (aCons (dC (.str "wait")) (aCons (dBin gIx (dC (.str "abc")) (dCall C 11 (aCons (dName 0) (aCons (dC (.int 3)) aNil)))) (aCons (dName 5) aNil)))) aNil))) aNil))))) sNil)
  (sRet (dName 4)))))
end Dl
namespace Dl
open PySem PySem.Spec PyProof.Rows L2 NdefX
def mt24 : List (Str × Str × Bool) := [("BadText", "BadText", true)]
def b__law_piece (C : Cs) : Sd := (sSeq (sSet 1 (dLst (aCons (dC (.str "0")) (aCons (dC (.str "1")) (aCons (dC (.str "1 ")) (aCons (dC (.str "2 ")) (aCons (dC (.str "10 ")) (aCons (dC (.str " ")) (aCons (dC (.str " | ")) (aCons (dC (.str "|")) (aCons (dC (.str "<")) (aCons (dC (.str ">")) (aCons (dC (.str "(")) (aCons (dC (.str ")")) (aCons (dC (.str ":")) (aCons (dC (.str "): ")) (aCons (dC (.str "?")) (aCons (dC (.str "?0")) (aCons (dC (.str "x")) (aCons (dC (.str "a(")) (aCons (dC (.str "a<")) aNil)))))))))))))))))))))
  (sSeq (sSet 1 (dBin gAdd (dName 1) (dLst (aCons (dC (.str "<0>")) (aCons (dC (.str "(x): ")) (aCons (dC (.str "abcdefgh")) (aCons (dC (.str "abcdefghi")) (aCons (dBin gMulS (dC (.str "9")) (dC (.int 60))) (aCons (dBin gMulS (dC (.str "9")) (dC (.int 61))) (aCons (dC (.str "01")) (aCons (dC (.str "A")) (aCons (dC (.str "\n")) (aCons (dC (.str "(0)")) (aCons (dC (.str "x | 0")) aNil))))))))))))))
  (sSeq (sSet 2 (dC (.str " !#$&*+,-./0123456789;=@ABCDEFGHIJKLMNOPQRSTUVWXYZ[]^_abcdefghijklmnopqrstuvwxyz{|}~")))
  (sSeq (sSet 3 (dCall C 11 (aCons (dName 0) (aCons (dBin gAdd (dBlt cLen (rCons (dName 1) rNil)) (dC (.int 6))) aNil))))
  (sSeq (sIf (dTst (dBin (gLt C.room) (dName 3) (dBlt cLen (rCons (dName 1) rNil)))) (sRet (dBin gIx (dName 1) (dName 3))) sNil)
  (sRet (dBin gIx (dName 2) (dCall C 11 (aCons (dName 0) (aCons (dBlt cLen (rCons (dName 2) rNil)) aNil))))))))))
def b__law_spoiled_596 (C : Cs) : Sd := (sSeq (sSet 2 (dCall C 11 (aCons (dName 0) (aCons (dBin gAdd (dBlt cLen (rCons (dName 1) rNil)) (dC (.int 1))) aNil))))
  (sSeq (sSet 3 (dCall C 11 (aCons (dName 0) (aCons (dC (.int 5)) aNil))))
  (sSeq (sIf (dTst (dBin (gEq C.room) (dName 3) (dC (.int 0)))) (sRet (dBin gAdd (dSl (dName 1) none (some (dName 2))) (dSl (dName 1) (some (dBin gAdd (dBin gAdd (dName 2) (dC (.int 1))) (dCall C 11 (aCons (dName 0) (aCons (dC (.int 3)) aNil))))) none))) sNil)
  (sSeq (sIf (dTst (dBin (gEq C.room) (dName 3) (dC (.int 1)))) (sRet (dSl (dName 1) none (some (dName 2)))) sNil)
  (sRet (dBin gAdd (dBin gAdd (dSl (dName 1) none (some (dName 2))) (dCall C 595 (aCons (dName 0) aNil))) (dSl (dName 1) (some (dBin gAdd (dName 2) (dBin gFdiv (dName 3) (dC (.int 4))))) none)))))))
def b__law_drawn_text (C : Cs) : Sd := (sSeq (sSet 1 (dFrz (dLst (aCons (dC (.str "x")) (aCons (dC (.str "a")) (aCons (dCall C 566 (aCons (dName 0) aNil)) aNil))))))
  (sSeq (sSet 2 (dCall C 592 (aCons (dCall C 591 (aCons (dName 0) (aCons (dBin gAdd (dC (.int 1)) (dCall C 11 (aCons (dName 0) (aCons (dC (.int 9)) aNil)))) (aCons (dName 1) aNil)))) aNil)))
  (sSeq (sFor (iRange rg1 (rCons (dCall C 11 (aCons (dName 0) (aCons (dC (.int 4)) aNil))) rNil)) (gN 3) (sSet 2 (dCall C 596 (aCons (dName 0) (aCons (dName 2) aNil)))))
  (sRet (dName 2)))))
def b__law_place (C : Cs) : Sd := (sSeq (sSet 1 (dC .non))
  (sSeq (sSet 2 (dTup aNil))
  (sSeq (sTryM (mtL mt24) (sSet 2 (dCall C 524 (aCons (dName 0) aNil))) [("BadText", (some 3), (sSet 1 (dExF ["BadText"] 3 "place")))])
  (sSeq (sIf (tAnd' (dTst (dBin gIs (dName 1) (dC .non))) (tNot' (dTru (dIsi .tuple (dName 2))))) (sSet 1 (dUn gNeg (dC (.int 5)))) sNil)
  (sRet (dName 1))))))
def b__law_begins (C : Cs) : Sd := (sSeq (sSet 1 (dCall C 605 (aCons (dName 0) aNil)))
  (sSeq (sIf (dTst (dBin gIs (dName 1) (dC .non))) (sRet (dC (.bl true))) sNil)
  (sSeq (sIf (tOr' (dTst (dBin (gNe C.room) (dName 1) (dBlt cLen (rCons (dName 0) rNil)))) (dTru (dIsi .bool (dName 1)))) (sRet (dC (.bl false))) sNil)
  (sSeq (sSet 2 (dComp (iTxt (dC (.str "0a) >:|"))) [3] (gN 3) (dTst (dBin (inD false C.room) (dCall C 605 (aCons (dBin gAdd (dName 0) (dName 3)) aNil)) (dLst (aCons (dC .non) (aCons (dBin gAdd (dBlt cLen (rCons (dName 0) rNil)) (dC (.int 1))) aNil))))) (dName 3)))
  (sRet (dBin (gGt C.room) (dBlt cLen (rCons (dName 2) rNil)) (dC (.int 0))))))))
def b_law_607 (C : Cs) : Sd := (sSeq (sSetW 1 (dCall C 22 (aCons (dName 0) aNil)))
  (sSeq (sFor (iRange rg1 (rCons (dC (.int 3)) rNil)) (gN 2) (sSeq (sSet 3 (dCall C 602 (aCons (dName 1) aNil)))
  (sSeq (sSet 4 (dCall C 605 (aCons (dName 3) aNil)))
  (sIf (tOr' (dTst (dBin gIs (dName 4) (dC .non))) (dTst (dBin (gEq C.room) (dName 4) (dBlt cLen (rCons (dName 3) rNil))))) (sSeq (sFor (iRange rg1 (rCons (dC (.int 5)) rNil)) (gN 5) (sIf (tNot' (dTru (dCall C 606 (aCons (dSl (dName 3) none (some (dCall C 11 (aCons (dName 1) (aCons (dBin gAdd (dBlt cLen (rCons (dName 3) rNil)) (dC (.int 1))) aNil))))) aNil)))) (sRet (dC (.bl false))) sNil))
  (sIf (tNot' (dTru (dCall C 606 (aCons (dName 3) aNil)))) (sRet (dC (.bl false))) sNil)) (sSeq (sIf (tOr' (dTru (dIsi .bool (dName 4))) (tOr' (dTst (dBin (gLt C.room) (dName 4) (dC (.int 0)))) (tOr' (dTst (dBin (gGt C.room) (dName 4) (dBlt cLen (rCons (dName 3) rNil)))) (tNot' (dTru (dCall C 606 (aCons (dSl (dName 3) none (some (dName 4))) aNil))))))) (sRet (dC (.bl false))) sNil)
  (sSeq (sSet 6 (dSl (dName 3) none (some (dBin gAdd (dName 4) (dC (.int 1))))))
  (sFor (iSeq (dLst (aCons (dC (.str "")) (aCons (dC (.str "0")) (aCons (dC (.str " | x")) (aCons (dC (.str ">")) (aCons (dC (.str "a<0>")) (aCons (dCall C 595 (aCons (dName 1) aNil)) (aCons (dCall C 595 (aCons (dName 1) aNil)) aNil))))))))) (gN 7) (sIf (dTst (dBin (gNe C.room) (dCall C 605 (aCons (dBin gAdd (dName 6) (dName 7)) aNil)) (dName 4))) (sRet (dC (.bl false))) sNil))))))))
  (sRet (dC (.bl true)))))
end Dl
namespace Dl
open PySem PySem.Spec PyProof.Rows L2 NdefX
mutual
inductive Pa where
  | name (x : Str) | mark (n : Nat) | got (n : Nat) | letter (x : Str) (b : Pl) | wait (x : Str) (b : Pl)
inductive Pl where
  | nil | cons (c : Nat) (p : Pa) (r : Pl)
end
mutual
def Pa.d : Pa → D
  | .name x => .tup [.str "name", .str x]
  | .mark n => .tup [.str "mark", .int n]
  | .got n => .tup [.str "got", .int n]
  | .letter x b => .tup [.str "letter", .str x, .tup b.ds]
  | .wait x b => .tup [.str "wait", .str x, .tup b.ds]
def Pl.ds : Pl → List D
  | .nil => []
  | .cons c p r => .tup [.int c, p.d] :: r.ds
end
abbrev Pl.d (p : Pl) : D := .tup p.ds
mutual
def Pa.dep : Pa → Nat
  | .letter _ b => b.dep + 1
  | .wait _ b => b.dep + 1
  | _ => 0
def Pl.dep : Pl → Nat
  | .nil => 0
  | .cons _ p r => max p.dep r.dep
end
def smallS : Str := "abcdefghijklmnopqrstuvwxyz"
def wordB (x : Str) : Bool := decide (1 ≤ x.length) && decide (x.length ≤ 8) && x.cps.toList.all (fun c => decide (c ∈ smallS.cps.toList))
def doorB (x : Str) : Bool := wordB x && decide (x.length = 1)
mutual
def Pa.ok : Pa → Nat → Bool
  | .name x, _ => wordB x
  | .mark _, _ => true
  | .got n, k => decide (n < k)
  | .letter x b, k => doorB x && b.ok k
  | .wait x b, k => doorB x && b.ok (k + 1)
def Pl.ok : Pl → Nat → Bool
  | .nil, _ => true
  | .cons c p r, k => decide (1 ≤ c) && p.ok k && r.ok k
end
section
variable {a b : D} {l k : List D} {s t : Str} {i j : Int}
@[simp] theorem eqt_cc : (D.tup (a :: l)).eq (.tup (b :: k)) = (a.eq b && (D.tup l).eq (.tup k)) := rfl
@[simp] theorem eqt_nn : (D.tup []).eq (.tup []) = true := rfl
@[simp] theorem eqt_nc : (D.tup []).eq (.tup (b :: k)) = false := rfl
@[simp] theorem eqt_cn : (D.tup (a :: l)).eq (.tup []) = false := rfl
@[simp] theorem eq_ss : (D.str s).eq (.str t) = decide (s = t) := by rfl
@[simp] theorem eq_ii : (D.int i).eq (.int j) = decide (i = j) := by rfl
@[simp] theorem eq_is : (D.int i).eq (.str t) = false := rfl
@[simp] theorem eq_si : (D.str t).eq (.int i) = false := rfl
@[simp] theorem eq_it : (D.int i).eq (.tup k) = false := rfl
@[simp] theorem eq_st : (D.str t).eq (.tup k) = false := rfl
@[simp] theorem eq_ti : (D.tup k).eq (.int i) = false := rfl
@[simp] theorem eq_ts : (D.tup k).eq (.str t) = false := rfl
@[simp] theorem dept_c : (D.tup (a :: l)).dep = max (a.dep + 1) (D.tup l).dep := by
  show max a.dep (D.depL l) + 1 = max (a.dep + 1) (D.depL l + 1)
  omega
@[simp] theorem dept_n : (D.tup []).dep = 1 := rfl
end
theorem gEq_t {rm : Nat} {k l : List D} (h : (D.tup l).dep ≤ rm) : gEq rm (.tup k) (.tup l) = some (.dat (.bl ((D.tup k).eq (.tup l)))) := by
  unfold gEq
  rw [if_pos (by omega)]
theorem at_0 {α : Type} {a : α} {l : List α} : atI (a :: l) 0 = some a := by
  have := atI_get (l := a :: l) (k := 0) (by simp)
  simpa using this
theorem at_1 {α : Type} {a b : α} {l : List α} : atI (a :: b :: l) 1 = some b := by
  have := atI_get (l := a :: b :: l) (k := 1) (by simp)
  simpa using this
theorem at_2 {α : Type} {a b c : α} {l : List α} : atI (a :: b :: c :: l) 2 = some c := by
  have := atI_get (l := a :: b :: c :: l) (k := 2) (by simp)
  simpa using this
structure HasC (tbl : Nat → Option DefB) : Prop where
  t1 : tbl 1 = some ⟨1, 1, b_is_integer⟩
  t2 : tbl 2 = some ⟨3, 3, b_is_within⟩
  t4 : tbl 4 = some ⟨1, 1, b_is_pair⟩
  t27 : tbl 27 = some ⟨1, 1, b_is_triple⟩
  t24 : tbl 24 = some ⟨1, 2, b_is_word⟩
  t26 : tbl 26 = some ⟨1, 1, b_is_door⟩
  t28 : tbl 28 = some ⟨2, 2, b_is_part⟩
  t25 : tbl 25 = some ⟨2, 3, b_is_plan_in⟩
theorem succ_of {n k : Nat} (h : k + 1 ≤ n) : ∃ m, n = m + 1 ∧ k ≤ m := ⟨n - 1, by omega, by omega⟩
section
variable {tbl : Nat → Option DefB} (T : HasC tbl)
include T
end
end Dl
namespace Dl
open PySem PySem.Spec PyProof.Rows L2 NdefX
theorem seqN {a b : Sd} {env env' : Ev} {w w' : World} (h : a env w = .ok (.nx env') w') : sSeq a b env w = b env' w' := by rw [sSeq_ap, h]; rfl
theorem seqR {a b : Sd} {env : Ev} {w w' : World} {r : RV} (h : a env w = .ok (.rt r) w') : sSeq a b env w = .ok (.rt r) w' := by rw [sSeq_ap, h]; rfl
theorem seqX {a b : Sd} {env e : Ev} {w w' : World} {x : Exn} (h : a env w = .exc x e w') : sSeq a b env w = .exc x e w' := by rw [sSeq_ap, h]; rfl
def sL (l : List Nat) : Str := ⟨l.toArray⟩
@[simp] theorem sL_cs (l : List Nat) : (sL l).cps.toList = l := by simp [sL]
theorem cs_sL (s : Str) : sL s.cps.toList = s := by cases s; simp [sL]
@[simp] theorem sL_len (l : List Nat) : (sL l).length = l.length := by simp [sL, Str.length]
theorem sL_inj {a b : List Nat} : sL a = sL b ↔ a = b := ⟨fun h => by have := congrArg (fun s : Str => s.cps.toList) h; simpa using this, fun h => by rw [h]⟩
theorem sL_app (a b : List Nat) : sL a ++ sL b = sL (a ++ b) := by
  show (⟨(sL a).cps ++ (sL b).cps⟩ : Str) = _
  unfold sL
  simp
theorem sL_ok (l : List Nat) : PyData.strOk (sL l) = l.all fun c => decide (c < 0x110000) := by
  unfold PyData.strOk
  show Array.all l.toArray _ = _
  rw [List.all_toArray]
theorem gAdd_sL {a b : List Nat} (h : a.length + b.length ≤ 16000000) : gAdd (.str (sL a)) (.str (sL b)) = some (.dat (.str (sL (a ++ b)))) := by
  show (if (sL a).length + (sL b).length ≤ sizeLine then some (RV.dat (.str (sL a ++ sL b))) else none) = _
  rw [if_pos (by rw [sL_len, sL_len, sizeLine_eq]; omega), sL_app]
theorem gSl_sL {a : List Nat} {lo hi : Option Int} : gSl lo hi (.str (sL a)) = some (.dat (.str (sL (cutD a lo hi)))) := by
  show some (RV.dat (.str ⟨(cutD (sL a).cps.toList lo hi).toArray⟩)) = _
  rw [sL_cs]
  rfl
theorem cutD_mid {α : Type} {l : List α} {b e : Nat} (h : b ≤ e) : cutD l (some (b : Int)) (some (e : Int)) = (l.drop b).take (e - b) := by
  unfold cutD
  rw [HT.sIx_nat, HT.sIx_nat]
  by_cases hb : b ≤ l.length
  · rw [Nat.min_eq_left hb]
    by_cases he : e ≤ l.length
    · rw [Nat.min_eq_left he]
    · rw [Nat.min_eq_right (by omega), List.take_of_length_le (by simp), List.take_of_length_le (by simp; omega)]
  · rw [Nat.min_eq_right (by omega), List.drop_of_length_le (by omega), List.drop_of_length_le (by omega)]
    simp
def dgt (n : Nat) : List Nat := (Nat.toDigits 10 n).map Char.toNat
theorem dgt_str (n : Nat) : Str.ofString (toString (n : Int)) = sL (dgt n) := by
  rw [← cs_sL (Str.ofString (toString (n : Int))), PySem.W.KIN.signs_num]
  rfl
theorem dgt_lt {n : Nat} (h : n < 10) : dgt n = [48 + n] := by
  unfold dgt
  rw [Nat.toDigits_of_lt_base h]
  have : ∀ d : Nat, d < 10 → (Nat.digitChar d).toNat = 48 + d := by decide
  simp [this n h]
theorem dgt_step {q r : Nat} (hq : 0 < q) (hr : r < 10) : dgt (10 * q + r) = dgt q ++ [48 + r] := by
  have t : Nat.toDigits 10 q ++ Nat.toDigits 10 r = Nat.toDigits 10 (10 * q + r) := Nat.toDigits_append_toDigits (by decide) hq hr
  rw [← dgt_lt hr]
  unfold dgt
  rw [← t, List.map_append]
theorem dgt_all (n : Nat) : ∀ c ∈ dgt n, 48 ≤ c ∧ c ≤ 57 := by
  intro c hc
  obtain ⟨ch, hch, e⟩ := List.mem_map.mp hc
  rw [← e]
  exact digit_range (Nat.isDigit_of_mem_toDigits (by decide) (by decide) hch)
theorem dgt_val (n : Nat) : NumText.digitsVal (dgt n) = n := PySem.W.KIN.val_back n
theorem dgt_head {n : Nat} (h : 0 < n) : ∃ c l, dgt n = c :: l ∧ 49 ≤ c ∧ c ≤ 57 := by
  induction n using Nat.strongRecOn with
  | _ n ih =>
    by_cases h1 : n < 10
    · exact ⟨48 + n, [], dgt_lt h1, by omega, by omega⟩
    · obtain ⟨c, l, e, h2⟩ := ih (n / 10) (by omega) (by omega)
      have := dgt_step (q := n / 10) (r := n % 10) (by omega) (by omega)
      rw [Nat.div_add_mod] at this
      exact ⟨c, l ++ [48 + n % 10], by rw [this, e]; rfl, h2⟩
theorem dgt_len {n k : Nat} (hk : 0 < k) (h : n < 10 ^ k) : (dgt n).length ≤ k := by
  have := toString_length_le (v := (n : Int)) (by omega) hk (by exact_mod_cast h)
  rw [dgt_str, sL_len] at this
  exact this
theorem ok_dig {l : List Nat} (h : ∀ c ∈ l, 48 ≤ c ∧ c ≤ 57) : PyData.strOk (sL l) = true := by
  rw [sL_ok, List.all_eq_true]
  intro c hc
  have := h c hc
  simp
  omega
theorem join_sL : ∀ (sep x : List Nat) (r : List (List Nat)), Txt.join (sL sep) (sL x :: r.map sL) = sL (x ++ r.flatMap fun y => sep ++ y) := by
  intro sep x r
  unfold Txt.join Builtin.Str.glued
  have go : ∀ (r : List (List Nat)) (acc : Array Nat), (r.map sL).foldl (fun acc p => acc ++ (sL sep).cps ++ p.cps) acc = acc ++ (r.flatMap fun y => sep ++ y).toArray := by
    intro r
    induction r with
    | nil => intro acc; simp
    | cons y r ih =>
      intro acc
      rw [List.map_cons, List.foldl_cons, ih]
      simp [sL]
  show (⟨(r.map sL).foldl (fun acc p => acc ++ (sL sep).cps ++ p.cps) (sL x).cps⟩ : Str) = _
  rw [go]
  simp [sL]
theorem strsOf_map (l : List (List Nat)) : strsOf (l.map fun x => D.str (sL x)) = some (l.map sL) := by
  induction l with
  | nil => rfl
  | cons x r ih =>
    rw [List.map_cons, List.map_cons]
    unfold strsOf
    rw [ih]
    rfl
theorem sum_flat (l : List (List Nat)) : ((l.map sL).map (·.length)).sum = l.flatten.length := by
  induction l with
  | nil => rfl
  | cons x r ih =>
    simp only [List.map_cons, List.sum_cons, sL_len, List.flatten_cons, List.length_append, ih]
end Dl
namespace Dl
open PySem PySem.Spec PyProof.Rows L2 NdefX
structure HasDg (tbl : Nat → Option DefB) : Prop where
  t517 : tbl 517 = some ⟨1, 3, b_digits_of⟩
def strD (l : List Nat) : D := .str (sL l)
theorem cStrI_nat {n : Nat} (h : n < 1000000000000000000) : cStrI [.int (n : Int)] = some (.dat (strD (dgt n))) := by
  have hl : (dgt n).length ≤ 18 := dgt_len (by decide) (by simpa using h)
  show (if (n : Int).natAbs.log2 < 1920 ∧ PyData.strOk (Str.ofString (toString (n : Int))) = true ∧ (Str.ofString (toString (n : Int))).length ≤ sizeLine then some (RV.dat (.str (Str.ofString (toString (n : Int))))) else none) = _
  have hg : (n : Int).natAbs.log2 < 1920 := by
    rw [Int.natAbs_natCast]
    by_cases h0 : n = 0
    · subst h0; decide
    · rw [Nat.log2_lt h0]
      exact Nat.lt_of_lt_of_le h (by decide)
  rw [dgt_str, if_pos ⟨hg, ok_dig (dgt_all n), by rw [sL_len, sizeLine_eq]; omega⟩]
  rfl
def wrd : Nat → List Nat
  | 0 => []
  | m + 1 => wrd (m / 3) ++ [120 + m % 3]
termination_by m => m
decreasing_by omega
def wordN (n : Nat) : List Nat := wrd (n + 1)
theorem wrd_inj : ∀ {a b : Nat}, wrd a = wrd b → a = b
  | 0, 0, _ => rfl
  | 0, b + 1, h => by rw [wrd, wrd] at h; simp at h
  | a + 1, 0, h => by rw [wrd, wrd] at h; simp at h
  | a + 1, b + 1, h => by
    rw [wrd, wrd] at h
    obtain ⟨h1, h2⟩ := List.append_inj' h rfl
    have h3 : a / 3 = b / 3 := wrd_inj h1
    simp at h2
    omega
termination_by a => a
decreasing_by omega
theorem wordN_inj {a b : Nat} (h : wordN a = wordN b) : a = b := by
  have := wrd_inj h
  omega
theorem wrd_all : ∀ m, ∀ c ∈ wrd m, 120 ≤ c ∧ c ≤ 122
  | 0, c, h => by rw [wrd] at h; cases h
  | m + 1, c, h => by
    rw [wrd] at h
    rcases List.mem_append.mp h with z | z
    · exact wrd_all (m / 3) c z
    · rw [List.mem_singleton.mp z]; omega
termination_by m => m
decreasing_by omega
theorem wrd_len : ∀ (k m : Nat), 2 * m < 3 ^ (k + 1) - 1 → (wrd m).length ≤ k
  | k, 0, _ => by rw [wrd]; simp
  | 0, m + 1, h => by simp at h; omega
  | k + 1, m + 1, h => by
    rw [wrd, List.length_append, List.length_singleton]
    have := wrd_len k (m / 3) (by rw [Nat.pow_succ] at h; omega)
    omega
theorem wordN_ne (n : Nat) : wordN n ≠ [] := by
  unfold wordN
  rw [wrd]
  simp
structure HasWd (tbl : Nat → Option DefB) : Prop where
  t514 : tbl 514 = some ⟨1, 3, b_word_at⟩
  t516 : tbl 516 = some ⟨1, 2, b_free_word⟩
end Dl
namespace Dl
open PySem PySem.Spec PyProof.Rows L2 NdefX
theorem ne_1 : ¬ Str.ofString "mark" = Str.ofString "name" := by decide +kernel
theorem ne_2 : ¬ Str.ofString "got" = Str.ofString "name" := by decide +kernel
theorem ne_3 : ¬ Str.ofString "got" = Str.ofString "mark" := by decide +kernel
theorem ne_4 : ¬ Str.ofString "letter" = Str.ofString "wait" := by decide +kernel
theorem ne_5 : ¬ Str.ofString "wait" = Str.ofString "letter" := by decide +kernel
theorem ne_6 : ¬ Str.ofString "name" = Str.ofString "letter" := by decide +kernel
theorem ne_7 : ¬ Str.ofString "name" = Str.ofString "wait" := by decide +kernel
theorem ne_8 : ¬ Str.ofString "mark" = Str.ofString "letter" := by decide +kernel
theorem ne_9 : ¬ Str.ofString "mark" = Str.ofString "wait" := by decide +kernel
theorem ne_10 : ¬ Str.ofString "got" = Str.ofString "letter" := by decide +kernel
theorem ne_11 : ¬ Str.ofString "got" = Str.ofString "wait" := by decide +kernel
theorem ne_14 : ¬ Str.ofString "name" = Str.ofString "got" := by decide +kernel
theorem ne_15 : ¬ Str.ofString "mark" = Str.ofString "got" := by decide +kernel
theorem ne_18 : ¬ Str.ofString "name" = Str.ofString "mark" := by decide +kernel
theorem ne_19 : ¬ Str.ofString "letter" = Str.ofString "mark" := by decide +kernel
theorem ne_20 : ¬ Str.ofString "wait" = Str.ofString "mark" := by decide +kernel
def Pa.l : Pa → List D
  | .name x => [.str "name", .str x]
  | .mark n => [.str "mark", .int n]
  | .got n => [.str "got", .int n]
  | .letter x b => [.str "letter", .str x, .tup b.ds]
  | .wait x b => [.str "wait", .str x, .tup b.ds]
section
variable {tbl : Nat → Option DefB} (T : HasC tbl)
include T
end
end Dl
namespace Dl
open PySem PySem.Spec PyProof.Rows L2 NdefX
@[irreducible] def limN : Nat := 2 ^ 400000
theorem go_cons {g : Tgt} {tt : Tst} {e : Ex} {env : Ev} {d : D} {ds : List D} {w : World} : compGo g tt e env (d :: ds) w = (match g d env with
    | none => .stuck
    | some env1 => (noX (tt env1 w)).bind fun b w1 => if b = true then (noX (e env1 w1)).bind fun r w2 => (match r.st with
        | some x => (compGo g tt e env ds w2).bind fun xs w3 => .ok (x :: xs) w3
        | none => .stuck)
      else compGo g tt e env ds w1) := rfl
mutual
def Pa.size : Pa → Nat
  | .letter _ b => b.size + 1
  | .wait _ b => b.size + 1
  | _ => 1
def Pl.size : Pl → Nat
  | .nil => 0
  | .cons c p r => c * p.size + r.size
end
mutual
def Pa.lim : Pa → Prop
  | .letter _ b => b.lim
  | .wait _ b => b.lim
  | _ => True
def Pl.lim : Pl → Prop
  | .nil => True
  | .cons c p r => c < limN ∧ p.size < limN ∧ p.lim ∧ r.lim
end
structure HasS (tbl : Nat → Option DefB) : Prop where
  t29 : tbl 29 = some ⟨1, 3, b_size_of⟩
  t30 : tbl 30 = some ⟨1, 1, b_part_size⟩
section
variable {tbl : Nat → Option DefB} (T : HasS tbl)
include T
end
mutual
def Pa.within : Pa → List Pa
  | .letter _ b => b.within
  | .wait _ b => b.within
  | _ => []
def Pl.within : Pl → List Pa
  | .nil => []
  | .cons _ p r => p :: (p.within ++ r.within)
end
structure HasW (tbl : Nat → Option DefB) : Prop where
  t32 : tbl 32 = some ⟨1, 4, b_parts_within⟩
@[simp] theorem sExtend_ap {i : Nat} {e : Ex} {env : Ev} {w : World} : sExtend i e env w = (match env[i]? with
  | some (.own l) => (e env w).bind fun r w1 => (match r with
    | .fresh zs => if l.length + zs.length ≤ 16777216 then .ok (.nx (env.set i (.own (l ++ zs)))) w1 else .stuck
    | _ => .stuck)
  | _ => .stuck) := rfl
section
variable {tbl : Nat → Option DefB} (T : HasW tbl)
include T
end
end Dl
namespace Dl
open PySem PySem.Spec PyProof.Rows L2 NdefX
abbrev csL (x : Str) : List Nat := x.cps.toList
theorem strD_cs (x : Str) : strD (csL x) = .str x := by unfold strD; rw [cs_sL]
theorem in_strs {neg : Bool} {rm : Nat} {x : Str} {l : List Str} (h : 1 ≤ rm) : inD neg rm (.str x) (.lst (l.map .str)) = some (.dat (.bl (neg ^^ decide (x ∈ l)))) := by
  show (if 1 + min (depAll (l.map D.str)) (D.str x).dep ≤ rm then some (RV.dat (.bl (neg ^^ (l.map D.str).any fun y => y.eq (.str x)))) else none) = _
  rw [if_pos (by show 1 + min _ 0 ≤ rm; omega)]
  have : ((l.map D.str).any fun y => y.eq (.str x)) = decide (x ∈ l) := by
    rw [List.any_map, Bool.eq_iff_iff, List.any_eq_true, decide_eq_true_eq]
    constructor
    · rintro ⟨y, hy, e⟩
      have : y = x := by simpa using e
      exact this ▸ hy
    · exact fun h => ⟨x, h, by simp⟩
  rw [this]
def wordS (n : Nat) : Str := sL (wordN n)
theorem wordS_inj {a b : Nat} (h : wordS a = wordS b) : a = b := wordN_inj (sL_inj.mp h)
def freeG (t : List Str) : Nat → Nat → Nat
  | 0, n => n
  | k + 1, n => if wordS n ∈ t then freeG t k (n + 1) else n
def freeN (t : List Str) : Nat := freeG t (t.length + 1) 0
theorem freeG_spec (t : List Str) : ∀ (k n : Nat), (∃ m, n ≤ m ∧ m < n + k ∧ wordS m ∉ t) → wordS (freeG t k n) ∉ t ∧ n ≤ freeG t k n ∧ freeG t k n < n + k ∧ ∀ m, n ≤ m → m < freeG t k n → wordS m ∈ t
  | 0, n, ⟨m, h1, h2, _⟩ => by omega
  | k + 1, n, ⟨m, h1, h2, h3⟩ => by
    unfold freeG
    by_cases h : wordS n ∈ t
    · rw [if_pos h]
      have hm : m ≠ n := fun e => h3 (e ▸ h)
      obtain ⟨a, b, c, d⟩ := freeG_spec t k (n + 1) ⟨m, by omega, by omega, h3⟩
      refine ⟨a, by omega, by omega, fun j h4 h5 => ?_⟩
      by_cases e : j = n
      · exact e ▸ h
      · exact d j (by omega) h5
    · rw [if_neg h]
      exact ⟨h, Nat.le_refl _, by omega, fun j h4 h5 => by omega⟩
theorem nodup_le {α : Type} [DecidableEq α] : ∀ (l t : List α), l.Nodup → (∀ x ∈ l, x ∈ t) → l.length ≤ t.length
  | [], _, _, _ => Nat.zero_le _
  | a :: l, t, h, hs => by
    obtain ⟨h1, h2⟩ := List.nodup_cons.mp h
    have ha := hs a (.head _)
    have := nodup_le l (t.erase a) h2 fun x hx => by
      have hx' := hs x (.tail _ hx)
      exact (List.mem_erase_of_ne (fun (e : x = a) => h1 (e ▸ hx))).mpr hx'
    rw [List.length_erase_of_mem ha] at this
    have : 0 < t.length := List.length_pos_of_mem ha
    simp only [List.length_cons]
    omega
theorem freeN_ex (t : List Str) : ∃ m, 0 ≤ m ∧ m < 0 + (t.length + 1) ∧ wordS m ∉ t := by
  apply Classical.byContradiction
  intro h
  have h2 : ∀ x ∈ (List.range (t.length + 1)).map wordS, x ∈ t := fun x hx => by
    obtain ⟨m, hm, rfl⟩ := List.mem_map.mp hx
    apply Classical.byContradiction
    intro hn
    exact h ⟨m, Nat.zero_le _, by rw [List.mem_range] at hm; omega, hn⟩
  have nd : ((List.range (t.length + 1)).map wordS).Nodup := by
    rw [List.nodup_iff_pairwise_ne, List.pairwise_map]
    exact List.Pairwise.imp (fun {a b} hab e => hab (wordS_inj e)) (List.nodup_iff_pairwise_ne.mp List.nodup_range)
  have := nodup_le _ _ nd h2
  simp at this
  omega
theorem freeN_spec (t : List Str) : wordS (freeN t) ∉ t ∧ freeN t ≤ t.length ∧ ∀ m, m < freeN t → wordS m ∈ t := by
  obtain ⟨a, b, c, d⟩ := freeG_spec t (t.length + 1) 0 (freeN_ex t)
  exact ⟨a, by unfold freeN; omega, fun m hm => d m (Nat.zero_le _) hm⟩
def joinT : List (List Nat) → List Nat
  | [] => [48]
  | x :: r => x ++ r.flatMap fun y => [32, 124, 32] ++ y
def Pl.sumC : Pl → Nat
  | .nil => 0
  | .cons c _ r => c + r.sumC
def brk (b : Pl) : Bool := decide (1 < b.ds.length) || decide (1 < b.sumC)
mutual
def Pa.txt (tk : List Str) : List Str → Pa → List Nat
  | _, .name x => csL x
  | _, .mark n => 63 :: dgt n
  | ws, .got k => csL (ws.getD k (sL []))
  | ws, .letter x b => csL x ++ [60] ++ joinT (Pl.txs tk ws b) ++ [62]
  | ws, .wait x b => csL x ++ [40] ++ csL (wordS (freeN (ws ++ tk))) ++ [41, 58, 32] ++ (if brk b then [40] ++ joinT (Pl.txs tk (wordS (freeN (ws ++ tk)) :: ws) b) ++ [41] else joinT (Pl.txs tk (wordS (freeN (ws ++ tk)) :: ws) b))
def Pl.txs (tk : List Str) : List Str → Pl → List (List Nat)
  | _, .nil => []
  | ws, .cons c p r => ((if 1 < c then dgt c ++ [32] else []) ++ Pa.txt tk ws p) :: Pl.txs tk ws r
end
def Pl.txt (tk ws : List Str) (b : Pl) : List Nat := joinT (Pl.txs tk ws b)
def okT (l : List Nat) : Prop := ∀ c ∈ l, c < 0x110000
theorem okT_app {a b : List Nat} : okT (a ++ b) ↔ okT a ∧ okT b := by
  unfold okT
  constructor
  · exact fun h => ⟨fun c hc => h c (List.mem_append.mpr (.inl hc)), fun c hc => h c (List.mem_append.mpr (.inr hc))⟩
  · exact fun h c hc => (List.mem_append.mp hc).elim (h.1 c) (h.2 c)
theorem okT_dgt (n : Nat) : okT (dgt n) := fun c hc => by have := dgt_all n c hc; omega
theorem small_97 : ∀ c ∈ smallS.cps.toList, 97 ≤ c ∧ c ≤ 122 := by decide +kernel
theorem okT_wordB {x : Str} (h : wordB x = true) : okT (csL x) := fun c hc => by
  unfold wordB at h
  simp only [Bool.and_eq_true, List.all_eq_true, decide_eq_true_eq] at h
  have := small_97 c (h.2 c hc)
  omega
theorem okT_doorB {x : Str} (h : doorB x = true) : okT (csL x) := by
  unfold doorB at h
  rw [Bool.and_eq_true] at h
  exact okT_wordB h.1
theorem okT_join {l : List (List Nat)} (h : ∀ x ∈ l, okT x) : okT (joinT l) := by
  cases l with
  | nil => intro c hc; rw [List.mem_singleton.mp hc]; decide
  | cons x r =>
    refine okT_app.mpr ⟨h x (.head _), fun c hc => ?_⟩
    obtain ⟨y, hy, hcy⟩ := List.mem_flatMap.mp hc
    rcases List.mem_append.mp hcy with z | z
    · have : ∀ c ∈ [32, 124, 32], c < 0x110000 := by decide
      exact this c z
    · exact h y (.tail _ hy) c z
theorem sL_okT {l : List Nat} (h : okT l) : PyData.strOk (sL l) = true := by
  rw [sL_ok, List.all_eq_true]
  intro c hc
  simpa using h c hc
end Dl
namespace Dl
open PySem PySem.Spec PyProof.Rows L2 NdefX
structure HasTx (tbl : Nat → Option DefB) : Prop extends HasDg tbl, HasWd tbl where
  t515 : tbl 515 = some ⟨3, 7, b_plan_text⟩
  t565 : tbl 565 = some ⟨3, 7, b_part_text⟩
theorem lit_sp : (" " : Str) = sL [32] := by decide +kernel
theorem lit_0 : ("0" : Str) = sL [48] := by decide +kernel
theorem lit_q : ("?" : Str) = sL [63] := by decide +kernel
theorem lit_lt : ("<" : Str) = sL [60] := by decide +kernel
theorem lit_gt : (">" : Str) = sL [62] := by decide +kernel
theorem lit_op : ("(" : Str) = sL [40] := by decide +kernel
theorem lit_cl : (")" : Str) = sL [41] := by decide +kernel
theorem lit_cc : ("): " : Str) = sL [41, 58, 32] := by decide +kernel
theorem lit_bar : (" | " : Str) = sL [32, 124, 32] := by decide +kernel
theorem gAddD {a b : List Nat} (h : a.length + b.length ≤ 16000000) : gAdd (strD a) (strD b) = some (.dat (strD (a ++ b))) := gAdd_sL h
theorem flat_le (r : List (List Nat)) : (r.flatMap fun y => [32, 124, 32] ++ y).length = r.flatten.length + 3 * r.length := by
  induction r with
  | nil => rfl
  | cons y r ih =>
    simp only [List.flatMap_cons, List.length_append, List.flatten_cons, List.length_cons, ih, List.length_nil]
    omega
theorem joinT_len : ∀ {l : List (List Nat)}, l ≠ [] → (joinT l).length + 3 = l.flatten.length + 3 * l.length
  | [], h => absurd rfl h
  | x :: r, _ => by
    show (x ++ _).length + 3 = _
    rw [List.length_append, flat_le, List.flatten_cons, List.length_append, List.length_cons]
    omega
theorem dJoin_bar {ts : List (List Nat)} (h0 : ts ≠ []) (h : (joinT ts).length ≤ 1000000) (ok : okT (joinT ts)) {env : Ev} {w : World} {i : Nat} (e : env[i]? = some (.own (ts.map strD))) : dJoin " | " (dName i) env w = .ok (.dat (strD (joinT ts))) w := by
  have e1 : strsOf (ts.map strD) = some (ts.map sL) := strsOf_map ts
  have j : Txt.join (sL [32, 124, 32]) (ts.map sL) = sL (joinT ts) := by
    cases ts with
    | nil => exact absurd rfl h0
    | cons x r => rw [List.map_cons, join_sL]; rfl
  have hl := joinT_len h0
  rw [lit_bar, dJoin_ap, dName_ap, e]
  simp only [bind_ok, val_bor, e1]
  rw [j, if_pos]
  · rfl
  · rw [sum_flat, List.length_map, sL_len, sL_len]
    refine ⟨?_, sL_okT ok, by rw [sizeLine_eq]; omega⟩
    simp only [List.length_cons, List.length_nil]
    omega
abbrev wsD (ws : List Str) : D := .lst (ws.map .str)
section
variable {tbl : Nat → Option DefB} (T : HasTx tbl) {tk : List Str}
include T
end
end Dl
namespace Dl
open PySem PySem.Spec PyProof.Rows L2 NdefX
def Pl.app : Pl → Pl → Pl
  | .nil, q => q
  | .cons c p r, q => .cons c p (r.app q)
def Pl.times (c : Nat) : Pl → Pl
  | .nil => .nil
  | .cons n p r => .cons (c * n) p (r.times c)
mutual
def Pa.mapA (f : Pa → Nat → Pl) (k c : Nat) : Pa → Pl
  | .letter x b => .cons c (.letter x (b.mapA f k)) .nil
  | .wait x b => .cons c (.wait x (b.mapA f (k + 1))) .nil
  | .name x => (f (.name x) k).times c
  | .mark n => (f (.mark n) k).times c
  | .got n => (f (.got n) k).times c
def Pl.mapA (f : Pa → Nat → Pl) (k : Nat) : Pl → Pl
  | .nil => .nil
  | .cons c p r => (p.mapA f k c).app (r.mapA f k)
end
def Pl.cl : Pl → Prop
  | .nil => True
  | .cons n _ r => n < limN ∧ r.cl
def Pa.leaf : Pa → Bool
  | .letter _ _ => false
  | .wait _ _ => false
  | _ => true
mutual
def Pa.cls : Pa → Prop
  | .letter _ b => b.cls
  | .wait _ b => b.cls
  | _ => True
def Pl.cls : Pl → Prop
  | .nil => True
  | .cons c p r => c < limN ∧ p.cls ∧ r.cls
end
structure HasM (tbl : Nat → Option DefB) : Prop where
  t34 : tbl 34 = some ⟨3, 8, b_mapped⟩
def ActOk (tbl : Nat → Option DefB) (L i : Nat) (caps : List D) (w : World) (f : Pa → Nat → Pl) : Prop :=
  ∀ (p : Pa) (k n : Nat), p.leaf = true → L ≤ n → (Den tbl n).call i ([.dat p.d, .dat (.int k)] ++ caps.map .dat) w = .ok (.dat (f p k).d) w
section
variable {tbl : Nat → Option DefB} (T : HasM tbl) {L i : Nat} {caps : List D} {w : World} {f : Pa → Nat → Pl} (hw : allL w = true) (hf : ActOk tbl L i caps w f) (hc : ∀ p k, p.leaf = true → (f p k).cl)
include T hw hf hc
end
end Dl
namespace Dl
open PySem PySem.Spec PyProof.Rows L2 NdefX
theorem psize_pos (p : Pa) : 1 ≤ p.size := by cases p <;> simp [Pa.size]
mutual
theorem Pa.dep_size : ∀ (p : Pa) (k : Nat), p.ok k = true → p.dep ≤ p.size
  | .name x, k, h => by simp [Pa.dep, Pa.size]
  | .mark x, k, h => by simp [Pa.dep, Pa.size]
  | .got x, k, h => by simp [Pa.dep, Pa.size]
  | .letter x b, k, h => by
    simp only [Pa.ok, Bool.and_eq_true] at h
    have := Pl.dep_size b k h.2
    simp only [Pa.dep, Pa.size]; omega
  | .wait x b, k, h => by
    simp only [Pa.ok, Bool.and_eq_true] at h
    have := Pl.dep_size b (k + 1) h.2
    simp only [Pa.dep, Pa.size]; omega
theorem Pl.dep_size : ∀ (p : Pl) (k : Nat), p.ok k = true → p.dep ≤ p.size
  | .nil, k, h => by simp [Pl.dep]
  | .cons c p r, k, h => by
    simp only [Pl.ok, Bool.and_eq_true, decide_eq_true_eq] at h
    have h1 := Pa.dep_size p k h.1.2
    have h2 := Pl.dep_size r k h.2
    have h3 : 1 * p.size ≤ c * p.size := Nat.mul_le_mul_right _ h.1.1
    simp only [Pl.dep, Pl.size]; omega
end
mutual
theorem Pa.within_size : ∀ (p : Pa) (k : Nat), p.ok k = true → p.within.length + 1 ≤ p.size
  | .name x, k, h => by simp [Pa.within, Pa.size]
  | .mark x, k, h => by simp [Pa.within, Pa.size]
  | .got x, k, h => by simp [Pa.within, Pa.size]
  | .letter x b, k, h => by
    simp only [Pa.ok, Bool.and_eq_true] at h
    have := Pl.within_size b k h.2
    simp only [Pa.within, Pa.size]; omega
  | .wait x b, k, h => by
    simp only [Pa.ok, Bool.and_eq_true] at h
    have := Pl.within_size b (k + 1) h.2
    simp only [Pa.within, Pa.size]; omega
theorem Pl.within_size : ∀ (p : Pl) (k : Nat), p.ok k = true → p.within.length ≤ p.size
  | .nil, k, h => by simp [Pl.within]
  | .cons c p r, k, h => by
    simp only [Pl.ok, Bool.and_eq_true, decide_eq_true_eq] at h
    have h1 := Pa.within_size p k h.1.2
    have h2 := Pl.within_size r k h.2
    have h3 : 1 * p.size ≤ c * p.size := Nat.mul_le_mul_right _ h.1.1
    simp only [Pl.within, Pl.size, List.length_cons, List.length_append]; omega
end
mutual
theorem Pa.lim_size : ∀ (p : Pa) (k : Nat), p.ok k = true → p.size < limN → p.lim ∧ p.cls
  | .name x, k, h, hs => ⟨trivial, trivial⟩
  | .mark x, k, h, hs => ⟨trivial, trivial⟩
  | .got x, k, h, hs => ⟨trivial, trivial⟩
  | .letter x b, k, h, hs => by
    simp only [Pa.ok, Bool.and_eq_true] at h
    simp only [Pa.size] at hs
    exact Pl.lim_size b k h.2 (by omega)
  | .wait x b, k, h, hs => by
    simp only [Pa.ok, Bool.and_eq_true] at h
    simp only [Pa.size] at hs
    exact Pl.lim_size b (k + 1) h.2 (by omega)
theorem Pl.lim_size : ∀ (p : Pl) (k : Nat), p.ok k = true → p.size < limN → p.lim ∧ p.cls
  | .nil, k, h, hs => ⟨trivial, trivial⟩
  | .cons c p r, k, h, hs => by
    simp only [Pl.ok, Bool.and_eq_true, decide_eq_true_eq] at h
    simp only [Pl.size] at hs
    have h3 : 1 * p.size ≤ c * p.size := Nat.mul_le_mul_right _ h.1.1
    have h4 : c * 1 ≤ c * p.size := Nat.mul_le_mul_left _ (psize_pos p)
    have h1 := Pa.lim_size p k h.1.2 (by omega)
    have h2 := Pl.lim_size r k h.2 (by omega)
    exact ⟨⟨by omega, by omega, h1.1, h2.1⟩, ⟨by omega, h1.2, h2.2⟩⟩
end
theorem app_ok {k : Nat} : ∀ p q : Pl, (p.app q).ok k = (p.ok k && q.ok k)
  | .nil, q => by simp [Pl.app, Pl.ok]
  | .cons c p r, q => by simp [Pl.app, Pl.ok, app_ok r q, Bool.and_assoc]
theorem app_size : ∀ p q : Pl, (p.app q).size = p.size + q.size
  | .nil, q => by simp [Pl.app, Pl.size]
  | .cons c p r, q => by simp [Pl.app, Pl.size, app_size r q]; omega
structure HasLS (tbl : Nat → Option DefB) : Prop where
  t38 : tbl 38 = some ⟨1, 1, b__law_part_size⟩
  t41 : tbl 41 = some ⟨1, 3, b__law_size⟩
section
variable {tbl : Nat → Option DefB} (T : HasLS tbl)
include T
end
structure HasPk (tbl : Nat → Option DefB) : Prop where
  t11 : tbl 11 = some ⟨2, 5, b__law_pick⟩
structure HasLP (tbl : Nat → Option DefB) : Prop extends HasLS tbl, HasPk tbl where
  t39 : tbl 39 = some ⟨5, 7, b__law_part⟩
  t40 : tbl 40 = some ⟨5, 9, b__law_plan⟩
theorem c_pick {tbl : Nat → Option DefB} (T : HasPk tbl) {n : Nat} (hn : 1 ≤ n) {rest w : World} {m : Int} (h : TapeOk rest w) (hm : 0 < m) (hb : m < 1073741824) :
    ∃ r : Nat, ∃ w', (Den tbl n).call 11 [.wref 0, .dat (.int m)] w = .ok (.dat (.int r)) w' ∧ TapeOk rest w' ∧ (r : Int) < m := by
  obtain ⟨k, rfl, _⟩ := succ_of (k := 0) hn
  rw [den_succ T.t11]
  obtain ⟨r, w', e, t, h0, h1⟩ := pick_run (C := Den tbl k) h hm hb
  obtain ⟨r', rfl⟩ : ∃ r' : Nat, r = r' := ⟨r.toNat, by omega⟩
  exact ⟨r', w', e, t, h1⟩
def signs (z : Str) : List Str := z.cps.toList.map fun c => ⟨#[c]⟩
theorem ix_sign {z : Str} {i : Nat} (h : i < z.length) : ∃ x, gIx (.str z) (.int i) = some (.dat (.str x)) ∧ x ∈ signs z := by
  have h' : i < z.cps.toList.length := by simpa [Str.length] using h
  refine ⟨⟨#[z.cps.toList[i]]⟩, ?_, List.mem_map.mpr ⟨_, List.getElem_mem h', rfl⟩⟩
  show (atI z.cps.toList (i : Int)).map _ = _
  rw [atI_get h']
  rfl
mutual
def Pa.dr (ds ws : List Str) : Pa → Bool
  | .name x => decide (x ∈ ws)
  | .mark _ => false
  | .got _ => true
  | .letter x b => decide (x ∈ ds) && b.dr ds ws
  | .wait x b => decide (x ∈ ds) && b.dr ds ws
def Pl.dr (ds ws : List Str) : Pl → Bool
  | .nil => true
  | .cons _ p r => p.dr ds ws && r.dr ds ws
end
section
variable {tbl : Nat → Option DefB} (T : HasLP tbl) {z : Str} {ws : List Str}
include T
end
end Dl
namespace Dl
open PySem PySem.Spec PyProof.Rows L2 NdefX
def Pa.nm : Pa → Option Str
  | .name x => some x
  | _ => none
def Pl.nms (p : Pl) : List Str := p.within.filterMap Pa.nm
def dedup (l : List Str) : List Str := l.foldl keysAdd []
theorem foldl_keys_len : ∀ (l acc : List Str), (l.foldl keysAdd acc).length ≤ acc.length + l.length
  | [], acc => by simp
  | x :: l, acc => by
    rw [List.foldl_cons]
    have := foldl_keys_len l (keysAdd acc x)
    have h2 : (keysAdd acc x).length ≤ acc.length + 1 := keysAdd_len
    simp only [List.length_cons]
    omega
theorem dedup_len (l : List Str) : (dedup l).length ≤ l.length := by
  have := foldl_keys_len l []
  simpa [dedup] using this
structure HasK (tbl : Nat → Option DefB) : Prop extends HasC tbl where
  t31 : tbl 31 = some ⟨1, 1, b_check_plan⟩
structure HasN (tbl : Nat → Option DefB) : Prop extends HasK tbl, HasW tbl where
  t33 : tbl 33 = some ⟨2, 3, b_labels_of⟩
  t46 : tbl 46 = some ⟨1, 1, b_names⟩
section
variable {tbl : Nat → Option DefB} (T : HasK tbl)
include T
end
section
variable {tbl : Nat → Option DefB} (T : HasN tbl)
include T
end
mutual
def Pa.caught (x : Str) (k : Nat) : Pa → Pa
  | .name y => if y = x then .got k else .name y
  | .letter d b => .letter d (b.caught x k)
  | .wait d b => .wait d (b.caught x (k + 1))
  | .mark n => .mark n
  | .got n => .got n
def Pl.caught (x : Str) (k : Nat) : Pl → Pl
  | .nil => .nil
  | .cons c p r => .cons c (p.caught x k) (r.caught x k)
end
mutual
theorem Pa.caught_ok (x : Str) : ∀ (p : Pa) (k : Nat), p.ok k = true → (p.caught x k).ok (k + 1) = true
  | .name y, k, h => by
    by_cases e : y = x
    · simp [Pa.caught, e, Pa.ok]
    · simpa [Pa.caught, e, Pa.ok] using h
  | .mark n, k, h => by simp [Pa.caught, Pa.ok]
  | .got n, k, h => by simp [Pa.caught, Pa.ok] at *; omega
  | .letter d b, k, h => by
    simp only [Pa.ok, Bool.and_eq_true] at h
    simp [Pa.caught, Pa.ok, h.1, Pl.caught_ok x b k h.2]
  | .wait d b, k, h => by
    simp only [Pa.ok, Bool.and_eq_true] at h
    simp [Pa.caught, Pa.ok, h.1, Pl.caught_ok x b (k + 1) h.2]
theorem Pl.caught_ok (x : Str) : ∀ (p : Pl) (k : Nat), p.ok k = true → (p.caught x k).ok (k + 1) = true
  | .nil, k, h => by simp [Pl.caught, Pl.ok]
  | .cons c p r, k, h => by
    simp only [Pl.ok, Bool.and_eq_true] at h
    simp only [decide_eq_true_eq] at h
    simp [Pl.caught, Pl.ok, h.1.1, Pa.caught_ok x p k h.1.2, Pl.caught_ok x r k h.2]
end
mutual
theorem Pa.caught_size (x : Str) : ∀ (p : Pa) (k : Nat), (p.caught x k).size = p.size
  | .name y, k => by by_cases e : y = x <;> simp [Pa.caught, e, Pa.size]
  | .mark n, k => rfl
  | .got n, k => rfl
  | .letter d b, k => by simp [Pa.caught, Pa.size, Pl.caught_size x b k]
  | .wait d b, k => by simp [Pa.caught, Pa.size, Pl.caught_size x b (k + 1)]
theorem Pl.caught_size (x : Str) : ∀ (p : Pl) (k : Nat), (p.caught x k).size = p.size
  | .nil, k => rfl
  | .cons c p r, k => by simp [Pl.caught, Pl.size, Pa.caught_size x p k, Pl.caught_size x r k]
end
structure HasZ0 (tbl : Nat → Option DefB) : Prop extends HasK tbl, HasS tbl where
  t47 : tbl 47 = some ⟨1, 1, b_size⟩
structure HasZ (tbl : Nat → Option DefB) : Prop extends HasN tbl, HasM tbl, HasZ0 tbl where
  t37 : tbl 37 = some ⟨1, 1, b_check_word⟩
  t48 : tbl 48 = some ⟨1, 1, b_is_plan⟩
structure HasL (tbl : Nat → Option DefB) : Prop extends HasZ tbl where
  t35 : tbl 35 = some ⟨1, 1, b_check_door⟩
  t36 : tbl 36 = some ⟨3, 3, b_bound_to⟩
  t44 : tbl 44 = some ⟨3, 3, b_wait⟩
  t45 : tbl 45 = some ⟨2, 2, b_letter⟩
  t50 : tbl 50 = some ⟨3, 3, fun C => sRet (b_bound_to'clo C)⟩
section
variable {tbl : Nat → Option DefB} (T : HasL tbl)
include T
end
section
variable {tbl : Nat → Option DefB} (T : HasZ0 tbl)
include T
end
section
variable {tbl : Nat → Option DefB} (T : HasZ tbl)
include T
end
end Dl
namespace Dl
open PySem PySem.Spec PyProof.Rows L2 NdefX
structure HasI (tbl : Nat → Option DefB) : Prop extends HasW tbl where
  t52 : tbl 52 = some ⟨1, 1, b_items_in⟩
  t51 : tbl 51 = some ⟨1, 3, b_nesting⟩
section
variable {tbl : Nat → Option DefB} (T : HasI tbl)
include T
end
mutual
def Pa.raised (by_ least k : Nat) : Pa → Pa
  | .got n => if k + least ≤ n then .got (n + by_) else .got n
  | .letter d b => .letter d (b.raised by_ least k)
  | .wait d b => .wait d (b.raised by_ least (k + 1))
  | .mark n => .mark n
  | .name y => .name y
def Pl.raised (by_ least k : Nat) : Pl → Pl
  | .nil => .nil
  | .cons c p r => .cons c (p.raised by_ least k) (r.raised by_ least k)
end
structure HasR (tbl : Nat → Option DefB) : Prop extends HasI tbl, HasM tbl where
  t55 : tbl 55 = some ⟨4, 4, b_raised'clo⟩
  t57 : tbl 57 = some ⟨3, 4, b_raised⟩
section
variable {tbl : Nat → Option DefB} (T : HasR tbl)
include T
end
def putF (old : D) (other : Pl) (p : Pa) (_ : Nat) : Pl := if p.d.eq old = true then other else .cons 1 p .nil
abbrev Pl.put (p : Pl) (old : D) (other : Pl) : Pl := p.mapA (putF old other) 0
theorem times_ok {c k : Nat} (hc : 1 ≤ c) : ∀ p : Pl, p.ok k = true → (p.times c).ok k = true
  | .nil, h => by simp [Pl.times, Pl.ok]
  | .cons n p r, h => by
    simp only [Pl.ok, Bool.and_eq_true, decide_eq_true_eq] at h
    have : 1 * 1 ≤ c * n := Nat.mul_le_mul hc h.1.1
    simp only [Pl.times, Pl.ok, h.1.2, times_ok hc r h.2, Bool.and_true, decide_eq_true_eq]
    omega
mutual
theorem Pa.ok_mono : ∀ (p : Pa) (k j : Nat), k ≤ j → p.ok k = true → p.ok j = true
  | .name y, k, j, h, e => e
  | .mark n, k, j, h, e => e
  | .got n, k, j, h, e => by simp [Pa.ok] at *; omega
  | .letter d b, k, j, h, e => by
    simp only [Pa.ok, Bool.and_eq_true] at *
    exact ⟨e.1, Pl.ok_mono b k j h e.2⟩
  | .wait d b, k, j, h, e => by
    simp only [Pa.ok, Bool.and_eq_true] at *
    exact ⟨e.1, Pl.ok_mono b (k + 1) (j + 1) (by omega) e.2⟩
theorem Pl.ok_mono : ∀ (p : Pl) (k j : Nat), k ≤ j → p.ok k = true → p.ok j = true
  | .nil, k, j, h, e => e
  | .cons c p r, k, j, h, e => by
    simp only [Pl.ok, Bool.and_eq_true] at *
    exact ⟨⟨e.1.1, Pa.ok_mono p k j h e.1.2⟩, Pl.ok_mono r k j h e.2⟩
end
mutual
theorem Pa.put_ok (old : D) (o : Pl) (ho : o.ok 0 = true) : ∀ (p : Pa) (k c j : Nat), 1 ≤ c → p.ok k = true → (p.mapA (putF old o) j c).ok k = true
  | .name y, k, c, j, hc, h => by
    simp only [Pa.mapA, putF]
    split
    · exact times_ok hc _ (Pl.ok_mono o 0 k (by omega) ho)
    · simp [Pl.times, Pl.ok, hc, h]
  | .mark n, k, c, j, hc, h => by
    simp only [Pa.mapA, putF]
    split
    · exact times_ok hc _ (Pl.ok_mono o 0 k (by omega) ho)
    · simp [Pl.times, Pl.ok, hc, h]
  | .got n, k, c, j, hc, h => by
    simp only [Pa.mapA, putF]
    split
    · exact times_ok hc _ (Pl.ok_mono o 0 k (by omega) ho)
    · simp [Pl.times, Pl.ok, hc, h]
  | .letter d b, k, c, j, hc, h => by
    simp only [Pa.ok, Bool.and_eq_true] at h
    simp [Pa.mapA, Pl.ok, Pa.ok, hc, h.1, Pl.put_ok old o ho b k j h.2]
  | .wait d b, k, c, j, hc, h => by
    simp only [Pa.ok, Bool.and_eq_true] at h
    simp [Pa.mapA, Pl.ok, Pa.ok, hc, h.1, Pl.put_ok old o ho b (k + 1) (j + 1) h.2]
theorem Pl.put_ok (old : D) (o : Pl) (ho : o.ok 0 = true) : ∀ (p : Pl) (k j : Nat), p.ok k = true → (p.mapA (putF old o) j).ok k = true
  | .nil, k, j, h => by simp [Pl.mapA, Pl.ok]
  | .cons c p r, k, j, h => by
    simp only [Pl.ok, Bool.and_eq_true, decide_eq_true_eq] at h
    simp [Pl.mapA, app_ok, Pa.put_ok old o ho p k c j h.1.1 h.1.2, Pl.put_ok old o ho r k j h.2]
end
def Old (old : D) : Prop := ∃ a b, old = .tup [a, b] ∧ a.dep = 0 ∧ b.dep = 0
theorem Old.room {old : D} (h : Old old) {rm : Nat} (hr : 1 ≤ rm) (l : List D) : gEq rm (.tup l) old = some (.dat (.bl ((D.tup l).eq old))) := by
  obtain ⟨a, b, rfl, h1, h2⟩ := h
  exact gEq_t (by simp [h1, h2]; omega)
structure HasP (tbl : Nat → Option DefB) : Prop extends HasR tbl, HasZ tbl where
  t53 : tbl 53 = some ⟨1, 1, b_check_room⟩
  t56 : tbl 56 = some ⟨4, 4, fun C => sRet (b_replaced'clo C)⟩
  t58 : tbl 58 = some ⟨3, 3, b_replaced⟩
  t59 : tbl 59 = some ⟨1, 1, b_roomy⟩
  t61 : tbl 61 = some ⟨3, 5, b_roomy_replaced⟩
  t62 : tbl 62 = some ⟨1, 1, b_check_mark⟩
  t65 : tbl 65 = some ⟨3, 3, b_mark_put⟩
  t73 : tbl 73 = some ⟨3, 3, b_put⟩
section
variable {tbl : Nat → Option DefB} (T : HasP tbl)
include T
end
end Dl
namespace Dl
open PySem PySem.Spec PyProof.Rows L2 NdefX
abbrev It : Type := Nat × Pa
def Pl.L : Pl → List It
  | .nil => []
  | .cons c p r => (c, p) :: r.L
def ofL : List It → Pl
  | [] => .nil
  | (c, p) :: r => .cons c p (ofL r)
@[simp] theorem ofL_L : ∀ p : Pl, ofL p.L = p
  | .nil => rfl
  | .cons c p r => by simp [Pl.L, ofL, ofL_L r]
@[simp] theorem L_ofL : ∀ l : List It, (ofL l).L = l
  | [] => rfl
  | (c, p) :: r => by simp [Pl.L, ofL, L_ofL r]
def itD (i : It) : D := .tup [.int i.1, i.2.d]
theorem ds_L : ∀ p : Pl, p.ds = p.L.map itD
  | .nil => rfl
  | .cons c p r => by simp [Pl.ds, Pl.L, ds_L r, itD]
theorem ds_ofL (l : List It) : (ofL l).ds = l.map itD := by rw [ds_L, L_ofL]
def szL (l : List It) : Nat := (l.map fun i => i.1 * i.2.size).sum
theorem size_L : ∀ p : Pl, p.size = szL p.L
  | .nil => rfl
  | .cons c p r => by simp [Pl.size, Pl.L, szL, size_L r]
theorem size_ofL (l : List It) : (ofL l).size = szL l := by rw [size_L, L_ofL]
@[simp] theorem szL_app (a b : List It) : szL (a ++ b) = szL a + szL b := by simp [szL]
@[simp] theorem szL_cons (i : It) (b : List It) : szL (i :: b) = i.1 * i.2.size + szL b := by simp [szL]
@[simp] theorem szL_nil : szL [] = 0 := rfl
def okI (k : Nat) (i : It) : Bool := decide (1 ≤ i.1) && i.2.ok k
theorem ok_L (k : Nat) : ∀ p : Pl, p.ok k = p.L.all (okI k)
  | .nil => by simp [Pl.ok, Pl.L]
  | .cons c p r => by simp [Pl.ok, Pl.L, okI, ok_L k r]
theorem ok_ofL (k : Nat) (l : List It) : (ofL l).ok k = l.all (okI k) := by rw [ok_L, L_ofL]
def wiL (l : List It) : Nat := (l.map fun i => 1 + i.2.within.length).sum
theorem within_L : ∀ p : Pl, p.within.length = wiL p.L
  | .nil => rfl
  | .cons c p r => by simp [Pl.within, Pl.L, wiL, within_L r]; omega
@[simp] theorem wiL_app (a b : List It) : wiL (a ++ b) = wiL a + wiL b := by simp [wiL]
@[simp] theorem wiL_cons (i : It) (b : List It) : wiL (i :: b) = 1 + i.2.within.length + wiL b := by simp [wiL]
@[simp] theorem wiL_nil : wiL [] = 0 := rfl
def deL : List It → Nat
  | [] => 0
  | i :: r => max i.2.dep (deL r)
theorem dep_L : ∀ p : Pl, p.dep = deL p.L
  | .nil => rfl
  | .cons c p r => by simp [Pl.dep, Pl.L, deL, dep_L r]
theorem deL_app : ∀ a b : List It, deL (a ++ b) = max (deL a) (deL b)
  | [], b => by simp [deL]
  | i :: a, b => by simp only [List.cons_append, deL, deL_app a b]; omega
theorem dep_ofL (l : List It) : (ofL l).dep = deL l := by rw [dep_L, L_ofL]
theorem within_ofL (l : List It) : (ofL l).within.length = wiL l := by rw [within_L, L_ofL]
abbrev Pl.up (p : Pl) : Pl := p.raised 1 1 0
mutual
theorem Pa.raised_size (a l : Nat) : ∀ (p : Pa) (k : Nat), (p.raised a l k).size = p.size
  | .name y, k => rfl
  | .mark n, k => rfl
  | .got n, k => by by_cases h : k + l ≤ n <;> simp [Pa.raised, h, Pa.size]
  | .letter d b, k => by simp [Pa.raised, Pa.size, Pl.raised_size a l b k]
  | .wait d b, k => by simp [Pa.raised, Pa.size, Pl.raised_size a l b (k + 1)]
theorem Pl.raised_size (a l : Nat) : ∀ (p : Pl) (k : Nat), (p.raised a l k).size = p.size
  | .nil, k => rfl
  | .cons c p r, k => by simp [Pl.raised, Pl.size, Pa.raised_size a l p k, Pl.raised_size a l r k]
end
mutual
theorem Pa.eq_iff : ∀ p q : Pa, p.d.eq q.d = true ↔ p = q
  | .name x, q => by cases q <;> simp [Pa.d, ne_14, ne_18, ne_6, ne_7]
  | .mark x, q => by cases q <;> simp [Pa.d, ne_1, ne_15, ne_8, ne_9] <;> omega
  | .got x, q => by cases q <;> simp [Pa.d, ne_2, ne_3, ne_10, ne_11] <;> omega
  | .letter x b, q => by
    cases q with
    | letter y c => have := Pl.eq_iff b c; simp [Pa.d, this]
    | wait y c => simp [Pa.d, ne_4]
    | name y => simp [Pa.d]
    | mark y => simp [Pa.d]
    | got y => simp [Pa.d]
  | .wait x b, q => by
    cases q with
    | wait y c => have := Pl.eq_iff b c; simp [Pa.d, this]
    | letter y c => simp [Pa.d, ne_5]
    | name y => simp [Pa.d]
    | mark y => simp [Pa.d]
    | got y => simp [Pa.d]
theorem Pl.eq_iff : ∀ p q : Pl, (D.tup p.ds).eq (.tup q.ds) = true ↔ p = q
  | .nil, q => by cases q <;> simp [Pl.ds]
  | .cons c p r, q => by
    cases q with
    | nil => simp [Pl.ds]
    | cons c' p' r' =>
      have h1 := Pa.eq_iff p p'
      have h2 := Pl.eq_iff r r'
      simp only [Pl.ds, eqt_cc, eqt_nn, eq_ii, Bool.and_true, Bool.and_eq_true, decide_eq_true_eq, h1, h2, Pl.cons.injEq]
      constructor
      · rintro ⟨⟨h, h'⟩, h''⟩; exact ⟨by omega, h', h''⟩
      · rintro ⟨h, h', h''⟩; exact ⟨⟨by omega, h'⟩, h''⟩
end
inductive Mv where
  | swap (i : Nat) | join (i : Nat) | split (i k : Nat) | fold (i : Nat) | unfold (i k : Nat)
def beqP (p q : Pa) : Bool := p.d.eq q.d
theorem beqP_iff {p q : Pa} : beqP p q = true ↔ p = q := Pa.eq_iff p q
def mid : It → Option It → Mv → Option (List It)
  | a, some b, .swap _ => some [b, a]
  | a, some b, .join _ => if beqP b.2 a.2 = true then some [(a.1 + b.1, a.2)] else none
  | a, _, .split _ k => if 1 ≤ k ∧ k < a.1 then some [(k, a.2), (a.1 - k, a.2)] else none
  | (c, .wait x b), _, .unfold _ k => if 2 ≤ k ∧ c % k = 0 then some [(c / k, .wait x (b.app (.cons (k - 1) (.wait x b.up) .nil)))] else none
  | (c, .wait x b), _, .fold _ => (match b.L.reverse with
    | (m, q) :: r => if beqP q (.wait x (ofL r.reverse).up) = true then some [(c * (m + 1), .wait x (ofL r.reverse))] else none
    | [] => none)
  | _, _, _ => none
def Mv.at_ : Mv → Nat
  | .swap i => i
  | .join i => i
  | .split i _ => i
  | .fold i => i
  | .unfold i _ => i
def Mv.wide : Mv → Nat
  | .swap _ => 2
  | .join _ => 2
  | _ => 1
def here (l : List It) (s : Mv) : Option (List It) := match l[s.at_]? with
  | some a => (mid a l[s.at_ + 1]? s).map fun m => l.take s.at_ ++ m ++ l.drop (s.at_ + s.wide)
  | none => none
def within1 : Pa → Option (Pl × (Pl → Pa))
  | .letter x b => some (b, .letter x)
  | .wait x b => some (b, .wait x)
  | _ => none
theorem cut_at {α : Type} {l : List α} {i : Nat} {a : α} (h : l[i]? = some a) : l = l.take i ++ a :: l.drop (i + 1) ∧ (l.take i).length = i := by
  obtain ⟨hi, e⟩ := List.getElem?_eq_some_iff.mp h
  refine ⟨?_, by simp; omega⟩
  rw [← e, List.getElem_cons_drop, List.take_append_drop]
end Dl
namespace Dl
open PySem PySem.Spec PyProof.Rows L2 NdefX
structure HasR1 (tbl : Nat → Option DefB) : Prop where
  t572 : tbl 572 = some ⟨1, 1, b_Reader_sign⟩
  t573 : tbl 573 = some ⟨1, 2, b_Reader_number⟩
  t575 : tbl 575 = some ⟨2, 3, b_Reader_take⟩
  t578 : tbl 578 = some ⟨1, 2, b_Reader_word⟩
  t579 : tbl 579 = some ⟨1, 1, b_Reader_mark⟩
def rdO (S l : List Nat) : WO := .obj "Reader" [("signs", .dat (strD S)), ("at", .dat (.int ((S.length - l.length : Nat) : Int)))]
def bdX (S l : List Nat) : Exn := ⟨"BadText", some ("place", .int ((S.length - l.length : Nat) : Int))⟩
structure RAt (w : World) (k : Nat) (S l : List Nat) : Prop where
  at_ : w[k]? = some (rdO S l)
  suf : l <:+ S
theorem suf_drop {S l : List Nat} (h : l <:+ S) : S.drop (S.length - l.length) = l := by
  obtain ⟨p, rfl⟩ := h
  simp
theorem RAt.len {w : World} {k : Nat} {S l : List Nat} (h : RAt w k S l) : l.length ≤ S.length := h.suf.length_le
theorem RAt.put {w : World} {k : Nat} {S l r : List Nat} (h : RAt w k S l) (hr : r <:+ l) : RAt (w.set k (rdO S r)) k S r := by
  have hk : k < w.length := (List.getElem?_eq_some_iff.mp h.at_).1
  exact ⟨by rw [List.getElem?_set_self hk], hr.trans h.suf⟩
theorem RAt.same {w : World} {k : Nat} {S l : List Nat} (h : RAt w k S l) : w.set k (rdO S l) = w := by
  obtain ⟨hk, e⟩ := List.getElem?_eq_some_iff.mp h.at_
  rw [← e]
  exact List.set_getElem_self hk
@[simp] theorem rset_set {w : World} {k : Nat} {a b : WO} : (w.set k a).set k b = w.set k b := List.set_set ..
theorem fld_signs {w : World} {k : Nat} {S l : List Nat} (h : w[k]? = some (rdO S l)) : fldK "Reader" "signs" (.wref k) w = .ok (.dat (strD S)) w := by
  unfold fldK
  simp only [h]
  rfl
theorem fld_at {w : World} {k : Nat} {S l : List Nat} (h : w[k]? = some (rdO S l)) : fldK "Reader" "at" (.wref k) w = .ok (.dat (.int ((S.length - l.length : Nat) : Int))) w := by
  unfold fldK
  simp only [h]
  rfl
theorem hasM_rd {w : World} {k : Nat} {S l : List Nat} {m : Str} (h : w[k]? = some (rdO S l)) (h1 : (m == "signs") = false := by decide +kernel) (h2 : (m == "at") = false := by decide +kernel) : hasM "Reader" m (.wref k) w = true := by
  unfold hasM
  simp only [h]
  unfold rdO
  simp [List.lookup_cons, h1, h2]
theorem put_at {a b v : FV} : putO "at" v [(("signs" : Str), a), (("at" : Str), b)] = [(("signs" : Str), a), (("at" : Str), v)] := by
  have h : ¬ ("signs" : Str) = "at" := by decide +kernel
  simp [putO, h]
theorem adv {w : World} {k : Nat} {S l : List Nat} {c : Nat} {env : Ev} (h : RAt w k S (c :: l)) (e0 : env[0]? = some (.wref k)) : sFldAug "Reader" 0 "at" gAddI (dC (.int 1)) env w = .ok (.nx env) (w.set k (rdO S l)) := by
  have hl := h.len
  simp only [List.length_cons] at hl
  unfold sFldAug
  rw [e0]
  simp only [h.at_]
  have e1 : gAddI (.int ((S.length - (c :: l).length : Nat) : Int)) (.int 1) = some (.dat (.int ((S.length - l.length : Nat) : Int))) := by
    show some (RV.dat (.int (((S.length - (c :: l).length : Nat) : Int) + 1))) = _
    simp only [List.length_cons]
    congr 3
    omega
  unfold rdO
  simp only [if_true, dC_ap, bind_ok, val_dat]
  rw [show List.lookup ("at" : Str) [(("signs" : Str), FV.dat (strD S)), ("at", .dat (.int ((S.length - (c :: l).length : Nat) : Int)))] = some (.dat (.int ((S.length - (c :: l).length : Nat) : Int))) from rfl]
  simp only [e1, h.at_]
  unfold rdO
  dsimp only
  rw [put_at]
  simp
theorem cut_sign {S l : List Nat} (h : l <:+ S) : cutD S (some ((S.length - l.length : Nat) : Int)) (some (((S.length - l.length : Nat) : Int) + 1)) = l.take 1 := by
  have e := cutD_mid (l := S) (b := S.length - l.length) (e := S.length - l.length + 1) (by omega)
  rw [suf_drop h, show S.length - l.length + 1 - (S.length - l.length) = 1 by omega] at e
  exact e
theorem c_sign {tbl : Nat → Option DefB} (T : HasR1 tbl) {n k : Nat} {w : World} {S l : List Nat} (hn : 1 ≤ n) (h : RAt w k S l) : (Den tbl n).call 572 [.wref k] w = .ok (.dat (strD (l.take 1))) w := by
  obtain ⟨m, rfl, hm⟩ := succ_of (k := 0) hn
  rw [den_succ T.t572]
  have f1 := fld_signs h.at_
  have f2 := fld_at h.at_
  have g : gSl (some ((S.length - l.length : Nat) : Int)) (some (((S.length - l.length : Nat) : Int) + 1)) (strD S) = some (.dat (strD (l.take 1))) := by
    unfold strD
    rw [gSl_sL, cut_sign h.suf]
  generalize ((S.length - l.length : Nat) : Int) = A at *
  generalize strD S = SS at *
  generalize strD (l.take 1) = R at *
  simp [runB, initE, toSl, b_Reader_sign, f1, f2, g]
def isD (lo hi : Nat) : List Nat → Bool
  | [] => false
  | c :: _ => decide (lo ≤ c) && decide (c ≤ hi)
theorem gLe_s {rm : Nat} {a b : List Nat} : gLe rm (strD a) (strD b) = some (.dat (.bl (!decide (b < a)))) := by
  show (if ordOk rm (strD a) (strD b) = true then some (RV.dat (.bl (!(strD b).lt (strD a)))) else none) = _
  have o : ordOk rm (strD a) (strD b) = true := by
    show (true && true && decide (min 0 0 ≤ rm)) = true
    simp
  rw [if_pos o]
  have e : (strD b).lt (strD a) = decide (b < a) := by
    show PySem.W.dataLt (.str (sL b)) (.str (sL a)) = _
    rw [PySem.W.dataLt_str, sL_cs, sL_cs]
  rw [e]
theorem lt_one {c d : Nat} : (([c] : List Nat) < [d]) ↔ c < d := by
  rw [List.cons_lt_cons_iff]
  constructor
  · rintro (h | ⟨_, h⟩)
    · exact h
    · exact absurd h (List.not_lt_nil _)
  · exact .inl
theorem le_lo {lo : Nat} {l : List Nat} : (!decide (l.take 1 < [lo])) = (match l with | [] => false | c :: _ => decide (lo ≤ c)) := by
  cases l with
  | nil => simp
  | cons c l =>
    show (!decide ([c] < [lo])) = decide (lo ≤ c)
    rw [Bool.eq_iff_iff]
    simp only [Bool.not_eq_true', decide_eq_false_iff_not, decide_eq_true_eq, lt_one]
    omega
theorem le_hi {hi : Nat} {l : List Nat} : (!decide (([hi] : List Nat) < l.take 1)) = (match l with | [] => true | c :: _ => decide (c ≤ hi)) := by
  cases l with
  | nil => simp
  | cons c l =>
    show (!decide (([hi] : List Nat) < [c])) = decide (c ≤ hi)
    rw [Bool.eq_iff_iff]
    simp only [Bool.not_eq_true', decide_eq_false_iff_not, decide_eq_true_eq, lt_one]
    omega
theorem t_span {tbl : Nat → Option DefB} (T : HasR1 tbl) {n k lo hi : Nat} {w : World} {S l : List Nat} {env : Ev} {a b : Str} (hn : 1 ≤ n) (h : RAt w k S l) (e0 : env[0]? = some (.wref k)) (ha : a = sL [lo]) (hb : b = sL [hi]) :
    dTst (dChain (gLe (Den tbl n).room) (gLe (Den tbl n).room) (dC (.str a)) (dMeth (Den tbl n) "Reader" "sign" 572 (dName 0) aNil) (dC (.str b))) env w = .ok (isD lo hi l) w := by
  subst ha hb
  have s := c_sign T hn h
  have hm := hasM_rd (m := "sign") h.at_
  have g1 : gLe (Den tbl n).room (.str (sL [lo])) (strD (l.take 1)) = _ := gLe_s (a := [lo])
  have g2 : gLe (Den tbl n).room (strD (l.take 1)) (.str (sL [hi])) = _ := gLe_s (b := [hi])
  rw [le_lo] at g1
  rw [le_hi] at g2
  generalize strD (l.take 1) = R at *
  cases l with
  | nil => simp [e0, hm, s, g1, isD]
  | cons c l =>
    simp only at g1 g2
    by_cases h1 : lo ≤ c
    · rw [decide_eq_true h1] at g1
      simp [e0, hm, s, g1, g2, isD, h1]
    · rw [decide_eq_false h1] at g1
      simp [e0, hm, s, g1, isD, h1]
theorem t_is {tbl : Nat → Option DefB} (T : HasR1 tbl) {n k c : Nat} {w : World} {S l : List Nat} {env : Ev} {a : Str} (hn : 1 ≤ n) (h : RAt w k S l) (e0 : env[0]? = some (.wref k)) (ha : a = sL [c]) :
    dTst (dBin (gEq (Den tbl n).room) (dMeth (Den tbl n) "Reader" "sign" 572 (dName 0) aNil) (dC (.str a))) env w = .ok (isD c c l) w := by
  subst ha
  have s := c_sign T hn h
  have hm := hasM_rd (m := "sign") h.at_
  have g : gEq (Den tbl n).room (strD (l.take 1)) (.str (sL [c])) = some (.dat (.bl (isD c c l))) := by
    unfold strD
    rw [gEq_s]
    congr 3
    cases l with
    | nil => simp [sL_inj, isD]
    | cons d l =>
      rw [Bool.eq_iff_iff]
      simp [sL_inj, isD]
      omega
  generalize strD (l.take 1) = R at *
  simp [e0, hm, s, g]
theorem t_isnt {tbl : Nat → Option DefB} (T : HasR1 tbl) {n k c : Nat} {w : World} {S l : List Nat} {env : Ev} {a : Str} (hn : 1 ≤ n) (h : RAt w k S l) (e0 : env[0]? = some (.wref k)) (ha : a = sL [c]) :
    dTst (dBin (gNe (Den tbl n).room) (dMeth (Den tbl n) "Reader" "sign" 572 (dName 0) aNil) (dC (.str a))) env w = .ok (!isD c c l) w := by
  subst ha
  have s := c_sign T hn h
  have hm := hasM_rd (m := "sign") h.at_
  have g : gNe (Den tbl n).room (strD (l.take 1)) (.str (sL [c])) = some (.dat (.bl (!isD c c l))) := by
    unfold strD
    rw [gNe_s]
    congr 3
    cases l with
    | nil => simp [sL_inj, isD]
    | cons d l =>
      rw [Bool.eq_iff_iff]
      simp [sL_inj, isD]
      omega
  generalize strD (l.take 1) = R at *
  simp [e0, hm, s, g]
inductive Rd (α : Type) where
  | ok (a : α) (l : List Nat) | bad (l : List Nat)
def Rd.rest {α : Type} : Rd α → List Nat
  | .ok _ l => l
  | .bad l => l
def Rd.map {α β : Type} (f : α → β) : Rd α → Rd β
  | .ok a l => .ok (f a) l
  | .bad l => .bad l
@[simp] theorem Rd.map_ok {α β : Type} (f : α → β) (a : α) (l : List Nat) : (Rd.ok a l).map f = .ok (f a) l := rfl
@[simp] theorem Rd.map_bad {α β : Type} (f : α → β) (l : List Nat) : (Rd.bad l).map f = .bad l := rfl
@[simp] theorem Rd.rest_map {α β : Type} (f : α → β) (x : Rd α) : (x.map f).rest = x.rest := by cases x <;> rfl
def Res (o : Out RV) (x : Rd D) (k : Nat) (S : List Nat) (w : World) : Prop := match x with
  | .ok d r => o = .ok (.dat d) (w.set k (rdO S r))
  | .bad r => ∃ e, o = .exc (bdX S r) e (w.set k (rdO S r))
theorem raise_bad {rm k : Nat} {w : World} {S l : List Nat} {env : Ev} (h : RAt w k S l) (e0 : env[0]? = some (.wref k)) (hr : 296 ≤ rm) : sRaiseF rm "BadText" "place" (aCons (dFld "Reader" "at" (dName 0)) aNil) env w = .exc (bdX S l) env w := by
  have f := fld_at h.at_
  rw [sRaiseF_ap]
  simp [e0, f, hr, bdX]
def rTake : List Nat → List Nat → Rd Unit
  | [], l => .ok () l
  | _ :: _, [] => .bad []
  | c :: e, d :: l => if d = c then rTake e l else .bad (d :: l)
theorem rTake_suf : ∀ (e l : List Nat), (rTake e l).rest <:+ l
  | [], l => List.suffix_refl _
  | _ :: _, [] => List.suffix_refl _
  | c :: e, d :: l => by
    unfold rTake
    split
    · exact (rTake_suf e l).trans (List.suffix_cons _ _)
    · exact List.suffix_refl _
abbrev tkB (C : Cs) : Sd := (sSeq (sIf (dTst (dBin (gNe C.room) (dMeth C "Reader" "sign" 572 (dName 0) aNil) (dName 2))) (sRaiseF C.room "BadText" "place" (aCons (dFld "Reader" "at" (dName 0)) aNil)) sNil)
  (sFldAug "Reader" 0 "at" gAddI (dC (.int 1))))
theorem take_loop {tbl : Nat → Option DefB} (T : HasR1 tbl) {n k : Nat} {S : List Nat} {X : D} (hn : 6 ≤ n) : ∀ (e l : List Nat) (w : World) (s2 : Sl), RAt w k S l →
    match rTake e l with
    | .ok _ r => ∃ s2', forGo (gN 2) (tkB (Den tbl n)) (e.map fun c => strD [c]) [.wref k, .dat X, s2] w = .ok (.nx [.wref k, .dat X, s2']) (w.set k (rdO S r))
    | .bad r => ∃ e', forGo (gN 2) (tkB (Den tbl n)) (e.map fun c => strD [c]) [.wref k, .dat X, s2] w = .exc (bdX S r) e' (w.set k (rdO S r))
  | [], l, w, s2, h => ⟨s2, by rw [h.same]; rfl⟩
  | c :: e, l, w, s2, h => by
    have hr : (Den tbl n).room = 16 * n + 200 := den_room tbl n
    have s := c_sign T (n := n) (by omega) h
    have hm := hasM_rd (m := "sign") h.at_
    have g : gNe (Den tbl n).room (strD (l.take 1)) (strD [c]) = some (.dat (.bl (!isD c c l))) := by
      unfold strD
      rw [gNe_s]
      congr 3
      cases l with
      | nil => simp [sL_inj, isD]
      | cons d l =>
        rw [Bool.eq_iff_iff]
        simp [sL_inj, isD]
        omega
    have rb := raise_bad (rm := (Den tbl n).room) (env := [.wref k, .dat X, .dat (strD [c])]) h rfl (by omega)
    rw [List.map_cons, for_cons]
    simp only [gN_ap, List.set_cons_succ, List.set_cons_zero]
    cases l with
    | nil =>
      show ∃ e', _ = Out.exc (bdX S []) e' (w.set k (rdO S []))
      rw [h.same]
      refine ⟨[.wref k, .dat X, .dat (strD [c])], ?_⟩
      generalize strD (([] : List Nat).take 1) = R at *
      generalize strD [c] = R2 at *
      have g : gNe (Den tbl n).room R R2 = some (.dat (.bl true)) := g
      rw [show tkB (Den tbl n) [.wref k, .dat X, .dat R2] w = .exc (bdX S []) [.wref k, .dat X, .dat R2] w from seqX (by rw [sIf_ap, show dTst _ _ w = .ok true w from by simp [hm, s, g]]; exact rb)]
      rfl
    | cons d l =>
      unfold rTake
      by_cases hd : d = c
      · rw [if_pos hd]
        subst hd
        have g : gNe (Den tbl n).room (strD ((d :: l).take 1)) (strD [d]) = some (.dat (.bl false)) := by rw [g]; simp [isD]
        have ad := adv (env := [.wref k, .dat X, .dat (strD [d])]) h rfl
        have ih := take_loop T (k := k) (S := S) (X := X) hn e l (w.set k (rdO S l)) (.dat (strD [d])) (h.put (List.suffix_cons _ _))
        have st : tkB (Den tbl n) [.wref k, .dat X, .dat (strD [d])] w = .ok (.nx [.wref k, .dat X, .dat (strD [d])]) (w.set k (rdO S l)) := by
          generalize strD ((d :: l).take 1) = R at *
          generalize strD [d] = R2 at *
          exact (seqN (by simp [hm, s, g])).trans ad
        rw [st]
        simp only [bind_ok]
        simp only [rset_set] at ih
        exact ih
      · rw [if_neg hd]
        show ∃ e', _ = Out.exc (bdX S (d :: l)) e' (w.set k (rdO S (d :: l)))
        rw [h.same]
        have g : gNe (Den tbl n).room (strD ((d :: l).take 1)) (strD [c]) = some (.dat (.bl true)) := by
          rw [g]
          have : isD c c (d :: l) = false := by
            simp [isD]
            omega
          rw [this]
          rfl
        refine ⟨[.wref k, .dat X, .dat (strD [c])], ?_⟩
        generalize strD ((d :: l).take 1) = R at *
        generalize strD [c] = R2 at *
        rw [show tkB (Den tbl n) [.wref k, .dat X, .dat R2] w = .exc (bdX S (d :: l)) [.wref k, .dat X, .dat R2] w from seqX (by rw [sIf_ap, show dTst _ _ w = .ok true w from by simp [hm, s, g]]; exact rb)]
        rfl
theorem chs_sL (e : List Nat) : chs (sL e) = e.map fun c => strD [c] := by
  unfold chs
  rw [sL_cs]
  rfl
theorem c_take {tbl : Nat → Option DefB} (T : HasR1 tbl) {n k : Nat} {S l e : List Nat} {w : World} {a : Str} (hn : 7 ≤ n) (h : RAt w k S l) (ha : a = sL e) : Res ((Den tbl n).call 575 [.wref k, .dat (.str a)] w) ((rTake e l).map fun _ => .non) k S w := by
  subst ha
  obtain ⟨m, rfl, hm⟩ := succ_of (k := 6) hn
  have L := take_loop T (n := m) (X := .str (sL e)) hm e l w .un h
  rw [den_succ T.t575]
  rw [← chs_sL] at L
  have go : runB ⟨2, 3, b_Reader_take⟩ (Den tbl m) [.wref k, .dat (.str (sL e))] w = endR (forGo (gN 2) (tkB (Den tbl m)) (chs (sL e)) [.wref k, .dat (.str (sL e)), .un] w) := rfl
  rw [go]
  cases et : rTake e l with
  | ok u r =>
    rw [et] at L
    obtain ⟨s2', L⟩ := L
    rw [L]
    rfl
  | bad r =>
    rw [et] at L
    obtain ⟨e', L⟩ := L
    rw [L]
    exact ⟨e', rfl⟩
end Dl
namespace Dl
open PySem PySem.Spec PyProof.Rows L2 NdefX
def scan (lo hi : Nat) : Nat → List Nat → List Nat × List Nat
  | 0, l => ([], l)
  | _ + 1, [] => ([], [])
  | n + 1, c :: l => if lo ≤ c ∧ c ≤ hi then (c :: (scan lo hi n l).1, (scan lo hi n l).2) else ([], c :: l)
theorem scan_app (lo hi : Nat) : ∀ (n : Nat) (l : List Nat), (scan lo hi n l).1 ++ (scan lo hi n l).2 = l
  | 0, l => rfl
  | n + 1, [] => rfl
  | n + 1, c :: l => by
    unfold scan
    split
    · simp [scan_app lo hi n l]
    · rfl
theorem scan_suf (lo hi n : Nat) (l : List Nat) : (scan lo hi n l).2 <:+ l := ⟨_, scan_app lo hi n l⟩
theorem scan_len (lo hi : Nat) : ∀ (n : Nat) (l : List Nat), (scan lo hi n l).1.length ≤ n
  | 0, l => Nat.le_refl _
  | n + 1, [] => Nat.zero_le _
  | n + 1, c :: l => by
    unfold scan
    split
    · have := scan_len lo hi n l
      simp
      omega
    · simp
theorem scan_all (lo hi : Nat) : ∀ (n : Nat) (l : List Nat), ∀ c ∈ (scan lo hi n l).1, lo ≤ c ∧ c ≤ hi
  | 0, l, c, h => by cases h
  | n + 1, [], c, h => by cases h
  | n + 1, d :: l, c, h => by
    unfold scan at h
    split at h
    · rename_i hd
      rcases List.mem_cons.mp h with rfl | z
      · exact hd
      · exact scan_all lo hi n l c z
    · cases h
theorem scan_pos {lo hi n c : Nat} {l : List Nat} (h : lo ≤ c ∧ c ≤ hi) : scan lo hi (n + 1) (c :: l) = (c :: (scan lo hi n l).1, (scan lo hi n l).2) := by
  show (if lo ≤ c ∧ c ≤ hi then _ else _) = _
  rw [if_pos h]
theorem scan_eq (lo hi : Nat) : ∀ (a : List Nat) (n : Nat) (r : List Nat), (∀ c ∈ a, lo ≤ c ∧ c ≤ hi) → a.length ≤ n → (a.length = n ∨ isD lo hi r = false) → scan lo hi n (a ++ r) = (a, r)
  | [], 0, r, _, _, _ => rfl
  | [], n + 1, [], _, _, _ => rfl
  | [], n + 1, c :: r, _, _, h => by
    rcases h with h | h
    · simp at h
    · show scan lo hi (n + 1) (c :: r) = _
      unfold scan
      rw [if_neg]
      intro z
      simp [isD, z.1, z.2] at h
  | c :: a, 0, r, _, h, _ => by simp at h
  | c :: a, n + 1, r, ha, hl, h => by
    have ih := scan_eq lo hi a n r (fun d hd => ha d (.tail _ hd)) (by simpa using hl) (h.imp (fun z => by simpa using z) id)
    show scan lo hi (n + 1) (c :: (a ++ r)) = _
    unfold scan
    rw [if_pos (ha c (.head _)), ih]
abbrev scT (C : Cs) (a b : Str) (N : Int) : Tst := (tAnd' (dTst (dChain (gLe C.room) (gLe C.room) (dC (.str a)) (dMeth C "Reader" "sign" 572 (dName 0) aNil) (dC (.str b)))) (dTst (dBin (gLt C.room) (dFld "Reader" "at" (dName 0)) (dBin gAdd (dName 1) (dC (.int N))))))
theorem scan_loop {tbl : Nat → Option DefB} (T : HasR1 tbl) {m k lo hi N begin_ : Nat} {S : List Nat} {a b : Str} (hm : 1 ≤ m) (ha : a = sL [lo]) (hb : b = sL [hi]) : ∀ (n : Nat) (l : List Nat) (w : World), RAt w k S l → (S.length - l.length) + n = begin_ + N →
    whileGo (n + 1) (scT (Den tbl m) a b (N : Int)) (sFldAug "Reader" 0 "at" gAddI (dC (.int 1))) [.wref k, .dat (.int (begin_ : Int))] w = .ok (.nx [.wref k, .dat (.int (begin_ : Int))]) (w.set k (rdO S (scan lo hi n l).2))
  | n, l, w, h, hN => by
    have t1 := t_span T (n := m) hm h (env := [.wref k, .dat (.int (begin_ : Int))]) rfl ha hb
    have fa := fld_at h.at_
    have t2 : ∀ x : Bool, x = decide (S.length - l.length < begin_ + N) → dTst (dBin (gLt (Den tbl m).room) (dFld "Reader" "at" (dName 0)) (dBin gAdd (dName 1) (dC (.int (N : Int))))) [.wref k, .dat (.int (begin_ : Int))] w = .ok x w := by
      intro x hx
      have e : decide (((S.length - l.length : Nat) : Int) < (begin_ : Int) + (N : Int)) = x := by
        rw [hx]
        congr 1
        apply propext
        omega
      generalize ((S.length - l.length : Nat) : Int) = A at *
      simp [fa, e]
    have T0 : scT (Den tbl m) a b (N : Int) [.wref k, .dat (.int (begin_ : Int))] w = .ok (isD lo hi l && decide (S.length - l.length < begin_ + N)) w := by
      unfold scT
      rw [tAnd_ap, t1]
      simp only [bind_ok]
      cases hd : isD lo hi l with
      | false => rfl
      | true => rw [if_pos rfl, t2 _ rfl]; rfl
    match n, l with
    | 0, l =>
      have : decide (S.length - l.length < begin_ + N) = false := by simp; omega
      rw [this, Bool.and_false] at T0
      rw [show (scan lo hi 0 l).2 = l from rfl, h.same]
      exact while_end T0
    | n + 1, [] =>
      rw [show (scan lo hi (n + 1) []).2 = [] from rfl, h.same]
      exact while_end T0
    | n + 1, c :: l =>
      have hl := h.len
      simp only [List.length_cons] at hl hN
      have hlt : decide (S.length - (c :: l).length < begin_ + N) = true := by simp only [List.length_cons, decide_eq_true_eq]; omega
      rw [hlt, Bool.and_true] at T0
      by_cases hc : lo ≤ c ∧ c ≤ hi
      · have hd : isD lo hi (c :: l) = true := by simp [isD, hc.1, hc.2]
        rw [hd] at T0
        have ih := scan_loop T (N := N) (begin_ := begin_) hm ha hb n l (w.set k (rdO S l)) (h.put (List.suffix_cons _ _)) (by omega)
        rw [while_turn T0 (adv h rfl), ih, rset_set, scan_pos hc]
      · have hd : isD lo hi (c :: l) = false := by
          simp only [isD, Bool.and_eq_false_iff, decide_eq_false_iff_not]
          omega
        rw [hd] at T0
        rw [show (scan lo hi (n + 1) (c :: l)).2 = c :: l by unfold scan; rw [if_neg hc], h.same]
        exact while_end T0
theorem cut_span {S l r a : List Nat} (h : l <:+ S) (e : a ++ r = l) : cutD S (some ((S.length - l.length : Nat) : Int)) (some ((S.length - r.length : Nat) : Int)) = a := by
  have hl := h.length_le
  have hlen : l.length = a.length + r.length := by rw [← e, List.length_append]
  rw [cutD_mid (by omega), suf_drop h, show S.length - r.length - (S.length - l.length) = a.length by omega, ← e]
  simp
def rNum (l : List Nat) : Nat × List Nat := (NumText.digitsVal (scan 48 57 60 l).1, (scan 48 57 60 l).2)
theorem rNum_suf (l : List Nat) : (rNum l).2 <:+ l := scan_suf ..
theorem c_rnumber {tbl : Nat → Option DefB} (T : HasR1 tbl) {n k : Nat} {S l : List Nat} {w : World} (hn : 2 ≤ n) (h : RAt w k S l) (hd : isD 48 57 l = true) : (Den tbl n).call 573 [.wref k] w = .ok (.dat (.int ((rNum l).1 : Int))) (w.set k (rdO S (rNum l).2)) := by
  obtain ⟨m, rfl, hm⟩ := succ_of (k := 1) hn
  rw [den_succ T.t573]
  have e := scan_loop T (m := m) (N := 60) (begin_ := S.length - l.length) hm (show ("0" : Str) = sL [48] by decide +kernel) (show ("9" : Str) = sL [57] by decide +kernel) 60 l w h rfl
  have e' : sWhile (scT (Den tbl m) "0" "9" 60) (sFldAug "Reader" 0 "at" gAddI (dC (.int 1))) [.wref k, .dat (.int ((S.length - l.length : Nat) : Int))] w = _ := sWhile_of (show 60 + 1 ≤ 18446744073709551616 by decide) e
  have h2 := h.put (scan_suf 48 57 60 l)
  have f0 := fld_at h.at_
  have f1 := fld_signs h2.at_
  have f2 := fld_at h2.at_
  have g : gSl (some ((S.length - l.length : Nat) : Int)) (some ((S.length - (scan 48 57 60 l).2.length : Nat) : Int)) (strD S) = some (.dat (strD (scan 48 57 60 l).1)) := by
    unfold strD
    rw [gSl_sL, cut_span h.suf (scan_app 48 57 60 l)]
  have ne : (scan 48 57 60 l).1 ≠ [] := by
    cases l with
    | nil => cases hd
    | cons c l =>
      simp only [isD, Bool.and_eq_true, decide_eq_true_eq] at hd
      unfold scan
      rw [if_pos hd]
      simp
  have i := intText_digits (x := sL (scan 48 57 60 l).1) (by rw [sL_cs]; exact scan_all 48 57 60 l) (by rw [sL_cs]; exact ne) (by rw [sL_len]; have := scan_len 48 57 60 l; omega)
  rw [sL_cs] at i
  have ci : cIntT [strD (scan 48 57 60 l).1] = some (.dat (.int ((rNum l).1 : Int))) := by
    show (if (sL (scan 48 57 60 l).1).length ≤ 640 then (PySem.intText? (sL (scan 48 57 60 l).1)).map fun n => RV.dat (.int n) else none) = _
    rw [if_pos (by rw [sL_len]; have := scan_len 48 57 60 l; omega), i]
    rfl
  show endR (b_Reader_number (Den tbl m) [.wref k, .un] w) = _
  unfold b_Reader_number
  rw [seqN (env' := [.wref k, .dat (.int ((S.length - l.length : Nat) : Int))]) (w' := w) (by
    generalize ((S.length - l.length : Nat) : Int) = A at *
    simp [f0])]
  rw [seqN (a := sWhile _ _) (w' := w.set k (rdO S (scan 48 57 60 l).2)) e']
  rw [show (rNum l).2 = (scan 48 57 60 l).2 from rfl]
  generalize w.set k (rdO S (scan 48 57 60 l).2) = w2 at *
  generalize ((S.length - l.length : Nat) : Int) = A at *
  generalize ((S.length - (scan 48 57 60 l).2.length : Nat) : Int) = B at *
  generalize strD (scan 48 57 60 l).1 = R at *
  generalize strD S = SS at *
  simp [f1, f2, g, ci]
def rWord (l : List Nat) : Rd (List Nat) := if (scan 97 122 8 l).1 = [] then .bad l else .ok (scan 97 122 8 l).1 (scan 97 122 8 l).2
theorem rWord_suf (l : List Nat) : (rWord l).rest <:+ l := by
  unfold rWord
  split
  · exact List.suffix_refl _
  · exact scan_suf ..
theorem c_rword {tbl : Nat → Option DefB} (T : HasR1 tbl) {n k : Nat} {S l : List Nat} {w : World} (hn : 7 ≤ n) (h : RAt w k S l) : Res ((Den tbl n).call 578 [.wref k] w) ((rWord l).map strD) k S w := by
  obtain ⟨m, rfl, hm⟩ := succ_of (k := 6) hn
  rw [den_succ T.t578]
  have hr : (Den tbl m).room = 16 * m + 200 := den_room tbl m
  have e := scan_loop T (m := m) (N := 8) (begin_ := S.length - l.length) (by omega) (show ("a" : Str) = sL [97] by decide +kernel) (show ("z" : Str) = sL [122] by decide +kernel) 8 l w h rfl
  have e' : sWhile (scT (Den tbl m) "a" "z" 8) (sFldAug "Reader" 0 "at" gAddI (dC (.int 1))) [.wref k, .dat (.int ((S.length - l.length : Nat) : Int))] w = _ := sWhile_of (show 8 + 1 ≤ 18446744073709551616 by decide) e
  have h2 := h.put (scan_suf 97 122 8 l)
  have f0 := fld_at h.at_
  have f1 := fld_signs h2.at_
  have f2 := fld_at h2.at_
  have g : gSl (some ((S.length - l.length : Nat) : Int)) (some ((S.length - (scan 97 122 8 l).2.length : Nat) : Int)) (strD S) = some (.dat (strD (scan 97 122 8 l).1)) := by
    unfold strD
    rw [gSl_sL, cut_span h.suf (scan_app 97 122 8 l)]
  have sa := scan_app 97 122 8 l
  have hlen := congrArg List.length sa
  rw [List.length_append] at hlen
  have hS := h.len
  have rb := raise_bad (rm := (Den tbl m).room) (env := [.wref k, .dat (.int ((S.length - l.length : Nat) : Int))]) h2 rfl (by omega)
  show Res (endR (b_Reader_word (Den tbl m) [.wref k, .un] w)) _ k S w
  unfold b_Reader_word
  rw [seqN (env' := [.wref k, .dat (.int ((S.length - l.length : Nat) : Int))]) (w' := w) (by
    generalize ((S.length - l.length : Nat) : Int) = A at *
    simp [f0])]
  rw [seqN (a := sWhile _ _) (w' := w.set k (rdO S (scan 97 122 8 l).2)) e']
  unfold rWord
  by_cases hne : (scan 97 122 8 l).1 = []
  · have hl2 : (scan 97 122 8 l).2 = l := by rw [hne] at sa; exact sa
    rw [if_pos hne]
    show ∃ e, _ = _
    rw [hl2] at f2 rb h2 ⊢
    rw [h.same] at f2 rb ⊢
    generalize hA : ((S.length - l.length : Nat) : Int) = A at *
    refine ⟨[.wref k, .dat (.int A)], ?_⟩
    rw [seqX (e := [.wref k, .dat (.int A)]) (w' := w) (x := bdX S l) (by rw [sIf_ap, show dTst _ _ w = .ok true w from by simp [f2]]; exact rb)]
    rfl
  · rw [if_neg hne]
    show _ = _
    have hpos : 0 < (scan 97 122 8 l).1.length := List.length_pos_iff.mpr hne
    have q : ¬ (((S.length - (scan 97 122 8 l).2.length : Nat) : Int) = ((S.length - l.length : Nat) : Int)) := by omega
    generalize w.set k (rdO S (scan 97 122 8 l).2) = w2 at *
    generalize ((S.length - l.length : Nat) : Int) = A at *
    generalize ((S.length - (scan 97 122 8 l).2.length : Nat) : Int) = B at *
    generalize strD (scan 97 122 8 l).1 = R at *
    generalize strD S = SS at *
    rw [seqN (env' := [.wref k, .dat (.int A)]) (w' := w2) (by simp [f2, q])]
    simp [f1, f2, g]
def rMark (l : List Nat) : Rd Nat := if isD 48 48 l = true then .ok 0 l.tail else if isD 49 57 l = true then .ok (rNum l).1 (rNum l).2 else .bad l
theorem rMark_suf (l : List Nat) : (rMark l).rest <:+ l := by
  unfold rMark
  split
  · exact List.tail_suffix _
  · split
    · exact rNum_suf l
    · exact List.suffix_refl _
theorem isD_mono {a b c d : Nat} {l : List Nat} (h : isD a b l = true) (h1 : c ≤ a) (h2 : b ≤ d) : isD c d l = true := by
  cases l with
  | nil => cases h
  | cons x l =>
    simp only [isD, Bool.and_eq_true, decide_eq_true_eq] at h ⊢
    omega
theorem isD_cons {a b : Nat} {l : List Nat} (h : isD a b l = true) : ∃ c, l = c :: l.tail ∧ a ≤ c ∧ c ≤ b := by
  cases l with
  | nil => cases h
  | cons x l =>
    simp only [isD, Bool.and_eq_true, decide_eq_true_eq] at h
    exact ⟨x, rfl, h⟩
theorem adv' {w : World} {k : Nat} {S l : List Nat} {a b : Nat} {env : Ev} (h : RAt w k S l) (hd : isD a b l = true) (e0 : env[0]? = some (.wref k)) : sFldAug "Reader" 0 "at" gAddI (dC (.int 1)) env w = .ok (.nx env) (w.set k (rdO S l.tail)) := by
  obtain ⟨c, e, _⟩ := isD_cons hd
  rw [e] at h
  exact adv h e0
theorem c_rmark {tbl : Nat → Option DefB} (T : HasR1 tbl) {n k : Nat} {S l : List Nat} {w : World} (hn : 7 ≤ n) (h : RAt w k S l) : Res ((Den tbl n).call 579 [.wref k] w) ((rMark l).map fun n : Nat => D.int (n : Int)) k S w := by
  obtain ⟨m, rfl, hm⟩ := succ_of (k := 6) hn
  rw [den_succ T.t579]
  have hr : (Den tbl m).room = 16 * m + 200 := den_room tbl m
  have t1 := t_is T (n := m) (c := 48) (a := "0") (env := [.wref k]) (by omega) h rfl (by decide +kernel)
  have t2 := t_span T (n := m) (lo := 49) (hi := 57) (a := "1") (b := "9") (env := [.wref k]) (by omega) h rfl (by decide +kernel) (by decide +kernel)
  show Res (endR (b_Reader_mark (Den tbl m) [.wref k] w)) _ k S w
  unfold b_Reader_mark rMark
  by_cases h1 : isD 48 48 l = true
  · rw [if_pos h1]
    rw [h1] at t1
    have ad := adv' (env := [.wref k]) h h1 rfl
    show _ = _
    rw [seqR (r := .dat (.int 0)) (w' := w.set k (rdO S l.tail)) (by
      rw [sIf_ap, t1]
      show sSeq _ _ _ _ = _
      rw [seqN ad]
      rfl)]
    rfl
  · rw [if_neg h1]
    rw [show isD 48 48 l = false by simpa using h1] at t1
    rw [seqN (env' := [.wref k]) (w' := w) (by rw [sIf_ap, t1]; rfl)]
    by_cases h2 : isD 49 57 l = true
    · rw [if_pos h2]
      rw [h2] at t2
      have cn := c_rnumber T (n := m) (by omega) h (isD_mono h2 (by decide) (by decide))
      have hM := hasM_rd (m := "number") h.at_
      show _ = _
      rw [seqN (env' := [.wref k]) (w' := w) (by rw [sIf_ap, tNot_ap, t2]; rfl)]
      generalize w.set k (rdO S (rNum l).2) = w2 at *
      simp [hM, cn]
    · rw [if_neg h2]
      rw [show isD 49 57 l = false by simpa using h2] at t2
      have rb := raise_bad (rm := (Den tbl m).room) (env := [.wref k]) h rfl (by omega)
      refine ⟨[.wref k], ?_⟩
      rw [h.same]
      rw [seqX (e := [.wref k]) (w' := w) (x := bdX S l) (by rw [sIf_ap, tNot_ap, t2]; exact rb)]
      rfl
end Dl
namespace Dl
open PySem PySem.Spec PyProof.Rows L2 NdefX
structure HasRd (tbl : Nat → Option DefB) : Prop extends HasR1 tbl where
  t563 : tbl 563 = some ⟨2, 3, b_Reader_whole⟩
  t574 : tbl 574 = some ⟨2, 3, b_Reader_item⟩
  t576 : tbl 576 = some ⟨2, 5, b_Reader_part⟩
  t577 : tbl 577 = some ⟨2, 3, b_Reader_body⟩
abbrev RP : Type := List Str → List Nat → Option (Rd Pa)
def rItem (P : RP) (ws : List Str) (l : List Nat) : Option (Rd It) :=
  if isD 49 57 l = true then (if (rNum l).1 = 1 then some (.bad (rNum l).2) else match rTake [32] (rNum l).2 with
    | .bad q => some (.bad q)
    | .ok _ q => (P ws q).map fun x => x.map fun p => ((rNum l).1, p))
  else (P ws l).map fun x => x.map fun p => (1, p)
def rLoop (P : RP) (ws : List Str) : Nat → List It → List Nat → Option (Rd (List It))
  | 0, _, _ => none
  | g + 1, acc, l => if isD 32 32 l = true then (match rTake [32, 124, 32] l with
      | .bad q => some (.bad q)
      | .ok _ q => (match rItem P ws q with
        | none => none
        | some (.bad s) => some (.bad s)
        | some (.ok i s) => rLoop P ws g (acc ++ [i]) s))
    else some (.ok acc l)
def rWhole (P : RP) (ws : List Str) (l : List Nat) : Option (Rd (List It)) :=
  if isD 48 48 l = true then some (.ok [] l.tail) else match rItem P ws l with
    | none => none
    | some (.bad s) => some (.bad s)
    | some (.ok i s) => rLoop P ws (s.length + 1) [i] s
def rBody (P : RP) (ws : List Str) (l : List Nat) : Option (Rd (List It)) :=
  if isD 48 48 l = true then some (.ok [] l.tail) else if isD 40 40 l = true then (match rWhole P ws l.tail with
    | none => none
    | some (.bad s) => some (.bad s)
    | some (.ok L s) => (match rTake [41] s with
      | .bad q => some (.bad q)
      | .ok _ q => some (.ok L q)))
  else (P ws l).map fun x => x.map fun p => [(1, p)]
def rPart (P : RP) (ws : List Str) (l : List Nat) : Option (Rd Pa) :=
  if isD 63 63 l = true then some ((rMark l.tail).map .mark) else match rWord l with
    | .bad r => some (.bad r)
    | .ok x r => if x.length = 1 ∧ isD 60 60 r = true then (match rWhole P ws r.tail with
        | none => none
        | some (.bad s) => some (.bad s)
        | some (.ok L s) => (match rTake [62] s with
          | .bad q => some (.bad q)
          | .ok _ q => some (.ok (.letter (sL x) (ofL L)) q)))
      else if x.length = 1 ∧ isD 40 40 r = true then (match rWord r.tail with
        | .bad s => some (.bad s)
        | .ok b s => (match rTake [41, 58, 32] s with
          | .bad q => some (.bad q)
          | .ok _ q => (rBody P (sL b :: ws) q).map fun y => y.map fun L => .wait (sL x) (ofL L)))
      else if sL x ∈ ws then some (.ok (.got (ws.idxOf (sL x))) r) else some (.ok (.name (sL x)) r)
def rP : Nat → RP
  | 0 => fun _ _ => none
  | f + 1 => rPart (rP f)
def SufP (P : RP) : Prop := ∀ ws l x, P ws l = some x → x.rest <:+ l
theorem rTake_ok : ∀ {e l r : List Nat} {u : Unit}, rTake e l = .ok u r → l = e ++ r
  | [], l, r, u, h => by cases h; rfl
  | _ :: _, [], r, u, h => by cases h
  | c :: e, d :: l, r, u, h => by
    unfold rTake at h
    split at h
    · rename_i hd; rw [hd, rTake_ok h]; rfl
    · cases h
theorem rItem_suf {P : RP} (hP : SufP P) {ws : List Str} {l : List Nat} {x : Rd It} (h : rItem P ws l = some x) : x.rest <:+ l := by
  unfold rItem at h
  split at h
  · split at h
    · cases h; exact rNum_suf l
    · have ts := rTake_suf [32] (rNum l).2
      split at h
      · rename_i q e
        rw [e] at ts
        cases h
        exact ts.trans (rNum_suf l)
      · rename_i q e
        rw [e] at ts
        obtain ⟨y, hy, rfl⟩ := Option.map_eq_some_iff.mp h
        rw [Rd.rest_map]
        exact (hP _ _ _ hy).trans (ts.trans (rNum_suf l))
  · obtain ⟨y, hy, rfl⟩ := Option.map_eq_some_iff.mp h
    rw [Rd.rest_map]
    exact hP _ _ _ hy
theorem rLoop_suf {P : RP} (hP : SufP P) {ws : List Str} : ∀ {g : Nat} {acc : List It} {l : List Nat} {x : Rd (List It)}, rLoop P ws g acc l = some x → x.rest <:+ l
  | 0, _, _, _, h => by cases h
  | g + 1, acc, l, x, h => by
    unfold rLoop at h
    split at h
    · have ts := rTake_suf [32, 124, 32] l
      split at h
      · rename_i q e; rw [e] at ts; cases h; exact ts
      · rename_i q e
        rw [e] at ts
        split at h
        · cases h
        · rename_i s e2; cases h; exact (rItem_suf hP e2).trans ts
        · rename_i i s e2
          exact (rLoop_suf hP h).trans ((rItem_suf hP e2).trans ts)
    · cases h; exact List.suffix_refl _
theorem rWhole_suf {P : RP} (hP : SufP P) {ws : List Str} {l : List Nat} {x : Rd (List It)} (h : rWhole P ws l = some x) : x.rest <:+ l := by
  unfold rWhole at h
  split at h
  · cases h; exact List.tail_suffix _
  · split at h
    · cases h
    · rename_i s e2; cases h; exact rItem_suf hP e2
    · rename_i i s e2
      exact (rLoop_suf hP h).trans (rItem_suf hP e2)
theorem rBody_suf {P : RP} (hP : SufP P) {ws : List Str} {l : List Nat} {x : Rd (List It)} (h : rBody P ws l = some x) : x.rest <:+ l := by
  unfold rBody at h
  split at h
  · cases h; exact List.tail_suffix _
  · split at h
    · split at h
      · cases h
      · rename_i s e2; cases h; exact (rWhole_suf hP e2).trans (List.tail_suffix _)
      · rename_i L s e2
        have ts := rTake_suf [41] s
        have ws := (rWhole_suf hP e2).trans (List.tail_suffix _)
        split at h
        · rename_i q e; rw [e] at ts; cases h; exact ts.trans ws
        · rename_i q e; rw [e] at ts; cases h; exact ts.trans ws
    · obtain ⟨y, hy, rfl⟩ := Option.map_eq_some_iff.mp h
      rw [Rd.rest_map]
      exact hP _ _ _ hy
theorem rPart_suf {P : RP} (hP : SufP P) : SufP (rPart P) := by
  intro ws l x h
  unfold rPart at h
  split at h
  · cases h
    rw [Rd.rest_map]
    exact (rMark_suf _).trans (List.tail_suffix _)
  · have hw := rWord_suf l
    split at h
    · rename_i r e; rw [e] at hw; cases h; exact hw
    · rename_i a r e
      rw [e] at hw
      have hw : r <:+ l := hw
      split at h
      · split at h
        · cases h
        · rename_i s e2; cases h; exact (rWhole_suf hP e2).trans ((List.tail_suffix _).trans hw)
        · rename_i L s e2
          have ts := rTake_suf [62] s
          have ws := (rWhole_suf hP e2).trans ((List.tail_suffix _).trans hw)
          split at h
          · rename_i q e; rw [e] at ts; cases h; exact ts.trans ws
          · rename_i q e; rw [e] at ts; cases h; exact ts.trans ws
      · split at h
        · have hw2 := rWord_suf r.tail
          split at h
          · rename_i s e2; rw [e2] at hw2; cases h; exact hw2.trans ((List.tail_suffix _).trans hw)
          · rename_i b s e2
            rw [e2] at hw2
            have hw2 : s <:+ r.tail := hw2
            have ts := rTake_suf [41, 58, 32] s
            split at h
            · rename_i q e3; rw [e3] at ts; cases h; exact ts.trans (hw2.trans ((List.tail_suffix _).trans hw))
            · rename_i q e3
              rw [e3] at ts
              obtain ⟨y, hy, rfl⟩ := Option.map_eq_some_iff.mp h
              rw [Rd.rest_map]
              exact (rBody_suf hP hy).trans (ts.trans (hw2.trans ((List.tail_suffix _).trans hw)))
        · split at h
          · cases h; exact hw
          · cases h; exact hw
theorem rP_suf : ∀ f, SufP (rP f)
  | 0 => fun _ _ _ h => by cases h
  | f + 1 => rPart_suf (rP_suf f)
theorem whileGo_moreX {t : Tst} {b : Sd} : ∀ {n m : Nat} {env : Ev} {w w' : World} {x : Exn} {e : Ev}, n ≤ m → whileGo n t b env w = .exc x e w' → whileGo m t b env w = .exc x e w'
  | 0, _, _, _, _, _, _, _, h => by cases h
  | n + 1, 0, _, _, _, _, _, h, _ => by omega
  | n + 1, m + 1, env, w, w', x, e, h, he => by
    unfold whileGo at he ⊢
    cases h1 : t env w with
    | stuck => rw [h1] at he; cases he
    | exc _ _ _ => rw [h1] at he; exact he
    | ok k w1 =>
      rw [h1] at he
      simp only [bind_ok] at he ⊢
      cases k with
      | false => exact he
      | true =>
        simp only [if_true] at he ⊢
        cases h2 : b env w1 with
        | stuck => rw [h2] at he; cases he
        | exc _ _ _ => rw [h2] at he; exact he
        | ok g w2 =>
          rw [h2] at he
          simp only [bind_ok] at he ⊢
          cases g with
          | nx e1 => exact whileGo_moreX (n := n) (m := m) (by omega) he
          | ct e1 => exact whileGo_moreX (n := n) (m := m) (by omega) he
          | bk e1 => cases he
          | rt r => cases he
theorem sWhile_ofX {t : Tst} {b : Sd} {n : Nat} {env e : Ev} {w w' : World} {x : Exn} (hn : n ≤ 18446744073709551616) (h : whileGo n t b env w = .exc x e w') : sWhile t b env w = .exc x e w' := whileGo_moreX (fuel_ge hn) h
def PartAt (tbl : Nat → Option DefB) (N K : Nat) (S : List Nat) (P : RP) : Prop := ∀ (n k : Nat) (ws : List Str) (l : List Nat) (w : World) (x : Rd Pa), N ≤ n → RAt w k S l → ws.length ≤ K → P ws l = some x → Res ((Den tbl n).call 576 [.wref k, .dat (wsD ws)] w) (x.map Pa.d) k S w
section
variable {tbl : Nat → Option DefB} (T : HasRd tbl) {P : RP} {N K : Nat} {S : List Nat} (hP : PartAt tbl N K S P) (hS : SufP P) (hN : 7 ≤ N) {k : Nat} {ws : List Str}
include T hP hS hN
theorem c_ritem {n : Nat} {l : List Nat} {w : World} {x : Rd It} (hn : N + 1 ≤ n) (h : RAt w k S l) (hws : ws.length ≤ K) (e : rItem P ws l = some x) : Res ((Den tbl n).call 574 [.wref k, .dat (wsD ws)] w) (x.map itD) k S w := by
  obtain ⟨m, rfl, hm⟩ := succ_of (k := N) hn
  rw [den_succ T.t574]
  have hr : (Den tbl m).room = 16 * m + 200 := den_room tbl m
  have t1 := t_span T.toHasR1 (n := m) (lo := 49) (hi := 57) (a := "1") (b := "9") (env := [.wref k, .dat (wsD ws), .dat (.int 1)]) (by omega) h rfl (by decide +kernel) (by decide +kernel)
  show Res (endR (b_Reader_item (Den tbl m) [.wref k, .dat (wsD ws), .un] w)) _ k S w
  unfold b_Reader_item
  rw [seqN (env' := [.wref k, .dat (wsD ws), .dat (.int 1)]) (w' := w) rfl]
  -- what is told at the end
  have fin : ∀ (c : Nat) (q : List Nat) (w1 : World) (y : Rd Pa), RAt w1 k S q → P ws q = some y → Res (endR (sRet (dTup (aCons (dName 2) (aCons (dMeth (Den tbl m) "Reader" "part" 576 (dName 0) (aCons (dName 1) aNil)) aNil))) [.wref k, .dat (wsD ws), .dat (.int (c : Int))] w1)) ((y.map fun p => ((c, p) : It)).map itD) k S w1 := by
    intro c q w1 y h1 ey
    have c1 := hP m k ws q w1 y hm h1 hws ey
    have hM := hasM_rd (m := "part") h1.at_
    generalize wsD ws = W at *
    cases y with
    | ok p r =>
      show _ = _
      have c1 : _ = _ := c1
      generalize w1.set k (rdO S r) = w2 at *
      simp [hM, c1, itD]
    | bad r =>
      obtain ⟨e', c1⟩ := c1
      refine ⟨[.wref k, .dat W, .dat (.int (c : Int))], ?_⟩
      generalize w1.set k (rdO S r) = w2 at *
      simp [hM, c1]
  unfold rItem at e
  by_cases h1 : isD 49 57 l = true
  · rw [if_pos h1] at e
    rw [h1] at t1
    have cn := c_rnumber T.toHasR1 (n := m) (by omega) h (isD_mono h1 (by decide) (by decide))
    have h2 := h.put (rNum_suf l)
    have hMn := hasM_rd (m := "number") h.at_
    have hMt := hasM_rd (m := "take") h2.at_
    have rb := raise_bad (rm := (Den tbl m).room) (env := [.wref k, .dat (wsD ws), .dat (.int ((rNum l).1 : Int))]) h2 rfl (by omega)
    have s1 : (sSet 2 (dMeth (Den tbl m) "Reader" "number" 573 (dName 0) aNil)) [.wref k, .dat (wsD ws), .dat (.int 1)] w = .ok (.nx [.wref k, .dat (wsD ws), .dat (.int ((rNum l).1 : Int))]) (w.set k (rdO S (rNum l).2)) := by
      generalize w.set k (rdO S (rNum l).2) = w2 at *
      generalize wsD ws = W at *
      simp [hMn, cn]
    by_cases h3 : (rNum l).1 = 1
    · rw [if_pos h3] at e
      cases e
      refine ⟨[.wref k, .dat (wsD ws), .dat (.int ((rNum l).1 : Int))], ?_⟩
      rw [seqX (e := [.wref k, .dat (wsD ws), .dat (.int ((rNum l).1 : Int))]) (w' := w.set k (rdO S (rNum l).2)) (x := bdX S (rNum l).2) (by
        rw [sIf_ap, t1]
        show sSeq _ _ _ _ = _
        rw [seqN s1]
        refine seqX ?_
        rw [sIf_ap, show dTst _ _ _ = .ok true (w.set k (rdO S (rNum l).2)) from by simp [h3]]
        exact rb)]
      rfl
    · rw [if_neg h3] at e
      have q3 : ¬ ((rNum l).1 : Int) = 1 := by omega
      have ct := c_take T.toHasR1 (n := m) (e := [32]) (a := " ") (by omega) h2 (by decide +kernel)
      have ts := rTake_suf [32] (rNum l).2
      have s2 : (sIf (dTst (dBin (gEq (Den tbl m).room) (dName 2) (dC (.int 1)))) (sRaiseF (Den tbl m).room "BadText" "place" (aCons (dFld "Reader" "at" (dName 0)) aNil)) sNil) [.wref k, .dat (wsD ws), .dat (.int ((rNum l).1 : Int))] (w.set k (rdO S (rNum l).2)) = .ok (.nx [.wref k, .dat (wsD ws), .dat (.int ((rNum l).1 : Int))]) (w.set k (rdO S (rNum l).2)) := by
        simp [q3, h3]
      cases et : rTake [32] (rNum l).2 with
      | bad q =>
        rw [et] at ct e
        cases e
        obtain ⟨e', ct⟩ := ct
        rw [rset_set] at ct
        refine ⟨[.wref k, .dat (wsD ws), .dat (.int ((rNum l).1 : Int))], ?_⟩
        rw [seqX (e := [.wref k, .dat (wsD ws), .dat (.int ((rNum l).1 : Int))]) (w' := w.set k (rdO S q)) (x := bdX S q) (by
          rw [sIf_ap, t1]
          show sSeq _ _ _ _ = _
          rw [seqN s1, seqN s2]
          generalize w.set k (rdO S q) = w3 at *
          generalize w.set k (rdO S (rNum l).2) = w2 at *
          generalize wsD ws = W at *
          simp [hMt, ct])]
        rfl
      | ok u q =>
        rw [et] at ct e ts
        obtain ⟨y, ey, rfl⟩ := Option.map_eq_some_iff.mp e
        have ct : _ = _ := ct
        rw [rset_set] at ct
        have h4 : RAt (w.set k (rdO S q)) k S q := h.put (List.IsSuffix.trans ts (rNum_suf l))
        have f := fin (rNum l).1 q _ y h4 ey
        rw [seqN (env' := [.wref k, .dat (wsD ws), .dat (.int ((rNum l).1 : Int))]) (w' := w.set k (rdO S q)) (by
          rw [sIf_ap, t1]
          show sSeq _ _ _ _ = _
          rw [seqN s1, seqN s2]
          generalize w.set k (rdO S q) = w3 at *
          generalize w.set k (rdO S (rNum l).2) = w2 at *
          generalize wsD ws = W at *
          simp [hMt, ct])]
        cases y with
        | ok p r => have f : _ = _ := f; rw [rset_set] at f; exact f
        | bad r => obtain ⟨e', f⟩ := f; rw [rset_set] at f; exact ⟨e', f⟩
  · rw [if_neg h1] at e
    rw [show isD 49 57 l = false by simpa using h1] at t1
    obtain ⟨y, ey, rfl⟩ := Option.map_eq_some_iff.mp e
    rw [seqN (env' := [.wref k, .dat (wsD ws), .dat (.int 1)]) (w' := w) (by rw [sIf_ap, t1]; rfl)]
    exact fin 1 l w y h ey
abbrev wlT (C : Cs) : Tst := dTst (dBin (gEq C.room) (dMeth C "Reader" "sign" 572 (dName 0) aNil) (dC (.str " ")))
abbrev wlB (C : Cs) : Sd := (sSeq (sExpr (dMeth C "Reader" "take" 575 (dName 0) (aCons (dC (.str " | ")) aNil)))
  (sAppend 2 (dMeth C "Reader" "item" 574 (dName 0) (aCons (dName 1) aNil))))
theorem c_rloop {m : Nat} (hm : N + 1 ≤ m) (hws : ws.length ≤ K) : ∀ (g : Nat) (acc : List It) (l : List Nat) (w : World) (x : Rd (List It)), RAt w k S l → acc.length + l.length ≤ 2000000 → rLoop P ws g acc l = some x →
    match x with
    | .ok L r => whileGo g (wlT (Den tbl m)) (wlB (Den tbl m)) [.wref k, .dat (wsD ws), .own (acc.map itD)] w = .ok (.nx [.wref k, .dat (wsD ws), .own (L.map itD)]) (w.set k (rdO S r))
    | .bad r => ∃ e, whileGo g (wlT (Den tbl m)) (wlB (Den tbl m)) [.wref k, .dat (wsD ws), .own (acc.map itD)] w = .exc (bdX S r) e (w.set k (rdO S r))
  | 0, _, _, _, _, _, _, h => by cases h
  | g + 1, acc, l, w, x, h, hl, e => by
    have t1 := t_is T.toHasR1 (n := m) (c := 32) (a := " ") (env := [.wref k, .dat (wsD ws), .own (acc.map itD)]) (by omega) h rfl (by decide +kernel)
    unfold rLoop at e
    by_cases h1 : isD 32 32 l = true
    · rw [if_pos h1] at e
      rw [h1] at t1
      have ct := c_take T.toHasR1 (n := m) (e := [32, 124, 32]) (a := " | ") (by omega) h (by decide +kernel)
      have ts := rTake_suf [32, 124, 32] l
      have hMt := hasM_rd (m := "take") h.at_
      cases et : rTake [32, 124, 32] l with
      | bad q =>
        rw [et] at ct e
        cases e
        obtain ⟨e', ct⟩ := ct
        refine ⟨[.wref k, .dat (wsD ws), .own (acc.map itD)], ?_⟩
        unfold whileGo
        rw [show wlT (Den tbl m) _ w = .ok true w from t1]
        simp only [bind_ok, if_true]
        rw [show wlB (Den tbl m) [.wref k, .dat (wsD ws), .own (acc.map itD)] w = .exc (bdX S q) [.wref k, .dat (wsD ws), .own (acc.map itD)] (w.set k (rdO S q)) from seqX (by
          generalize w.set k (rdO S q) = w3 at *
          generalize wsD ws = W at *
          simp [hMt, ct])]
        rfl
      | ok u q =>
        have hq := rTake_ok et
        rw [et] at ct e ts
        have ct : _ = _ := ct
        have ts : q <:+ l := ts
        have h2 := h.put ts
        have hMi := hasM_rd (m := "item") h2.at_
        have st : (sExpr (dMeth (Den tbl m) "Reader" "take" 575 (dName 0) (aCons (dC (.str " | ")) aNil))) [.wref k, .dat (wsD ws), .own (acc.map itD)] w = .ok (.nx [.wref k, .dat (wsD ws), .own (acc.map itD)]) (w.set k (rdO S q)) := by
          generalize w.set k (rdO S q) = w3 at *
          generalize wsD ws = W at *
          simp [hMt, ct]
        cases ei : rItem P ws q with
        | none => simp only [ei] at e; cases e
        | some y =>
          have ci := c_ritem T hP hS hN (k := k) (S := S) (ws := ws) (n := m) hm h2 hws ei
          have si := rItem_suf hS ei
          cases y with
          | bad s =>
            simp only [ei] at e
            cases e
            obtain ⟨e', ci⟩ := ci
            rw [rset_set] at ci
            refine ⟨[.wref k, .dat (wsD ws), .own (acc.map itD)], ?_⟩
            unfold whileGo
            rw [show wlT (Den tbl m) _ w = .ok true w from t1]
            simp only [bind_ok, if_true]
            rw [show wlB (Den tbl m) [.wref k, .dat (wsD ws), .own (acc.map itD)] w = .exc (bdX S s) [.wref k, .dat (wsD ws), .own (acc.map itD)] (w.set k (rdO S s)) from (seqN st).trans (by
              generalize w.set k (rdO S s) = w4 at *
              generalize w.set k (rdO S q) = w3 at *
              generalize wsD ws = W at *
              simp [hMi, ci])]
            rfl
          | ok i s =>
            simp only [ei] at e
            have ci : _ = _ := ci
            rw [rset_set] at ci
            have si : s <:+ q := si
            have hlen := congrArg List.length hq
            simp only [List.length_append, List.length_cons, List.length_nil] at hlen
            have hsl := si.length_le
            have ih := c_rloop hm hws g (acc ++ [i]) s (w.set k (rdO S s)) x (h.put (si.trans ts)) (by rw [List.length_append, List.length_singleton]; omega) e
            have hz : acc.length < 16777216 := by omega
            have bd : wlB (Den tbl m) [.wref k, .dat (wsD ws), .own (acc.map itD)] w = .ok (.nx [.wref k, .dat (wsD ws), .own ((acc ++ [i]).map itD)]) (w.set k (rdO S s)) := (seqN st).trans (by
              rw [List.map_append, List.map_singleton]
              generalize w.set k (rdO S s) = w4 at *
              generalize w.set k (rdO S q) = w3 at *
              generalize wsD ws = W at *
              simp [hMi, ci, hz])
            rw [while_turn t1 bd]
            cases x with
            | ok L r => simp only at ih ⊢; rw [ih, rset_set]
            | bad r => obtain ⟨e', ih⟩ := ih; exact ⟨e', by rw [ih, rset_set]⟩
    · rw [if_neg h1] at e
      cases e
      rw [show isD 32 32 l = false by simpa using h1] at t1
      show whileGo _ _ _ _ _ = _
      rw [h.same]
      exact while_end t1
theorem c_rwhole {n : Nat} {l : List Nat} {w : World} {x : Rd (List It)} (hn : N + 2 ≤ n) (h : RAt w k S l) (hws : ws.length ≤ K) (hl : S.length ≤ 1000000) (e : rWhole P ws l = some x) : Res ((Den tbl n).call 563 [.wref k, .dat (wsD ws)] w) (x.map fun L => .tup (L.map itD)) k S w := by
  obtain ⟨m, rfl, hm⟩ := succ_of (k := N + 1) hn
  rw [den_succ T.t563]
  have t1 := t_is T.toHasR1 (n := m) (c := 48) (a := "0") (env := [.wref k, .dat (wsD ws), .un]) (by omega) h rfl (by decide +kernel)
  show Res (endR (b_Reader_whole (Den tbl m) [.wref k, .dat (wsD ws), .un] w)) _ k S w
  unfold b_Reader_whole
  unfold rWhole at e
  by_cases h1 : isD 48 48 l = true
  · rw [if_pos h1] at e
    cases e
    rw [h1] at t1
    have ad := adv' (env := [.wref k, .dat (wsD ws), .un]) h h1 rfl
    show _ = _
    rw [seqR (r := .dat (.tup [])) (w' := w.set k (rdO S l.tail)) (by
      rw [sIf_ap, t1]
      show sSeq _ _ _ _ = _
      rw [seqN ad]
      rfl)]
    rfl
  · rw [if_neg h1] at e
    rw [show isD 48 48 l = false by simpa using h1] at t1
    rw [seqN (env' := [.wref k, .dat (wsD ws), .un]) (w' := w) (by rw [sIf_ap, t1]; rfl)]
    have hMi := hasM_rd (m := "item") h.at_
    cases ei : rItem P ws l with
    | none => simp only [ei] at e; cases e
    | some y =>
      have ci := c_ritem T hP hS hN (k := k) (S := S) (ws := ws) (n := m) hm h hws ei
      have si := rItem_suf hS ei
      cases y with
      | bad s =>
        simp only [ei] at e
        cases e
        obtain ⟨e', ci⟩ := ci
        refine ⟨[.wref k, .dat (wsD ws), .un], ?_⟩
        rw [seqX (e := [.wref k, .dat (wsD ws), .un]) (w' := w.set k (rdO S s)) (x := bdX S s) (by
          generalize w.set k (rdO S s) = w4 at *
          generalize wsD ws = W at *
          simp [hMi, ci])]
        rfl
      | ok i s =>
        simp only [ei] at e
        have ci : _ = _ := ci
        have si : s <:+ l := si
        have hsl := si.length_le
        have hll := h.len
        have L := c_rloop T hP hS hN (k := k) (S := S) (ws := ws) hm hws (s.length + 1) [i] s (w.set k (rdO S s)) x (h.put si) (by simp only [List.length_singleton]; omega) e
        rw [List.map_singleton] at L
        rw [seqN (env' := [.wref k, .dat (wsD ws), .own [itD i]]) (w' := w.set k (rdO S s)) (by
          generalize w.set k (rdO S s) = w4 at *
          generalize wsD ws = W at *
          simp [hMi, ci])]
        cases x with
        | ok Q r =>
          have L : _ = _ := L
          rw [rset_set] at L
          have L' := sWhile_of (show s.length + 1 ≤ 18446744073709551616 by omega) L
          show _ = _
          rw [seqN (a := sWhile _ _) L']
          generalize w.set k (rdO S r) = w4 at *
          simp
        | bad r =>
          obtain ⟨e', L⟩ := L
          rw [rset_set] at L
          have L' := sWhile_ofX (show s.length + 1 ≤ 18446744073709551616 by omega) L
          exact ⟨e', by rw [seqX (a := sWhile _ _) L']; rfl⟩
theorem c_rbody {n : Nat} {l : List Nat} {w : World} {x : Rd (List It)} (hn : N + 3 ≤ n) (h : RAt w k S l) (hws : ws.length ≤ K) (hl : S.length ≤ 1000000) (e : rBody P ws l = some x) : Res ((Den tbl n).call 577 [.wref k, .dat (wsD ws)] w) (x.map fun L => .tup (L.map itD)) k S w := by
  obtain ⟨m, rfl, hm⟩ := succ_of (k := N + 2) hn
  rw [den_succ T.t577]
  have t1 := t_is T.toHasR1 (n := m) (c := 48) (a := "0") (env := [.wref k, .dat (wsD ws), .un]) (by omega) h rfl (by decide +kernel)
  have t2 := t_isnt T.toHasR1 (n := m) (c := 40) (a := "(") (env := [.wref k, .dat (wsD ws), .un]) (by omega) h rfl (by decide +kernel)
  show Res (endR (b_Reader_body (Den tbl m) [.wref k, .dat (wsD ws), .un] w)) _ k S w
  unfold b_Reader_body
  unfold rBody at e
  by_cases h1 : isD 48 48 l = true
  · rw [if_pos h1] at e
    cases e
    rw [h1] at t1
    have ad := adv' (env := [.wref k, .dat (wsD ws), .un]) h h1 rfl
    show _ = _
    rw [seqR (r := .dat (.tup [])) (w' := w.set k (rdO S l.tail)) (by
      rw [sIf_ap, t1]
      show sSeq _ _ _ _ = _
      rw [seqN ad]
      rfl)]
    rfl
  · rw [if_neg h1] at e
    rw [show isD 48 48 l = false by simpa using h1] at t1
    rw [seqN (env' := [.wref k, .dat (wsD ws), .un]) (w' := w) (by rw [sIf_ap, t1]; rfl)]
    by_cases h2 : isD 40 40 l = true
    · rw [if_pos h2] at e
      rw [h2] at t2
      rw [seqN (env' := [.wref k, .dat (wsD ws), .un]) (w' := w) (by rw [sIf_ap, t2]; rfl)]
      rw [seqN (adv' (env := [.wref k, .dat (wsD ws), .un]) h h2 rfl)]
      have h3 := h.put (List.tail_suffix l)
      have hMw := hasM_rd (m := "whole") h3.at_
      cases ew : rWhole P ws l.tail with
      | none => simp only [ew] at e; cases e
      | some y =>
        have cw := c_rwhole T hP hS hN (k := k) (S := S) (ws := ws) (n := m) (by omega) h3 hws hl ew
        have sw := rWhole_suf hS ew
        cases y with
        | bad s =>
          simp only [ew] at e
          cases e
          obtain ⟨e', cw⟩ := cw
          rw [rset_set] at cw
          refine ⟨[.wref k, .dat (wsD ws), .un], ?_⟩
          rw [seqX (e := [.wref k, .dat (wsD ws), .un]) (w' := w.set k (rdO S s)) (x := bdX S s) (by
            generalize w.set k (rdO S s) = w4 at *
            generalize w.set k (rdO S l.tail) = w3 at *
            generalize wsD ws = W at *
            simp [hMw, cw])]
          rfl
        | ok L s =>
          simp only [ew] at e
          have cw : _ = _ := cw
          rw [rset_set] at cw
          have sw : s <:+ l.tail := sw
          have h4 := h.put (sw.trans (List.tail_suffix l))
          have hMt := hasM_rd (m := "take") h4.at_
          have ct := c_take T.toHasR1 (n := m) (e := [41]) (a := ")") (by omega) h4 (by decide +kernel)
          rw [seqN (env' := [.wref k, .dat (wsD ws), .dat (.tup (L.map itD))]) (w' := w.set k (rdO S s)) (by
            generalize w.set k (rdO S s) = w4 at *
            generalize w.set k (rdO S l.tail) = w3 at *
            generalize wsD ws = W at *
            simp [hMw, cw])]
          cases et : rTake [41] s with
          | bad q =>
            rw [et] at ct
            simp only [et] at e
            cases e
            obtain ⟨e', ct⟩ := ct
            rw [rset_set] at ct
            refine ⟨[.wref k, .dat (wsD ws), .dat (.tup (L.map itD))], ?_⟩
            rw [seqX (e := [.wref k, .dat (wsD ws), .dat (.tup (L.map itD))]) (w' := w.set k (rdO S q)) (x := bdX S q) (by
              generalize w.set k (rdO S q) = w5 at *
              generalize w.set k (rdO S s) = w4 at *
              generalize wsD ws = W at *
              simp [hMt, ct])]
            rfl
          | ok u q =>
            rw [et] at ct
            simp only [et] at e
            cases e
            have ct : _ = _ := ct
            rw [rset_set] at ct
            show _ = _
            rw [seqN (env' := [.wref k, .dat (wsD ws), .dat (.tup (L.map itD))]) (w' := w.set k (rdO S q)) (by
              generalize w.set k (rdO S q) = w5 at *
              generalize w.set k (rdO S s) = w4 at *
              generalize wsD ws = W at *
              simp [hMt, ct])]
            rfl
    · rw [if_neg h2] at e
      rw [show isD 40 40 l = false by simpa using h2] at t2
      obtain ⟨y, ey, rfl⟩ := Option.map_eq_some_iff.mp e
      have c1 := hP m k ws l w y (by omega) h hws ey
      have hM := hasM_rd (m := "part") h.at_
      cases y with
      | ok p r =>
        show _ = _
        have c1 : _ = _ := c1
        rw [seqR (r := .dat (.tup [itD (1, p)])) (w' := w.set k (rdO S r)) (by
          rw [sIf_ap, t2]
          generalize w.set k (rdO S r) = w4 at *
          generalize wsD ws = W at *
          simp [hM, c1, itD])]
        rfl
      | bad r =>
        obtain ⟨e', c1⟩ := c1
        refine ⟨[.wref k, .dat (wsD ws), .un], ?_⟩
        rw [seqX (e := [.wref k, .dat (wsD ws), .un]) (w' := w.set k (rdO S r)) (x := bdX S r) (by
          rw [sIf_ap, t2]
          generalize w.set k (rdO S r) = w4 at *
          generalize wsD ws = W at *
          simp [hM, c1])]
        rfl
end
end Dl
namespace Dl
open PySem PySem.Spec PyProof.Rows L2 NdefX
theorem strs_dep (ws : List Str) : depAll (ws.map D.str) = 0 := by
  induction ws with
  | nil => rfl
  | cons a l ih => show max 0 (depAll (l.map D.str)) = 0; rw [ih]; rfl
theorem strs_find {x : Str} : ∀ {ws : List Str}, x ∈ ws → (ws.map D.str).findIdx? (fun z => z.eq (.str x)) = some (ws.idxOf x)
  | a :: l, h => by
    rw [List.map_cons, List.findIdx?_cons, List.idxOf_cons]
    by_cases e : a = x
    · rw [show (D.str a).eq (.str x) = true by simp [e], show (a == x) = true by simp [e]]
      rfl
    · rw [show (D.str a).eq (.str x) = false by simp [e], show (a == x) = false by simp [e], strs_find (List.mem_of_ne_of_mem (fun z => e z.symm) h)]
      rfl
theorem ix_strs {rm : Nat} {i j : Nat} {x : Str} {ws : List Str} {env : Ev} {w : World} (hr : 65 ≤ rm) (e1 : env[i]? = some (.dat (wsD ws))) (e2 : env[j]? = some (.dat (.str x))) (h : x ∈ ws) : dIndexD rm (dName i) (dName j) env w = .ok (.dat (.int ((ws.idxOf x : Nat) : Int))) w := by
  have q1 : (D.lst (ws.map D.str)).dep ≤ 64 := by
    show depAll (ws.map D.str) + 1 ≤ 64
    rw [strs_dep]; omega
  have q2 : (D.str x).dep ≤ 64 := Nat.zero_le _
  rw [dIndexD_ap]
  simp [e1, e2, hr, q1, q2, strs_find h, -List.findIdx?_map]
section
variable {tbl : Nat → Option DefB} (T : HasRd tbl) {P : RP} {N K : Nat} {S : List Nat} (hP : PartAt tbl N (K + 1) S P) (hS : SufP P) (hN : 7 ≤ N) (hl : S.length ≤ 1000000) (hK : K ≤ 1000000)
include T hP hS hN hl hK
theorem c_rpart : PartAt tbl (N + 4) K S (rPart P) := by
  intro n k ws l w x hn h hws e
  obtain ⟨m, rfl, hm⟩ := succ_of (k := N + 3) hn
  rw [den_succ T.t576]
  have hr : (Den tbl m).room = 16 * m + 200 := den_room tbl m
  have hP' : PartAt tbl N (K + 1) S P := hP
  have t1 := t_is T.toHasR1 (n := m) (c := 63) (a := "?") (env := [.wref k, .dat (wsD ws), .un, .un, .un]) (by omega) h rfl (by decide +kernel)
  show Res (endR (b_Reader_part (Den tbl m) [.wref k, .dat (wsD ws), .un, .un, .un] w)) _ k S w
  unfold b_Reader_part
  unfold rPart at e
  by_cases h1 : isD 63 63 l = true
  · rw [if_pos h1] at e
    cases e
    rw [h1] at t1
    have ad := adv' (env := [.wref k, .dat (wsD ws), .un, .un, .un]) h h1 rfl
    have h3 := h.put (List.tail_suffix l)
    have cm := c_rmark T.toHasR1 (n := m) (by omega) h3
    have hM := hasM_rd (m := "mark") h3.at_
    cases em : rMark l.tail with
    | ok a r =>
      rw [em] at cm
      have cm : _ = _ := cm
      rw [rset_set] at cm
      show _ = _
      rw [seqR (r := .dat (.tup [.str "mark", .int (a : Int)])) (w' := w.set k (rdO S r)) (by
        rw [sIf_ap, t1]
        show sSeq _ _ _ _ = _
        rw [seqN ad]
        generalize w.set k (rdO S r) = w4 at *
        generalize w.set k (rdO S l.tail) = w3 at *
        generalize wsD ws = W at *
        simp [hM, cm])]
      rfl
    | bad r =>
      rw [em] at cm
      obtain ⟨e', cm⟩ := cm
      rw [rset_set] at cm
      refine ⟨[.wref k, .dat (wsD ws), .un, .un, .un], ?_⟩
      rw [seqX (e := [.wref k, .dat (wsD ws), .un, .un, .un]) (w' := w.set k (rdO S r)) (x := bdX S r) (by
        rw [sIf_ap, t1]
        show sSeq _ _ _ _ = _
        rw [seqN ad]
        generalize w.set k (rdO S r) = w4 at *
        generalize w.set k (rdO S l.tail) = w3 at *
        generalize wsD ws = W at *
        simp [hM, cm])]
      rfl
  rw [if_neg h1] at e
  rw [show isD 63 63 l = false by simpa using h1] at t1
  rw [seqN (env' := [.wref k, .dat (wsD ws), .un, .un, .un]) (w' := w) (by rw [sIf_ap, t1]; rfl)]
  have cw := c_rword T.toHasR1 (n := m) (by omega) h
  have hMw := hasM_rd (m := "word") h.at_
  have sw := rWord_suf l
  cases ew : rWord l with
  | bad r =>
    rw [ew] at cw
    simp only [ew] at e
    cases e
    obtain ⟨e', cw⟩ := cw
    refine ⟨[.wref k, .dat (wsD ws), .un, .un, .un], ?_⟩
    rw [seqX (e := [.wref k, .dat (wsD ws), .un, .un, .un]) (w' := w.set k (rdO S r)) (x := bdX S r) (by
      generalize w.set k (rdO S r) = w4 at *
      generalize wsD ws = W at *
      simp [hMw, cw])]
    rfl
  | ok a r =>
    rw [ew] at cw sw
    simp only [ew] at e
    have cw : _ = _ := cw
    have sw : r <:+ l := sw
    rw [seqN (env' := [.wref k, .dat (wsD ws), .dat (strD a), .un, .un]) (w' := w.set k (rdO S r)) (by
      generalize w.set k (rdO S r) = w4 at *
      generalize strD a = A at *
      generalize wsD ws = W at *
      simp [hMw, cw])]
    have h2 := h.put sw
    have tl : ∀ c : Nat, ∀ s : Str, s = sL [c] → (tAnd' (dTst (dBin (gEq (Den tbl m).room) (dBlt cLen (rCons (dName 2) rNil)) (dC (.int 1)))) (dTst (dBin (gEq (Den tbl m).room) (dMeth (Den tbl m) "Reader" "sign" 572 (dName 0) aNil) (dC (.str s))))) [.wref k, .dat (wsD ws), .dat (strD a), .un, .un] (w.set k (rdO S r)) = .ok (decide (a.length = 1 ∧ isD c c r = true)) (w.set k (rdO S r)) := by
      intro c s hs
      have t2 := t_is T.toHasR1 (n := m) (c := c) (a := s) (env := [.wref k, .dat (wsD ws), .dat (strD a), .un, .un]) (by omega) h2 rfl hs
      rw [tAnd_ap]
      have tt : dTst (dBin (gEq (Den tbl m).room) (dBlt cLen (rCons (dName 2) rNil)) (dC (.int 1))) [.wref k, .dat (wsD ws), .dat (strD a), .un, .un] (w.set k (rdO S r)) = .ok (decide (a.length = 1)) (w.set k (rdO S r)) := by
        generalize w.set k (rdO S r) = w4 at *
        have ec : cLen [strD a] = some (.dat (.int (a.length : Int))) := by
          show some (RV.dat (.int ((sL a).length : Int))) = _
          rw [sL_len]
        have eq : (decide ((a.length : Int) = 1)) = decide (a.length = 1) := by
          rw [decide_eq_decide]
          omega
        generalize wsD ws = W at *
        generalize strD a = A at *
        simp only [dTst_ap, dBin_ap, dBlt_ap, rCons_ap, rNil_ap, dName_ap]
        simp [ec]
        omega
      rw [tt]
      simp only [bind_ok]
      by_cases q : a.length = 1
      · rw [if_pos (decide_eq_true q), t2]
        simp [q]
      · simp [q]
    by_cases h4 : a.length = 1 ∧ isD 60 60 r = true
    · rw [if_pos h4] at e
      have t4 := tl 60 "<" (by decide +kernel)
      rw [decide_eq_true h4] at t4
      have ad := adv' (env := [.wref k, .dat (wsD ws), .dat (strD a), .un, .un]) h2 h4.2 rfl
      rw [rset_set] at ad
      have h5 := h.put ((List.tail_suffix r).trans sw)
      have hMh := hasM_rd (m := "whole") h5.at_
      cases eh : rWhole P ws r.tail with
      | none => simp only [eh] at e; cases e
      | some y =>
        have ch := c_rwhole T hP hS hN (k := k) (ws := ws) (n := m) (by omega) h5 (by omega) hl eh
        have sh := rWhole_suf hS eh
        cases y with
        | bad s =>
          simp only [eh] at e
          cases e
          obtain ⟨e', ch⟩ := ch
          rw [rset_set] at ch
          refine ⟨[.wref k, .dat (wsD ws), .dat (strD a), .un, .un], ?_⟩
          rw [seqX (e := [.wref k, .dat (wsD ws), .dat (strD a), .un, .un]) (w' := w.set k (rdO S s)) (x := bdX S s) (by
            rw [sIf_ap, t4]
            show sSeq _ _ _ _ = _
            rw [seqN ad]
            refine seqX ?_
            generalize w.set k (rdO S s) = w6 at *
            generalize w.set k (rdO S r.tail) = w5 at *
            generalize strD a = A at *
            generalize wsD ws = W at *
            simp [hMh, ch])]
          rfl
        | ok L s =>
          simp only [eh] at e
          have ch : _ = _ := ch
          rw [rset_set] at ch
          have sh : s <:+ r.tail := sh
          have h6 := h.put (sh.trans ((List.tail_suffix r).trans sw))
          have hMt := hasM_rd (m := "take") h6.at_
          have ct := c_take T.toHasR1 (n := m) (e := [62]) (a := ">") (by omega) h6 (by decide +kernel)
          have s1 : (sSet 3 (dMeth (Den tbl m) "Reader" "whole" 563 (dName 0) (aCons (dName 1) aNil))) [.wref k, .dat (wsD ws), .dat (strD a), .un, .un] (w.set k (rdO S r.tail)) = .ok (.nx [.wref k, .dat (wsD ws), .dat (strD a), .dat (.tup (L.map itD)), .un]) (w.set k (rdO S s)) := by
            generalize w.set k (rdO S s) = w6 at *
            generalize w.set k (rdO S r.tail) = w5 at *
            generalize strD a = A at *
            generalize wsD ws = W at *
            simp [hMh, ch]
          cases et : rTake [62] s with
          | bad q =>
            rw [et] at ct
            simp only [et] at e
            cases e
            obtain ⟨e', ct⟩ := ct
            rw [rset_set] at ct
            refine ⟨[.wref k, .dat (wsD ws), .dat (strD a), .dat (.tup (L.map itD)), .un], ?_⟩
            rw [seqX (e := [.wref k, .dat (wsD ws), .dat (strD a), .dat (.tup (L.map itD)), .un]) (w' := w.set k (rdO S q)) (x := bdX S q) (by
              rw [sIf_ap, t4]
              show sSeq _ _ _ _ = _
              rw [seqN ad]
              show sSeq _ _ _ _ = _
              rw [seqN s1]
              refine seqX ?_
              generalize w.set k (rdO S q) = w7 at *
              generalize w.set k (rdO S s) = w6 at *
              generalize strD a = A at *
              generalize wsD ws = W at *
              simp [hMt, ct])]
            rfl
          | ok u q =>
            rw [et] at ct
            simp only [et] at e
            cases e
            have ct : _ = _ := ct
            rw [rset_set] at ct
            show _ = _
            rw [seqR (r := .dat (Pa.letter (sL a) (ofL L)).d) (w' := w.set k (rdO S q)) (by
              rw [sIf_ap, t4]
              show sSeq _ _ _ _ = _
              rw [seqN ad]
              show sSeq _ _ _ _ = _
              rw [seqN s1]
              show sSeq _ _ _ _ = _
              rw [seqN (env' := [.wref k, .dat (wsD ws), .dat (strD a), .dat (.tup (L.map itD)), .un]) (w' := w.set k (rdO S q)) (by
                generalize w.set k (rdO S q) = w7 at *
                generalize w.set k (rdO S s) = w6 at *
                generalize strD a = A at *
                generalize wsD ws = W at *
                simp [hMt, ct])]
              simp [Pa.d, ds_ofL, strD])]
            rfl
    rw [if_neg h4] at e
    have t4 := tl 60 "<" (by decide +kernel)
    rw [decide_eq_false h4] at t4
    rw [seqN (env' := [.wref k, .dat (wsD ws), .dat (strD a), .un, .un]) (w' := w.set k (rdO S r)) (by rw [sIf_ap, t4]; rfl)]
    by_cases h5 : a.length = 1 ∧ isD 40 40 r = true
    · rw [if_pos h5] at e
      have t5 := tl 40 "(" (by decide +kernel)
      rw [decide_eq_true h5] at t5
      have ad := adv' (env := [.wref k, .dat (wsD ws), .dat (strD a), .un, .un]) h2 h5.2 rfl
      rw [rset_set] at ad
      have h6 := h.put ((List.tail_suffix r).trans sw)
      have cb := c_rword T.toHasR1 (n := m) (by omega) h6
      have hMb := hasM_rd (m := "word") h6.at_
      have sb := rWord_suf r.tail
      cases eb : rWord r.tail with
      | bad s =>
        rw [eb] at cb
        simp only [eb] at e
        cases e
        obtain ⟨e', cb⟩ := cb
        rw [rset_set] at cb
        refine ⟨[.wref k, .dat (wsD ws), .dat (strD a), .un, .un], ?_⟩
        rw [seqX (e := [.wref k, .dat (wsD ws), .dat (strD a), .un, .un]) (w' := w.set k (rdO S s)) (x := bdX S s) (by
          rw [sIf_ap, t5]
          show sSeq _ _ _ _ = _
          rw [seqN ad]
          refine seqX ?_
          generalize w.set k (rdO S s) = w6 at *
          generalize w.set k (rdO S r.tail) = w5 at *
          generalize strD a = A at *
          generalize wsD ws = W at *
          simp [hMb, cb])]
        rfl
      | ok b s =>
        rw [eb] at cb sb
        simp only [eb] at e
        have cb : _ = _ := cb
        rw [rset_set] at cb
        have sb : s <:+ r.tail := sb
        have h7 := h.put (sb.trans ((List.tail_suffix r).trans sw))
        have hMt := hasM_rd (m := "take") h7.at_
        have ct := c_take T.toHasR1 (n := m) (e := [41, 58, 32]) (a := "): ") (by omega) h7 (by decide +kernel)
        have s1 : (sSet 4 (dMeth (Den tbl m) "Reader" "word" 578 (dName 0) aNil)) [.wref k, .dat (wsD ws), .dat (strD a), .un, .un] (w.set k (rdO S r.tail)) = .ok (.nx [.wref k, .dat (wsD ws), .dat (strD a), .un, .dat (strD b)]) (w.set k (rdO S s)) := by
          generalize w.set k (rdO S s) = w6 at *
          generalize w.set k (rdO S r.tail) = w5 at *
          generalize strD a = A at *
          generalize strD b = B at *
          generalize wsD ws = W at *
          simp [hMb, cb]
        have ts := rTake_suf [41, 58, 32] s
        cases et : rTake [41, 58, 32] s with
        | bad q =>
          rw [et] at ct
          simp only [et] at e
          cases e
          obtain ⟨e', ct⟩ := ct
          rw [rset_set] at ct
          refine ⟨[.wref k, .dat (wsD ws), .dat (strD a), .un, .dat (strD b)], ?_⟩
          rw [seqX (e := [.wref k, .dat (wsD ws), .dat (strD a), .un, .dat (strD b)]) (w' := w.set k (rdO S q)) (x := bdX S q) (by
            rw [sIf_ap, t5]
            show sSeq _ _ _ _ = _
            rw [seqN ad]
            show sSeq _ _ _ _ = _
            rw [seqN s1]
            refine seqX ?_
            generalize w.set k (rdO S q) = w7 at *
            generalize w.set k (rdO S s) = w6 at *
            generalize strD a = A at *
            generalize strD b = B at *
            generalize wsD ws = W at *
            simp [hMt, ct])]
          rfl
        | ok u q =>
          rw [et] at ct ts
          simp only [et] at e
          have ct : _ = _ := ct
          rw [rset_set] at ct
          have ts : q <:+ s := ts
          have h8 := h.put (ts.trans (sb.trans ((List.tail_suffix r).trans sw)))
          obtain ⟨y, ey, rfl⟩ := Option.map_eq_some_iff.mp e
          have cy := c_rbody T hP hS hN (k := k) (ws := sL b :: ws) (n := m) (by omega) h8 (by simp only [List.length_cons]; omega) hl ey
          have hMy := hasM_rd (m := "body") h8.at_
          have s2 : (sExpr (dMeth (Den tbl m) "Reader" "take" 575 (dName 0) (aCons (dC (.str "): ")) aNil))) [.wref k, .dat (wsD ws), .dat (strD a), .un, .dat (strD b)] (w.set k (rdO S s)) = .ok (.nx [.wref k, .dat (wsD ws), .dat (strD a), .un, .dat (strD b)]) (w.set k (rdO S q)) := by
            generalize w.set k (rdO S q) = w7 at *
            generalize w.set k (rdO S s) = w6 at *
            generalize strD a = A at *
            generalize strD b = B at *
            generalize wsD ws = W at *
            simp [hMt, ct]
          have ga : gAdd (.lst [strD b]) (wsD ws) = some (.fresh (strD b :: ws.map D.str)) := by rw [gAdd_l, if_pos (by rw [sizeLine_eq, List.length_map, List.length_singleton]; omega)]; rfl
          have hW : D.lst (strD b :: ws.map D.str) = wsD (sL b :: ws) := rfl
          cases y with
          | bad t =>
            obtain ⟨e', cy⟩ := cy
            rw [rset_set] at cy
            refine ⟨[.wref k, .dat (wsD ws), .dat (strD a), .un, .dat (strD b)], ?_⟩
            rw [seqX (e := [.wref k, .dat (wsD ws), .dat (strD a), .un, .dat (strD b)]) (w' := w.set k (rdO S t)) (x := bdX S t) (by
              rw [sIf_ap, t5]
              show sSeq _ _ _ _ = _
              rw [seqN ad]
              show sSeq _ _ _ _ = _
              rw [seqN s1]
              show sSeq _ _ _ _ = _
              rw [seqN s2]
              generalize w.set k (rdO S t) = w8 at *
              generalize w.set k (rdO S q) = w7 at *
              generalize wsD (sL b :: ws) = W2 at *
              generalize wsD ws = W at *
              generalize ws.map D.str = WL at *
              generalize strD a = A at *
              generalize strD b = B at *
              simp [hMy, cy, ga, hW])]
            rfl
          | ok L t =>
            have cy : _ = _ := cy
            rw [rset_set] at cy
            show _ = _
            rw [seqR (r := .dat (Pa.wait (sL a) (ofL L)).d) (w' := w.set k (rdO S t)) (by
              rw [sIf_ap, t5]
              show sSeq _ _ _ _ = _
              rw [seqN ad]
              show sSeq _ _ _ _ = _
              rw [seqN s1]
              show sSeq _ _ _ _ = _
              rw [seqN s2]
              have ea : Pa.d (.wait (sL a) (ofL L)) = .tup [.str "wait", strD a, .tup (L.map itD)] := by simp [Pa.d, ds_ofL, strD]
              rw [ea]
              generalize w.set k (rdO S t) = w8 at *
              generalize w.set k (rdO S q) = w7 at *
              generalize wsD (sL b :: ws) = W2 at *
              generalize wsD ws = W at *
              generalize ws.map D.str = WL at *
              generalize strD a = A at *
              generalize strD b = B at *
              simp [hMy, cy, ga, hW])]
            rfl
    rw [if_neg h5] at e
    have t5 := tl 40 "(" (by decide +kernel)
    rw [decide_eq_false h5] at t5
    rw [seqN (env' := [.wref k, .dat (wsD ws), .dat (strD a), .un, .un]) (w' := w.set k (rdO S r)) (by rw [sIf_ap, t5]; rfl)]
    have ei : inD false (Den tbl m).room (.str (sL a)) (wsD ws) = _ := in_strs (neg := false) (rm := (Den tbl m).room) (x := sL a) (l := ws) (by omega)
    have ea : strD a = .str (sL a) := rfl
    by_cases h6 : sL a ∈ ws
    · rw [if_pos h6] at e
      cases e
      rw [decide_eq_true h6] at ei
      have ix := ix_strs (rm := (Den tbl m).room) (i := 1) (j := 2) (env := [.wref k, .dat (wsD ws), .dat (strD a), .un, .un]) (w := w.set k (rdO S r)) (by omega) rfl rfl h6
      show _ = _
      rw [seqR (r := .dat (Pa.got (ws.idxOf (sL a))).d) (w' := w.set k (rdO S r)) (by
        rw [show Pa.d (.got (ws.idxOf (sL a))) = .tup [.str "got", .int ((ws.idxOf (sL a) : Nat) : Int)] from rfl]
        rw [← ea] at ei
        generalize w.set k (rdO S r) = w4 at *
        generalize ((ws.idxOf (sL a) : Nat) : Int) = I at *
        generalize dIndexD (Den tbl m).room (dName 1) (dName 2) = DI at *
        generalize wsD ws = W at *
        generalize strD a = A at *
        simp [ei, ix])]
      rfl
    · rw [if_neg h6] at e
      cases e
      rw [decide_eq_false h6] at ei
      show _ = _
      rw [← ea] at ei
      rw [seqN (env' := [.wref k, .dat (wsD ws), .dat (strD a), .un, .un]) (w' := w.set k (rdO S r)) (by
        generalize w.set k (rdO S r) = w4 at *
        generalize wsD ws = W at *
        generalize strD a = A at *
        simp [ei])]
      simp [Pa.d, strD]
end
theorem rP_at {tbl : Nat → Option DefB} (T : HasRd tbl) {S : List Nat} (hl : S.length ≤ 1000000) : ∀ f K, K + f ≤ 1000000 → PartAt tbl (4 * f + 7) K S (rP f)
  | 0, _, _ => fun _ _ _ _ _ _ _ _ _ h => by cases h
  | f + 1, K, h => by
    have := c_rpart T (rP_at T hl f (K + 1) (by omega)) (rP_suf f) (by omega) hl (by omega)
    rw [show 4 * (f + 1) + 7 = 4 * f + 7 + 4 by omega]
    exact this
structure HasRe (tbl : Nat → Option DefB) : Prop extends HasRd tbl where
  t564 : tbl 564 = some ⟨2, 2, bLow2 581⟩
  t581 : tbl 581 = some ⟨2, 2, b_init_Reader⟩
  t524 : tbl 524 = some ⟨1, 3, b_read⟩
theorem c_rinit {tbl : Nat → Option DefB} (T : HasRe tbl) {n : Nat} {w : World} {S : List Nat} (hn : 2 ≤ n) : (Den tbl n).call 564 [.wref w.length, .dat (strD S)] (w ++ [.obj "Reader" []]) = .ok (.dat .non) (w ++ [rdO S S]) := by
  obtain ⟨m, rfl, hm⟩ := succ_of (k := 1) hn
  rw [den_succ T.t564]
  obtain ⟨m, rfl, hm⟩ := succ_of (k := 0) hm
  show endR (((Den tbl (m + 1)).call 581 [.wref w.length, .dat (strD S)] (w ++ [.obj "Reader" []])).bind fun r w1 => .ok (.rt r) w1) = _
  rw [den_succ T.t581]
  show endR ((endR (b_init_Reader (Den tbl m) [.wref w.length, .dat (strD S)] (w ++ [.obj "Reader" []]))).bind fun r w1 => .ok (.rt r) w1) = _
  have e1 : (w ++ [WO.obj "Reader" []])[w.length]? = some (.obj "Reader" []) := by simp
  have s1 : (sFldO "Reader" 0 "signs" (dName 1)) [.wref w.length, .dat (strD S)] (w ++ [.obj "Reader" []]) = .ok (.nx [.wref w.length, .dat (strD S)]) (w ++ [.obj "Reader" [("signs", .dat (strD S))]]) := by
    unfold sFldO
    simp [putO, RV.fld]
  have s2 : (sFldO "Reader" 0 "at" (dC (.int 0))) [.wref w.length, .dat (strD S)] (w ++ [.obj "Reader" [("signs", .dat (strD S))]]) = .ok (.nx [.wref w.length, .dat (strD S)]) (w ++ [rdO S S]) := by
    have h : ¬ ("signs" : Str) = "at" := by decide +kernel
    unfold sFldO rdO
    simp [putO, RV.fld, h]
  unfold b_init_Reader
  rw [seqN s1, s2]
  rfl
def rEnd : Rd (List It) → Rd (List It)
  | .ok L [] => .ok L []
  | .ok _ (c :: r) => .bad (c :: r)
  | .bad r => .bad r
def rAll (f : Nat) (S : List Nat) : Option (Rd (List It)) := (rWhole (rP f) [] S).map rEnd
theorem c_read {tbl : Nat → Option DefB} (T : HasRe tbl) {n f : Nat} {S : List Nat} {w : World} {x : Rd (List It)} (hn : 4 * f + 10 ≤ n) (hl : S.length ≤ 1000000) (hf : f ≤ 1000) (e : rAll f S = some x) :
    match x with
    | .ok L _ => (Den tbl n).call 524 [.dat (strD S)] w = .ok (.dat (.tup (L.map itD))) (w ++ [rdO S []])
    | .bad r => ∃ e, (Den tbl n).call 524 [.dat (strD S)] w = .exc (bdX S r) e (w ++ [rdO S r]) := by
  obtain ⟨m, rfl, hm⟩ := succ_of (k := 4 * f + 9) hn
  rw [den_succ T.t524]
  have hr : (Den tbl m).room = 16 * m + 200 := den_room tbl m
  have ci := c_rinit T (n := m) (w := w) (S := S) (by omega)
  have st1 : (sIf (tNot' (dTru (dIsi .str (dName 0)))) (sRaiseF (Den tbl m).room "BadText" "place" (aCons (dUn gNeg (dC (.int 1))) aNil)) sNil) [.dat (strD S), .un, .un] w = .ok (.nx [.dat (strD S), .un, .un]) w := by simp [strD, show ∀ s : Str, (D.str s).isTy Ty.str = true from fun _ => rfl]
  have st2 : (sSetO 1 (dMake (Den tbl m) "Reader" 564 (aCons (dName 0) aNil))) [.dat (strD S), .un, .un] w = .ok (.nx [.dat (strD S), .wref w.length, .un]) (w ++ [rdO S S]) := by
    unfold sSetO dMake
    simp [ci]
  have hA : RAt (w ++ [rdO S S]) w.length S S := ⟨by simp, List.suffix_refl _⟩
  have hset : ∀ o : WO, (w ++ [rdO S S]).set w.length o = w ++ [o] := fun o => by simp
  unfold rAll at e
  obtain ⟨y, ey, rfl⟩ := Option.map_eq_some_iff.mp e
  have cw := c_rwhole T.toHasRd (rP_at T.toHasRd hl f 0 (by omega)) (rP_suf f) (by omega) (k := w.length) (ws := []) (n := m) (by omega) hA (Nat.zero_le _) hl ey
  have hM := hasM_rd (m := "whole") hA.at_
  have dW : wsD [] = .lst [] := rfl
  have run : runB ⟨1, 3, b_read⟩ (Den tbl m) [.dat (strD S)] w = endR (b_read (Den tbl m) [.dat (strD S), .un, .un] w) := rfl
  rw [run]
  unfold b_read
  cases y with
  | bad r =>
    obtain ⟨e', cw⟩ := cw
    rw [hset, dW] at cw
    show ∃ e, _ = _
    refine ⟨[.dat (strD S), .wref w.length, .un], ?_⟩
    rw [seqN st1, seqN st2]
    rw [seqX (e := [.dat (strD S), .wref w.length, .un]) (w' := w ++ [rdO S r]) (x := bdX S r) (by
      generalize w ++ [rdO S r] = w1 at *
      generalize w ++ [rdO S S] = w2 at *
      generalize w.length = kk at *
      simp [hM, cw])]
    rfl
  | ok L r =>
    have cw : _ = _ := cw
    rw [hset, dW] at cw
    have e1 : (w ++ [rdO S r])[w.length]? = some (rdO S r) := by simp
    have fa := fld_at e1
    have hrS : r.length ≤ S.length := (rWhole_suf (rP_suf f) ey).length_le
    have ec : cLen [strD S] = some (.dat (.int (S.length : Int))) := by
      show some (RV.dat (.int ((sL S).length : Int))) = _
      rw [sL_len]
    have st3 : (sSet 2 (dMeth (Den tbl m) "Reader" "whole" 563 (dName 1) (aCons (dLst aNil) aNil))) [.dat (strD S), .wref w.length, .un] (w ++ [rdO S S]) = .ok (.nx [.dat (strD S), .wref w.length, .dat (.tup (L.map itD))]) (w ++ [rdO S r]) := by
      generalize w ++ [rdO S r] = w1 at *
      generalize w ++ [rdO S S] = w2 at *
      generalize w.length = kk at *
      simp [hM, cw]
    cases r with
    | nil =>
      show _ = _
      rw [seqN st1, seqN st2, seqN st3]
      have q : ¬ (((S.length - ([] : List Nat).length : Nat) : Int) < (S.length : Int)) := by simp
      generalize ((S.length - ([] : List Nat).length : Nat) : Int) = A at *
      generalize w ++ [rdO S []] = w1 at *
      rw [seqN (env' := [.dat (strD S), .wref w.length, .dat (.tup (L.map itD))]) (w' := w1) (by
        generalize strD S = SS at *
        generalize (S.length : Int) = SL at *
        generalize w.length = kk at *
        simp [fa, ec, q])]
      simp
    | cons c r =>
      show ∃ e, _ = _
      refine ⟨[.dat (strD S), .wref w.length, .dat (.tup (L.map itD))], ?_⟩
      rw [seqN st1, seqN st2, seqN st3]
      simp only [List.length_cons] at hrS
      have q : (((S.length - (c :: r).length : Nat) : Int) < (S.length : Int)) := by simp only [List.length_cons]; omega
      have hx : bdX S (c :: r) = ⟨"BadText", some ("place", .int ((S.length - (c :: r).length : Nat) : Int))⟩ := rfl
      rw [hx]
      generalize ((S.length - (c :: r).length : Nat) : Int) = A at *
      generalize w ++ [rdO S (c :: r)] = w1 at *
      rw [seqX (e := [.dat (strD S), .wref w.length, .dat (.tup (L.map itD))]) (w' := w1) (x := ⟨"BadText", some ("place", .int A)⟩) (by
        have h296 : 296 ≤ (Den tbl m).room := by omega
        generalize strD S = SS at *
        generalize (S.length : Int) = SL at *
        generalize w.length = kk at *
        simp [fa, ec, q, h296])]
      rfl
end Dl
namespace Dl
open PySem PySem.Spec PyProof.Rows L2 NdefX
inductive AK where
  | plan | item | part | body | colon | gap | bar | blank | word (n : Nat) | inside (n : Nat) | bound | count (n : Nat) (one : Bool) | figs (n : Nat) | mark | fin | zero
def endG (z : Bool) (K : List Nat) (c : Nat) : Option (AK × List Nat) :=
  if c = 32 ∧ z = false then some (.bar, K) else match K with
    | [] => none
    | t :: K => if c = t then some (.fin, K) else none
def begG (k : Nat) (K : List Nat) (c : Nat) : Option (AK × List Nat) :=
  if 97 ≤ c ∧ c ≤ 122 then some (.word 1, K)
  else if c = 63 then some (.mark, K)
  else if k = 4 ∧ c = 40 then some (.plan, 41 :: K)
  else if k = 4 ∧ c = 48 then some (.fin, K)
  else if k = 1 ∧ c = 48 then some (.zero, K)
  else if k ≤ 2 ∧ 49 ≤ c ∧ c ≤ 57 then some (.count 1 (c == 49), K)
  else none
def gone : AK → List Nat → Nat → Option (AK × List Nat)
  | .plan, K, c => begG 1 K c
  | .item, K, c => begG 2 K c
  | .part, K, c => begG 3 K c
  | .body, K, c => begG 4 K c
  | .colon, K, c => if c = 58 then some (.gap, K) else none
  | .gap, K, c => if c = 32 then some (.body, K) else none
  | .bar, K, c => if c = 124 then some (.blank, K) else none
  | .blank, K, c => if c = 32 then some (.item, K) else none
  | .word n, K, c => if 97 ≤ c ∧ c ≤ 122 then (if n + 1 ≤ 8 then some (.word (n + 1), K) else none)
    else if n = 1 ∧ c = 60 then some (.plan, 62 :: K) else if n = 1 ∧ c = 40 then some (.bound, K) else endG false K c
  | .inside n, K, c => if 97 ≤ c ∧ c ≤ 122 then (if n + 1 ≤ 8 then some (.inside (n + 1), K) else none) else if c = 41 then some (.colon, K) else none
  | .bound, K, c => if 97 ≤ c ∧ c ≤ 122 then some (.inside 1, K) else none
  | .count n o, K, c => if 48 ≤ c ∧ c ≤ 57 then (if n + 1 ≤ 60 then some (.count (n + 1) false, K) else none) else if c = 32 ∧ o = false then some (.part, K) else none
  | .figs n, K, c => if 48 ≤ c ∧ c ≤ 57 then (if n + 1 ≤ 60 then some (.figs (n + 1), K) else none) else endG false K c
  | .mark, K, c => if 48 ≤ c ∧ c ≤ 57 then (if c = 48 then some (.fin, K) else some (.figs 1, K)) else none
  | .fin, K, c => endG false K c
  | .zero, K, c => endG true K c
def final : AK → List Nat → Bool
  | .fin, [] => true
  | .zero, [] => true
  | .word _, [] => true
  | .figs _, [] => true
  | _, _ => false
def runA : AK → List Nat → List Nat → Option (List Nat)
  | k, K, [] => if final k K = true then none else some []
  | k, K, c :: l => match gone k K c with
    | none => some (c :: l)
    | some (k', K') => runA k' K' l
theorem runA_no {k : AK} {K : List Nat} {c : Nat} {l : List Nat} (h : gone k K c = none) : runA k K (c :: l) = some (c :: l) := by
  rw [runA, h]
theorem runA_go {k k' : AK} {K K' : List Nat} {c : Nat} {l : List Nat} (h : gone k K c = some (k', K')) : runA k K (c :: l) = runA k' K' l := by
  rw [runA, h]
def okK (K : List Nat) : Prop := ∀ t ∈ K, t = 41 ∨ t = 62
theorem okK.cons {K : List Nat} (h : okK K) {t : Nat} (ht : t = 41 ∨ t = 62) : okK (t :: K) := fun s hs => by
  rcases List.mem_cons.mp hs with rfl | z
  · exact ht
  · exact h s z
theorem endG_no {z : Bool} {K : List Nat} {c : Nat} (hK : okK K) (h1 : ¬ (c = 32 ∧ z = false)) (h2 : c ≠ 41 ∧ c ≠ 62) : endG z K c = none := by
  unfold endG
  rw [if_neg h1]
  cases K with
  | nil => rfl
  | cons t K =>
    have := hK t (.head _)
    show (if c = t then _ else _) = _
    rw [if_neg (by omega)]
theorem run_word {K : List Nat} : ∀ (m : Nat) (l : List Nat) (n : Nat), n + m = 8 → runA (.word n) K l = runA (.word (n + (scan 97 122 m l).1.length)) K (scan 97 122 m l).2 ∧ (isD 97 122 (scan 97 122 m l).2 = true → (scan 97 122 m l).1.length = m)
  | 0, l, n, h => ⟨rfl, fun _ => rfl⟩
  | m + 1, [], n, h => ⟨rfl, fun h => nomatch h⟩
  | m + 1, c :: l, n, h => by
    by_cases hc : 97 ≤ c ∧ c ≤ 122
    · rw [scan_pos hc]
      obtain ⟨h1, h2⟩ := run_word (K := K) m l (n + 1) (by omega)
      refine ⟨?_, fun z => ?_⟩
      · rw [runA_go (k' := .word (n + 1)) (K' := K) (by rw [gone, if_pos hc, if_pos (by omega)]), h1, List.length_cons]
        congr 2
        omega
      · rw [List.length_cons, h2 z]
    · have e : scan 97 122 (m + 1) (c :: l) = ([], c :: l) := by
        rw [scan, if_neg hc]
      rw [e]
      refine ⟨rfl, fun z => ?_⟩
      simp only [isD, Bool.and_eq_true, decide_eq_true_eq] at z
      exact absurd z hc
theorem run_inside {K : List Nat} : ∀ (m : Nat) (l : List Nat) (n : Nat), n + m = 8 → runA (.inside n) K l = runA (.inside (n + (scan 97 122 m l).1.length)) K (scan 97 122 m l).2 ∧ (isD 97 122 (scan 97 122 m l).2 = true → (scan 97 122 m l).1.length = m)
  | 0, l, n, h => ⟨rfl, fun _ => rfl⟩
  | m + 1, [], n, h => ⟨rfl, fun h => nomatch h⟩
  | m + 1, c :: l, n, h => by
    by_cases hc : 97 ≤ c ∧ c ≤ 122
    · rw [scan_pos hc]
      obtain ⟨h1, h2⟩ := run_inside (K := K) m l (n + 1) (by omega)
      refine ⟨?_, fun z => ?_⟩
      · rw [runA_go (k' := .inside (n + 1)) (K' := K) (by rw [gone, if_pos hc, if_pos (by omega)]), h1, List.length_cons]
        congr 2
        omega
      · rw [List.length_cons, h2 z]
    · have e : scan 97 122 (m + 1) (c :: l) = ([], c :: l) := by
        rw [scan, if_neg hc]
      rw [e]
      refine ⟨rfl, fun z => ?_⟩
      simp only [isD, Bool.and_eq_true, decide_eq_true_eq] at z
      exact absurd z hc
theorem run_figs {K : List Nat} : ∀ (m : Nat) (l : List Nat) (n : Nat), n + m = 60 → runA (.figs n) K l = runA (.figs (n + (scan 48 57 m l).1.length)) K (scan 48 57 m l).2 ∧ (isD 48 57 (scan 48 57 m l).2 = true → (scan 48 57 m l).1.length = m)
  | 0, l, n, h => ⟨rfl, fun _ => rfl⟩
  | m + 1, [], n, h => ⟨rfl, fun h => nomatch h⟩
  | m + 1, c :: l, n, h => by
    by_cases hc : 48 ≤ c ∧ c ≤ 57
    · rw [scan_pos hc]
      obtain ⟨h1, h2⟩ := run_figs (K := K) m l (n + 1) (by omega)
      refine ⟨?_, fun z => ?_⟩
      · rw [runA_go (k' := .figs (n + 1)) (K' := K) (by rw [gone, if_pos hc, if_pos (by omega)]), h1, List.length_cons]
        congr 2
        omega
      · rw [List.length_cons, h2 z]
    · have e : scan 48 57 (m + 1) (c :: l) = ([], c :: l) := by
        rw [scan, if_neg hc]
      rw [e]
      refine ⟨rfl, fun z => ?_⟩
      simp only [isD, Bool.and_eq_true, decide_eq_true_eq] at z
      exact absurd z hc
theorem run_count {K : List Nat} : ∀ (m : Nat) (l : List Nat) (n : Nat) (o : Bool), n + m = 60 → runA (.count n o) K l = runA (.count (n + (scan 48 57 m l).1.length) (o && decide ((scan 48 57 m l).1 = []))) K (scan 48 57 m l).2 ∧ (isD 48 57 (scan 48 57 m l).2 = true → (scan 48 57 m l).1.length = m)
  | 0, l, n, o, h => ⟨by rw [scan]; simp, fun _ => rfl⟩
  | m + 1, [], n, o, h => ⟨by rw [scan]; simp, fun h => nomatch h⟩
  | m + 1, c :: l, n, o, h => by
    by_cases hc : 48 ≤ c ∧ c ≤ 57
    · rw [scan_pos hc]
      obtain ⟨h1, h2⟩ := run_count (K := K) m l (n + 1) false (by omega)
      refine ⟨?_, fun z => ?_⟩
      · rw [runA_go (k' := .count (n + 1) false) (K' := K) (by rw [gone, if_pos hc, if_pos (by omega)]), h1, List.length_cons]
        rw [show n + ((scan 48 57 m l).1.length + 1) = n + 1 + (scan 48 57 m l).1.length by omega]
        simp
      · rw [List.length_cons, h2 z]
    · have e : scan 48 57 (m + 1) (c :: l) = ([], c :: l) := by
        rw [scan, if_neg hc]
      rw [e]
      refine ⟨by simp, fun z => ?_⟩
      simp only [isD, Bool.and_eq_true, decide_eq_true_eq] at z
      exact absurd z hc
theorem isD_false {a b c : Nat} {l : List Nat} : isD a b (c :: l) = true ↔ a ≤ c ∧ c ≤ b := by
  simp only [isD, Bool.and_eq_true, decide_eq_true_eq]
theorem word_end {K r : List Nat} {n : Nat} (hK : okK K) (h1 : isD 97 122 r = true → n = 8) (h2 : ¬ (n = 1 ∧ isD 60 60 r = true)) (h3 : ¬ (n = 1 ∧ isD 40 40 r = true)) : runA (.word n) K r = runA .fin K r := by
  cases r with
  | nil => cases K <;> rfl
  | cons c r =>
    rw [isD_false] at h1 h2 h3
    have e : gone (.word n) K c = gone .fin K c := by
      rw [gone, gone]
      by_cases hc : 97 ≤ c ∧ c ≤ 122
      · have := h1 hc
        rw [if_pos hc, if_neg (by omega), endG_no hK (by omega) (by omega)]
      · rw [if_neg hc, if_neg (by omega), if_neg (by omega)]
    rw [runA, runA, e]
theorem figs_end {K r : List Nat} {n : Nat} (hK : okK K) (h1 : isD 48 57 r = true → n = 60) : runA (.figs n) K r = runA .fin K r := by
  cases r with
  | nil => cases K <;> rfl
  | cons c r =>
    rw [isD_false] at h1
    have e : gone (.figs n) K c = gone .fin K c := by
      rw [gone, gone]
      by_cases hc : 48 ≤ c ∧ c ≤ 57
      · have := h1 hc
        rw [if_pos hc, if_neg (by omega), endG_no hK (by omega) (by omega)]
      · rw [if_neg hc]
    rw [runA, runA, e]
theorem zero_end {K r : List Nat} (h1 : isD 32 32 r = false) : runA .fin K r = runA .zero K r := by
  cases r with
  | nil => cases K <;> rfl
  | cons c r =>
    have h : ¬ c = 32 := fun h => by subst h; simp [isD] at h1
    have e : gone .fin K c = gone .zero K c := by
      rw [gone, gone]
      unfold endG
      rw [if_neg (by omega), if_neg (by omega)]
    rw [runA, runA, e]
theorem take_close {K s : List Nat} {t : Nat} (ht : t ≠ 32) : match rTake [t] s with
    | .ok _ q => runA .zero (t :: K) s = runA .fin K q
    | .bad q => runA .zero (t :: K) s = some q := by
  cases s with
  | nil => exact rfl
  | cons d s =>
    unfold rTake
    by_cases h : d = t
    · rw [if_pos h]
      subst h
      show runA _ _ _ = _
      exact runA_go (by rw [gone]; unfold endG; rw [if_neg (by omega)]; show (if d = d then _ else _) = _; rw [if_pos rfl])
    · rw [if_neg h]
      show runA _ _ _ = _
      exact runA_no (by rw [gone]; unfold endG; rw [if_neg (by simp)]; show (if d = t then _ else _) = _; rw [if_neg h])
theorem take_bound {K s : List Nat} {n : Nat} (h1 : isD 97 122 s = true → n = 8) : match rTake [41, 58, 32] s with
    | .ok _ q => runA (.inside n) K s = runA .body K q
    | .bad q => runA (.inside n) K s = some q := by
  cases s with
  | nil => exact rfl
  | cons d s =>
    unfold rTake
    rw [isD_false] at h1
    by_cases h : d = 41
    · rw [if_pos h]
      subst h
      rw [runA_go (k := .inside n) (k' := .colon) (K' := K) (by rw [gone, if_neg (by omega), if_pos rfl])]
      cases s with
      | nil => exact rfl
      | cons e s =>
        unfold rTake
        by_cases h : e = 58
        · rw [if_pos h]
          subst h
          rw [runA_go (k := .colon) (k' := .gap) (K' := K) (by rw [gone, if_pos rfl])]
          cases s with
          | nil => exact rfl
          | cons e s =>
            unfold rTake
            by_cases h : e = 32
            · rw [if_pos h]
              subst h
              rw [runA_go (k := .gap) (k' := .body) (K' := K) (by rw [gone, if_pos rfl])]
              exact rfl
            · rw [if_neg h]
              exact runA_no (by rw [gone, if_neg h])
        · rw [if_neg h]
          exact runA_no (by rw [gone, if_neg h])
    · rw [if_neg h]
      exact runA_no (by
        rw [gone]
        by_cases hc : 97 ≤ d ∧ d ≤ 122
        · have := h1 hc
          rw [if_pos hc, if_neg (by omega)]
        · rw [if_neg hc, if_neg h])
def Agr {α : Type} (k : AK) (K l : List Nat) : Rd α → Prop
  | .ok _ r => runA k K l = runA .fin K r
  | .bad r => runA k K l = some r
def AgrZ {α : Type} (k : AK) (K l : List Nat) : Rd α → Prop
  | .ok _ r => runA k K l = runA .zero K r
  | .bad r => runA k K l = some r
theorem Agr.map {α β : Type} {k : AK} {K l : List Nat} {x : Rd α} (f : α → β) (h : Agr k K l x) : Agr k K l (x.map f) := by cases x <;> exact h
structure Beg (k : AK) (K l : List Nat) : Prop where
  wd : ∀ c, 97 ≤ c ∧ c ≤ 122 → gone k K c = some (.word 1, K)
  qm : gone k K 63 = some (.mark, K)
  nf : final k K = false
  no : ∀ c r, l = c :: r → ¬ (97 ≤ c ∧ c ≤ 122) → c ≠ 63 → gone k K c = none
def AgrP (P : RP) : Prop := ∀ ws l x k K, okK K → Beg k K l → P ws l = some x → Agr k K l x
theorem beg_gen {n : Nat} {k : AK} {K l : List Nat} (hg : ∀ c, gone k K c = begG n K c) (hf : final k K = false) (h : ∀ c r, l = c :: r → ¬ (n = 4 ∧ (c = 40 ∨ c = 48)) ∧ ¬ (n = 1 ∧ c = 48) ∧ ¬ (n ≤ 2 ∧ 49 ≤ c ∧ c ≤ 57)) : Beg k K l := by
  refine ⟨fun c hc => ?_, ?_, hf, fun c r e h1 h2 => ?_⟩
  · rw [hg, begG, if_pos hc]
  · rw [hg, begG, if_neg (by decide), if_pos rfl]
  · obtain ⟨a1, a2, a3⟩ := h c r e
    rw [hg, begG, if_neg h1, if_neg h2, if_neg (by omega), if_neg (by omega), if_neg (by omega), if_neg a3]
theorem isD_no {a b : Nat} {l : List Nat} (h : ¬ isD a b l = true) {c : Nat} {r : List Nat} (e : l = c :: r) : ¬ (a ≤ c ∧ c ≤ b) := fun z => h (by rw [e, isD_false]; exact z)
theorem dig_fold : ∀ (l : List Nat) (n : Nat), n ≤ l.foldl (fun acc c => acc * 10 + (c - 48)) n
  | [], n => Nat.le_refl _
  | c :: l, n => by
    have := dig_fold l (n * 10 + (c - 48))
    rw [List.foldl_cons]
    omega
theorem dig_one {c : Nat} {l : List Nat} (hc : 49 ≤ c ∧ c ≤ 57) : NumText.digitsVal (c :: l) = 1 ↔ c = 49 ∧ l = [] := by
  unfold NumText.digitsVal
  cases l with
  | nil =>
    show 0 * 10 + (c - 48) = 1 ↔ _
    constructor
    · intro h; exact ⟨by omega, rfl⟩
    · rintro ⟨h, _⟩; omega
  | cons d l =>
    rw [List.foldl_cons, List.foldl_cons]
    have := dig_fold l ((0 * 10 + (c - 48)) * 10 + (d - 48))
    constructor
    · intro h; omega
    · rintro ⟨_, h⟩; cases h
theorem item_agr {P : RP} (hP : AgrP P) {ws : List Str} {l : List Nat} {x : Rd It} {k : AK} {K : List Nat} (hK : okK K) (hk : (k = .item) ∨ (k = .plan ∧ ¬ isD 48 48 l = true)) (h : rItem P ws l = some x) : Agr k K l x := by
  have hg : ∀ c, ∃ n, n ≤ 2 ∧ gone k K c = begG n K c ∧ (n = 1 → ¬ isD 48 48 l = true) := fun c => by
    rcases hk with rfl | ⟨rfl, h⟩
    · exact ⟨2, by omega, rfl, fun h => by omega⟩
    · exact ⟨1, by omega, rfl, fun _ => h⟩
  unfold rItem at h
  split at h
  · rename_i hd
    obtain ⟨c, e, hc⟩ := isD_cons hd
    have hs : scan 48 57 60 l = (c :: (scan 48 57 59 l.tail).1, (scan 48 57 59 l.tail).2) := by
      conv => lhs; rw [e]
      exact scan_pos (by omega)
    have h0 : runA k K l = runA (.count 1 (c == 49)) K l.tail := by
      conv => lhs; rw [e]
      obtain ⟨n, hn, hg, _⟩ := hg c
      exact runA_go (by rw [hg, begG, if_neg (by omega), if_neg (by omega), if_neg (by omega), if_neg (by omega), if_neg (by omega), if_pos (by omega)])
    obtain ⟨h1, h2⟩ := run_count (K := K) 59 l.tail 1 (c == 49) (by decide)
    have hv : (rNum l).1 = 1 ↔ c = 49 ∧ (scan 48 57 59 l.tail).1 = [] := by
      unfold rNum
      rw [hs]
      exact dig_one hc
    have hr : (rNum l).2 = (scan 48 57 59 l.tail).2 := by
      unfold rNum
      rw [hs]
    rw [hr] at h
    generalize (scan 48 57 59 l.tail).1 = a at *
    generalize (scan 48 57 59 l.tail).2 = r at *
    have ho : ((c == 49) && decide (a = [])) = decide ((rNum l).1 = 1) := by
      by_cases z : (rNum l).1 = 1
      · have := hv.mp z
        simp [z, this.1, this.2]
      · rw [decide_eq_false z]
        by_cases z1 : c = 49
        · have : ¬ a = [] := fun z2 => z (hv.mpr ⟨z1, z2⟩)
          simp [this]
        · simp [z1]
    rw [ho] at h1
    split at h
    · rename_i hv1
      cases h
      show runA k K l = some r
      rw [h0, h1]
      have ha := (hv.mp hv1).2
      cases r with
      | nil => rfl
      | cons d r =>
        refine runA_no ?_
        rw [gone]
        have : ¬ (48 ≤ d ∧ d ≤ 57) := fun z => by
          have := h2 (isD_false.mpr z)
          rw [ha] at this
          cases this
        rw [if_neg this, if_neg (by simp [hv1])]
    · rename_i hv1
      have ho2 : decide ((rNum l).1 = 1) = false := decide_eq_false hv1
      rw [ho2] at h1
      cases r with
      | nil =>
        have h : some (Rd.bad []) = some x := h
        cases h
        show runA k K l = some []
        rw [h0, h1]
        rfl
      | cons d r =>
        have hng : ¬ d = 32 → gone (.count (1 + a.length) false) K d = none := fun z => by
          rw [gone]
          by_cases y : 48 ≤ d ∧ d ≤ 57
          · have := h2 (isD_false.mpr y)
            rw [if_pos y, if_neg (by omega)]
          · rw [if_neg y, if_neg (by omega)]
        unfold rTake at h
        by_cases z : d = 32
        · rw [if_pos z] at h
          have h : (P ws r).map _ = some x := h
          obtain ⟨y, hy, rfl⟩ := Option.map_eq_some_iff.mp h
          refine Agr.map _ ?_
          have := hP ws r y .part K hK (beg_gen (n := 3) (fun _ => rfl) rfl fun c r _ => by omega) hy
          have e2 : runA k K l = runA .part K r := by
            rw [h0, h1, z]
            exact runA_go (by rw [gone, if_neg (by decide), if_pos ⟨rfl, rfl⟩])
          cases y with
          | ok p q => exact e2.trans this
          | bad q => exact e2.trans this
        · rw [if_neg z] at h
          cases h
          show runA k K l = _
          rw [h0, h1]
          exact runA_no (hng z)
  · rename_i hd
    obtain ⟨y, hy, rfl⟩ := Option.map_eq_some_iff.mp h
    refine Agr.map _ (hP ws l y k K hK ?_ hy)
    rcases hk with rfl | ⟨rfl, h48⟩
    · exact beg_gen (n := 2) (fun _ => rfl) rfl fun c r e => by
        have := isD_no hd e
        omega
    · exact beg_gen (n := 1) (fun _ => rfl) rfl fun c r e => by
        have := isD_no hd e
        have := isD_no h48 e
        omega
theorem loop_agr {P : RP} (hP : AgrP P) {ws : List Str} {K : List Nat} (hK : okK K) : ∀ {g : Nat} {acc : List It} {l : List Nat} {x : Rd (List It)}, rLoop P ws g acc l = some x → AgrZ .fin K l x
  | 0, _, _, _, h => by cases h
  | g + 1, acc, l, x, h => by
    unfold rLoop at h
    split at h
    · rename_i hd
      obtain ⟨c, e, hc⟩ := isD_cons hd
      have hc : c = 32 := by omega
      subst hc
      rw [e] at h
      have h0 : runA .fin K l = runA .bar K l.tail := by
        conv => lhs; rw [e]
        exact runA_go (by rw [gone]; unfold endG; rw [if_pos ⟨rfl, rfl⟩])
      generalize l.tail = r at *
      unfold rTake at h
      rw [if_pos rfl] at h
      cases r with
      | nil =>
        have h : some (Rd.bad []) = some x := h
        cases h
        exact h0
      | cons d r =>
        unfold rTake at h
        by_cases z : d = 124
        · rw [if_pos z] at h
          rw [z, runA_go (k := .bar) (k' := .blank) (K' := K) (by rw [gone, if_pos rfl])] at h0
          cases r with
          | nil =>
            have h : some (Rd.bad []) = some x := h
            cases h
            exact h0
          | cons d r =>
            unfold rTake at h
            by_cases z : d = 32
            · rw [if_pos z] at h
              rw [z, runA_go (k := .blank) (k' := .item) (K' := K) (by rw [gone, if_pos rfl])] at h0
              have h : (match rItem P ws r with
                | none => none
                | some (.bad s) => some (.bad s)
                | some (.ok i s) => rLoop P ws g (acc ++ [i]) s) = some x := h
              split at h
              · cases h
              · rename_i s e2
                cases h
                exact h0.trans (item_agr hP hK (.inl rfl) e2)
              · rename_i i s e2
                have h1 : runA .item K r = runA .fin K s := item_agr hP hK (.inl rfl) e2
                have h2 := loop_agr hP hK h
                cases x with
                | ok L q => exact (h0.trans h1).trans h2
                | bad q => exact (h0.trans h1).trans h2
            · rw [if_neg z] at h
              cases h
              exact h0.trans (runA_no (by rw [gone, if_neg z]))
        · rw [if_neg z] at h
          cases h
          exact h0.trans (runA_no (by rw [gone, if_neg z]))
    · rename_i hd
      cases h
      exact zero_end (by simpa using hd)
theorem whole_agr {P : RP} (hP : AgrP P) {ws : List Str} {K : List Nat} (hK : okK K) {l : List Nat} {x : Rd (List It)} (h : rWhole P ws l = some x) : AgrZ .plan K l x := by
  unfold rWhole at h
  split at h
  · rename_i hd
    obtain ⟨c, e, hc⟩ := isD_cons hd
    have hc : c = 48 := by omega
    subst hc
    cases h
    show runA .plan K l = _
    conv => lhs; rw [e]
    exact runA_go (by rw [gone, begG, if_neg (by decide), if_neg (by decide), if_neg (by decide), if_neg (by decide), if_pos ⟨rfl, rfl⟩])
  · rename_i hd
    split at h
    · cases h
    · rename_i s e2
      cases h
      exact item_agr hP hK (.inr ⟨rfl, hd⟩) e2
    · rename_i i s e2
      have h1 : runA .plan K l = runA .fin K s := item_agr hP hK (.inr ⟨rfl, hd⟩) e2
      have h2 := loop_agr hP hK h
      cases x with
      | ok L q => exact h1.trans h2
      | bad q => exact h1.trans h2
theorem body_agr {P : RP} (hP : AgrP P) {ws : List Str} {K : List Nat} (hK : okK K) {l : List Nat} {x : Rd (List It)} (h : rBody P ws l = some x) : Agr .body K l x := by
  unfold rBody at h
  split at h
  · rename_i hd
    obtain ⟨c, e, hc⟩ := isD_cons hd
    have hc : c = 48 := by omega
    subst hc
    cases h
    show runA .body K l = _
    conv => lhs; rw [e]
    exact runA_go (by rw [gone, begG, if_neg (by decide), if_neg (by decide), if_neg (by decide), if_pos ⟨rfl, rfl⟩])
  · rename_i hd
    split at h
    · rename_i hd2
      obtain ⟨c, e, hc⟩ := isD_cons hd2
      have hc : c = 40 := by omega
      subst hc
      have h0 : runA .body K l = runA .plan (41 :: K) l.tail := by
        conv => lhs; rw [e]
        exact runA_go (by rw [gone, begG, if_neg (by decide), if_neg (by decide), if_pos ⟨rfl, rfl⟩])
      split at h
      · cases h
      · rename_i s e2
        cases h
        exact h0.trans (whole_agr hP (hK.cons (.inl rfl)) e2)
      · rename_i L s e2
        have h1 : runA .plan (41 :: K) l.tail = runA .zero (41 :: K) s := whole_agr hP (hK.cons (.inl rfl)) e2
        have h2 := take_close (K := K) (s := s) (t := 41) (by decide)
        split at h
        · rename_i q e3
          rw [e3] at h2
          cases h
          exact (h0.trans h1).trans h2
        · rename_i q e3
          rw [e3] at h2
          cases h
          exact (h0.trans h1).trans h2
    · rename_i hd2
      obtain ⟨y, hy, rfl⟩ := Option.map_eq_some_iff.mp h
      refine Agr.map _ (hP ws l y .body K hK ?_ hy)
      exact beg_gen (n := 4) (fun _ => rfl) rfl fun c r e => by
        have := isD_no hd e
        have := isD_no hd2 e
        omega
theorem part_agr {P : RP} (hP : AgrP P) : AgrP (rPart P) := by
  intro ws l x k K hK hb h
  unfold rPart at h
  split at h
  · rename_i hd
    obtain ⟨c, e, hc⟩ := isD_cons hd
    have hc : c = 63 := by omega
    subst hc
    cases h
    refine Agr.map _ ?_
    have h0 : runA k K l = runA .mark K l.tail := by
      conv => lhs; rw [e]
      exact runA_go hb.qm
    generalize l.tail = r at *
    unfold rMark
    split
    · rename_i h1
      obtain ⟨c, e1, hc⟩ := isD_cons h1
      have hc : c = 48 := by omega
      subst hc
      refine h0.trans ?_
      conv => lhs; rw [e1]
      exact runA_go (by rw [gone, if_pos (by decide), if_pos rfl])
    · rename_i h1
      split
      · rename_i h2
        obtain ⟨c, e1, hc⟩ := isD_cons h2
        have hs : scan 48 57 60 r = (c :: (scan 48 57 59 r.tail).1, (scan 48 57 59 r.tail).2) := by
          conv => lhs; rw [e1]
          exact scan_pos (by omega)
        obtain ⟨f1, f2⟩ := run_figs (K := K) 59 r.tail 1 (by decide)
        have hr : (rNum r).2 = (scan 48 57 59 r.tail).2 := by
          unfold rNum
          rw [hs]
        show runA k K l = runA .fin K (rNum r).2
        rw [h0, hr, ← figs_end (n := 1 + (scan 48 57 59 r.tail).1.length) hK (fun z => by rw [f2 z]), ← f1]
        conv => lhs; rw [e1]
        exact runA_go (by rw [gone, if_pos (by omega), if_neg (by omega)])
      · rename_i h2
        show runA k K l = some r
        rw [h0]
        cases r with
        | nil => rfl
        | cons d r =>
          rw [isD_false] at h1 h2
          exact runA_no (by rw [gone, if_neg (by omega)])
  · rename_i hq
    unfold rWord at h
    by_cases hne : (scan 97 122 8 l).1 = []
    · rw [if_pos hne] at h
      cases h
      show runA k K l = some l
      cases l with
      | nil => rw [runA, if_neg (by rw [hb.nf]; decide)]
      | cons c r =>
        have hc : ¬ (97 ≤ c ∧ c ≤ 122) := fun z => by rw [scan_pos z] at hne; cases hne
        rw [isD_false] at hq
        exact runA_no (hb.no c r rfl hc (by omega))
    · rw [if_neg hne] at h
      obtain ⟨c, e, hc⟩ : ∃ c, l = c :: l.tail ∧ 97 ≤ c ∧ c ≤ 122 := by
        cases l with
        | nil => exact absurd rfl hne
        | cons c r =>
          by_cases z : 97 ≤ c ∧ c ≤ 122
          · exact ⟨c, rfl, z⟩
          · exact absurd (by rw [scan, if_neg z]) hne
      have h0 : runA k K l = runA (.word 1) K l.tail := by
        conv => lhs; rw [e]
        exact runA_go (hb.wd c hc)
      have hs : scan 97 122 8 l = (c :: (scan 97 122 7 l.tail).1, (scan 97 122 7 l.tail).2) := by
        conv => lhs; rw [e]
        exact scan_pos hc
      obtain ⟨f1, f2⟩ := run_word (K := K) 7 l.tail 1 (by decide)
      rw [hs] at h
      generalize (scan 97 122 7 l.tail).1 = a at *
      generalize (scan 97 122 7 l.tail).2 = r at *
      have hlen : (c :: a).length = 1 + a.length := by rw [List.length_cons]; omega
      have h1 := h0.trans f1
      rw [← hlen] at h1
      have hw8 : isD 97 122 r = true → (c :: a).length = 8 := fun z => by rw [hlen, f2 z]
      generalize (c :: a) = wd at *
      have h : (if wd.length = 1 ∧ isD 60 60 r = true then (match rWhole P ws r.tail with
        | none => none
        | some (.bad s) => some (.bad s)
        | some (.ok L s) => (match rTake [62] s with
          | .bad q => some (.bad q)
          | .ok _ q => some (.ok (Pa.letter (sL wd) (ofL L)) q)))
        else if wd.length = 1 ∧ isD 40 40 r = true then (match rWord r.tail with
          | .bad s => some (.bad s)
          | .ok b s => (match rTake [41, 58, 32] s with
            | .bad q => some (.bad q)
            | .ok _ q => (rBody P (sL b :: ws) q).map fun y => y.map fun L => Pa.wait (sL wd) (ofL L)))
        else if sL wd ∈ ws then some (.ok (.got (ws.idxOf (sL wd))) r) else some (.ok (.name (sL wd)) r)) = some x := h
      split at h
      · rename_i hl
        obtain ⟨d, e2, hd⟩ := isD_cons hl.2
        have hd : d = 60 := by omega
        subst hd
        have h2 : runA k K l = runA .plan (62 :: K) r.tail := by
          rw [h1, hl.1]
          conv => lhs; rw [e2]
          exact runA_go (by rw [gone, if_neg (by decide), if_pos ⟨rfl, rfl⟩])
        split at h
        · cases h
        · rename_i s e3
          cases h
          exact h2.trans (whole_agr hP (hK.cons (.inr rfl)) e3)
        · rename_i L s e3
          have h3 : runA .plan (62 :: K) r.tail = runA .zero (62 :: K) s := whole_agr hP (hK.cons (.inr rfl)) e3
          have h4 := take_close (K := K) (s := s) (t := 62) (by decide)
          split at h
          · rename_i q e4
            rw [e4] at h4
            cases h
            exact (h2.trans h3).trans h4
          · rename_i q e4
            rw [e4] at h4
            cases h
            exact (h2.trans h3).trans h4
      · rename_i hl
        split at h
        · rename_i hw
          obtain ⟨d, e2, hd⟩ := isD_cons hw.2
          have hd : d = 40 := by omega
          subst hd
          have h2 : runA k K l = runA .bound K r.tail := by
            rw [h1, hw.1]
            conv => lhs; rw [e2]
            exact runA_go (by rw [gone, if_neg (by decide), if_neg (by decide), if_pos ⟨rfl, rfl⟩])
          generalize r.tail = u at *
          unfold rWord at h
          by_cases hne2 : (scan 97 122 8 u).1 = []
          · rw [if_pos hne2] at h
            cases h
            show runA k K l = some u
            rw [h2]
            cases u with
            | nil => rfl
            | cons c r =>
              have hc : ¬ (97 ≤ c ∧ c ≤ 122) := fun z => by rw [scan_pos z] at hne2; cases hne2
              exact runA_no (by rw [gone, if_neg hc])
          · rw [if_neg hne2] at h
            obtain ⟨c2, e3, hc2⟩ : ∃ c, u = c :: u.tail ∧ 97 ≤ c ∧ c ≤ 122 := by
              cases u with
              | nil => exact absurd rfl hne2
              | cons c r =>
                by_cases z : 97 ≤ c ∧ c ≤ 122
                · exact ⟨c, rfl, z⟩
                · exact absurd (by rw [scan, if_neg z]) hne2
            have h3 : runA .bound K u = runA (.inside 1) K u.tail := by
              conv => lhs; rw [e3]
              exact runA_go (by rw [gone, if_pos hc2])
            have hs2 : scan 97 122 8 u = (c2 :: (scan 97 122 7 u.tail).1, (scan 97 122 7 u.tail).2) := by
              conv => lhs; rw [e3]
              exact scan_pos hc2
            obtain ⟨g1, g2⟩ := run_inside (K := K) 7 u.tail 1 (by decide)
            rw [hs2] at h
            generalize (scan 97 122 7 u.tail).1 = b at *
            generalize (scan 97 122 7 u.tail).2 = s at *
            have h4 := take_bound (K := K) (s := s) (n := 1 + b.length) (fun z => by rw [g2 z])
            have h5 : runA k K l = runA (.inside (1 + b.length)) K s := (h2.trans h3).trans g1
            have h : (match rTake [41, 58, 32] s with
              | .bad q => some (.bad q)
              | .ok _ q => (rBody P (sL (c2 :: b) :: ws) q).map fun y => y.map fun L => Pa.wait (sL wd) (ofL L)) = some x := h
            split at h
            · rename_i q e4
              rw [e4] at h4
              cases h
              exact h5.trans h4
            · rename_i q e4
              rw [e4] at h4
              obtain ⟨y, hy, rfl⟩ := Option.map_eq_some_iff.mp h
              refine Agr.map _ ?_
              have h6 := body_agr hP hK hy
              have h7 : runA k K l = runA .body K q := h5.trans h4
              cases y with
              | ok L z => exact h7.trans h6
              | bad z => exact h7.trans h6
        · rename_i hw
          have h2 : runA k K l = runA .fin K r := h1.trans (word_end hK hw8 hl hw)
          split at h
          · cases h; exact h2
          · cases h; exact h2
theorem rP_agr : ∀ f, AgrP (rP f)
  | 0 => fun _ _ _ _ _ _ _ h => by cases h
  | f + 1 => part_agr (rP_agr f)
theorem all_agr {f : Nat} {S : List Nat} {x : Rd (List It)} (h : rAll f S = some x) : match x with
    | .ok _ _ => runA .plan [] S = none
    | .bad r => runA .plan [] S = some r := by
  unfold rAll at h
  obtain ⟨y, hy, rfl⟩ := Option.map_eq_some_iff.mp h
  have := whole_agr (rP_agr f) (K := []) (fun _ h => nomatch h) hy
  cases y with
  | ok L r =>
    have this : runA .plan [] S = runA .zero [] r := this
    cases r with
    | nil => exact this
    | cons c r => exact this.trans (runA_no (by rw [gone]; unfold endG; rw [if_neg (by simp)]))
  | bad r => exact this
end Dl
namespace Dl
open PySem PySem.Spec PyProof.Rows L2 NdefX
def cb (l : List Nat) : Nat := l.countP fun c => decide (c = 60) || decide (c = 40)
theorem cb_app (a b : List Nat) : cb (a ++ b) = cb a + cb b := List.countP_append
theorem cb_suf {a b : List Nat} (h : a <:+ b) : cb a ≤ cb b := by
  obtain ⟨t, rfl⟩ := h
  rw [cb_app]
  omega
theorem cb_pos {c : Nat} {l : List Nat} (hc : c = 60 ∨ c = 40) : cb (c :: l) = cb l + 1 := by
  unfold cb
  rw [List.countP_cons_of_pos]
  rcases hc with rfl | rfl <;> rfl
def TotP (P : RP) (B : Nat) : Prop := ∀ ws l, cb l < B → ∃ x, P ws l = some x
theorem item_tot {P : RP} {B : Nat} (hP : TotP P B) {ws : List Str} {l : List Nat} (h : cb l < B) : ∃ x, rItem P ws l = some x := by
  unfold rItem
  split
  · split
    · exact ⟨_, rfl⟩
    · have ts := rTake_suf [32] (rNum l).2
      split
      · exact ⟨_, rfl⟩
      · rename_i q e
        rw [e] at ts
        obtain ⟨x, hx⟩ := hP ws q (Nat.lt_of_le_of_lt (cb_suf (ts.trans (rNum_suf l))) h)
        rw [hx]
        exact ⟨_, rfl⟩
  · obtain ⟨x, hx⟩ := hP ws l h
    rw [hx]
    exact ⟨_, rfl⟩
theorem loop_tot {P : RP} {B : Nat} (hP : TotP P B) (hs : SufP P) {ws : List Str} : ∀ {g : Nat} {acc : List It} {l : List Nat}, cb l < B → l.length < g → ∃ x, rLoop P ws g acc l = some x
  | 0, _, _, _, h => absurd h (Nat.not_lt_zero _)
  | g + 1, acc, l, h, hg => by
    unfold rLoop
    split
    · have ts := rTake_suf [32, 124, 32] l
      split
      · exact ⟨_, rfl⟩
      · rename_i q e
        have hq := rTake_ok e
        rw [e] at ts
        have hcb : cb q < B := Nat.lt_of_le_of_lt (cb_suf ts) h
        obtain ⟨x, hx⟩ := item_tot hP (ws := ws) hcb
        rw [hx]
        cases x with
        | bad s => exact ⟨_, rfl⟩
        | ok i s =>
          have hsf : s <:+ q := rItem_suf hs hx
          have hl := hsf.length_le
          refine loop_tot hP hs (Nat.lt_of_le_of_lt (cb_suf hsf) hcb) ?_
          have := congrArg List.length hq
          simp only [List.length_append, List.length_cons, List.length_nil] at this
          omega
    · exact ⟨_, rfl⟩
theorem whole_tot {P : RP} {B : Nat} (hP : TotP P B) (hs : SufP P) {ws : List Str} {l : List Nat} (h : cb l < B) : ∃ x, rWhole P ws l = some x := by
  unfold rWhole
  split
  · exact ⟨_, rfl⟩
  · obtain ⟨x, hx⟩ := item_tot hP (ws := ws) h
    rw [hx]
    cases x with
    | bad s => exact ⟨_, rfl⟩
    | ok i s => exact loop_tot hP hs (Nat.lt_of_le_of_lt (cb_suf (rItem_suf hs hx)) h) (Nat.lt_succ_self _)
theorem body_tot {P : RP} {B : Nat} (hP : TotP P B) (hs : SufP P) {ws : List Str} {l : List Nat} (h : cb l < B) : ∃ x, rBody P ws l = some x := by
  unfold rBody
  split
  · exact ⟨_, rfl⟩
  · split
    · obtain ⟨x, hx⟩ := whole_tot hP hs (ws := ws) (l := l.tail) (Nat.lt_of_le_of_lt (cb_suf (List.tail_suffix _)) h)
      rw [hx]
      cases x with
      | bad s => exact ⟨_, rfl⟩
      | ok L s =>
        rcases e : rTake [41] s with _ | _ <;> simp only [e] <;> exact ⟨_, rfl⟩
    · obtain ⟨x, hx⟩ := hP ws l h
      rw [hx]
      exact ⟨_, rfl⟩
theorem part_tot {P : RP} {B : Nat} (hP : TotP P B) (hs : SufP P) : TotP (rPart P) (B + 1) := by
  intro ws l h
  unfold rPart
  split
  · exact ⟨_, rfl⟩
  · have hw := rWord_suf l
    split
    · exact ⟨_, rfl⟩
    · rename_i a r e
      rw [e] at hw
      have hw : r <:+ l := hw
      have hr := cb_suf hw
      split
      · rename_i hd
        obtain ⟨c, e2, hc⟩ := isD_cons hd.2
        have h1 : cb r = cb r.tail + 1 := by
          conv => lhs; rw [e2]
          exact cb_pos (.inl (by omega))
        obtain ⟨x, hx⟩ := whole_tot hP hs (ws := ws) (l := r.tail) (by omega)
        rw [hx]
        cases x with
        | bad s => exact ⟨_, rfl⟩
        | ok L s =>
          rcases e : rTake [62] s with _ | _ <;> simp only [e] <;> exact ⟨_, rfl⟩
      · split
        · rename_i hd
          obtain ⟨c, e2, hc⟩ := isD_cons hd.2
          have h1 : cb r = cb r.tail + 1 := by
            conv => lhs; rw [e2]
            exact cb_pos (.inr (by omega))
          have hw2 := rWord_suf r.tail
          split
          · exact ⟨_, rfl⟩
          · rename_i b s e3
            rw [e3] at hw2
            have hw2 : s <:+ r.tail := hw2
            have ts := rTake_suf [41, 58, 32] s
            split
            · exact ⟨_, rfl⟩
            · rename_i q e4
              rw [e4] at ts
              have hq : q <:+ r.tail := (show q <:+ s from ts).trans hw2
              have := cb_suf hq
              obtain ⟨x, hx⟩ := body_tot hP hs (ws := sL b :: ws) (l := q) (by omega)
              rw [hx]
              exact ⟨_, rfl⟩
        · split <;> exact ⟨_, rfl⟩
theorem rP_tot : ∀ f, TotP (rP f) f
  | 0 => fun _ _ h => absurd h (Nat.not_lt_zero _)
  | f + 1 => part_tot (rP_tot f) (rP_suf f)
theorem rAll_tot {f : Nat} {S : List Nat} (h : cb S < f) : ∃ x, rAll f S = some x := by
  obtain ⟨x, hx⟩ := whole_tot (rP_tot f) (rP_suf f) (ws := []) h
  exact ⟨_, by unfold rAll; rw [hx]; rfl⟩
def stA : AK → List Nat → List Nat → Option (AK × List Nat)
  | k, K, [] => some (k, K)
  | k, K, c :: l => match gone k K c with
    | none => none
    | some (k', K') => stA k' K' l
theorem stA_app : ∀ (a : List Nat) (k k' : AK) (K K' b : List Nat), stA k K a = some (k', K') → runA k K (a ++ b) = runA k' K' b
  | [], k, k', K, K', b, h => by cases h; rfl
  | c :: a, k, k', K, K', b, h => by
    unfold stA at h
    cases e : gone k K c with
    | none => rw [e] at h; cases h
    | some x =>
      obtain ⟨j, J⟩ := x
      rw [e] at h
      rw [List.cons_append, runA_go e]
      exact stA_app a j k' J K' b h
theorem stA_pre : ∀ (a b : List Nat) (k : AK) (K : List Nat), (∃ y, stA k K (a ++ b) = some y) → ∃ y, stA k K a = some y
  | [], b, k, K, _ => ⟨_, rfl⟩
  | c :: a, b, k, K, ⟨y, h⟩ => by
    rw [List.cons_append] at h
    unfold stA at h ⊢
    cases e : gone k K c with
    | none => rw [e] at h; cases h
    | some x =>
      obtain ⟨j, J⟩ := x
      rw [e] at h
      exact stA_pre a b j J ⟨y, h⟩
theorem runA_cut : ∀ (l : List Nat) (k : AK) (K : List Nat), (∃ y, stA k K l = some y ∧ runA k K l = if final y.1 y.2 = true then none else some []) ∨
    ∃ a c b k' K', l = a ++ c :: b ∧ stA k K a = some (k', K') ∧ gone k' K' c = none ∧ runA k K l = some (c :: b)
  | [], k, K => .inl ⟨(k, K), rfl, rfl⟩
  | c :: l, k, K => by
    cases e : gone k K c with
    | none => exact .inr ⟨[], c, l, k, K, rfl, rfl, e, runA_no e⟩
    | some x =>
      obtain ⟨j, J⟩ := x
      have hst : ∀ m, stA k K (c :: m) = stA j J m := fun m => by rw [stA, e]
      rw [hst, runA_go e]
      rcases runA_cut l j J with h | ⟨a, d, b, k', K', h1, h2, h3, h4⟩
      · exact .inl h
      · exact .inr ⟨c :: a, d, b, k', K', by rw [h1]; rfl, by rw [hst]; exact h2, h3, h4⟩
def okA : AK → Prop
  | .count n o => o = true → n = 1
  | _ => True
theorem endG_ok {z : Bool} {K K' : List Nat} {c : Nat} {k' : AK} (hK : okK K) (h : endG z K c = some (k', K')) : okK K' ∧ okA k' := by
  unfold endG at h
  split at h
  · cases h; exact ⟨hK, trivial⟩
  · cases K with
    | nil => cases h
    | cons t K =>
      have h : (if c = t then some (AK.fin, K) else none) = some (k', K') := h
      split at h
      · cases h; exact ⟨fun s hs => hK s (.tail _ hs), trivial⟩
      · cases h
theorem begG_ok {n : Nat} {K K' : List Nat} {c : Nat} {k' : AK} (hK : okK K) (h : begG n K c = some (k', K')) : okK K' ∧ okA k' := by
  unfold begG at h
  repeat' (split at h)
  all_goals first
    | (cases h; done)
    | (cases h; exact ⟨hK, trivial⟩)
    | (cases h; exact ⟨hK.cons (.inl rfl), trivial⟩)
    | (cases h; exact ⟨hK, fun _ => rfl⟩)
theorem gone_ok {k k' : AK} {K K' : List Nat} {c : Nat} (hK : okK K) (h : gone k K c = some (k', K')) : okK K' ∧ okA k' := by
  cases k
  case plan => exact begG_ok hK h
  case item => exact begG_ok hK h
  case part => exact begG_ok hK h
  case body => exact begG_ok hK h
  case fin => exact endG_ok hK h
  case zero => exact endG_ok hK h
  all_goals
    rw [gone] at h
    repeat' (split at h)
  all_goals first
    | (cases h; done)
    | (cases h; exact ⟨hK, trivial⟩)
    | (cases h; exact ⟨hK.cons (.inr rfl), trivial⟩)
    | (cases h; exact ⟨hK, fun z => nomatch z⟩)
    | exact endG_ok hK h
theorem stA_ok : ∀ (l : List Nat) (k k' : AK) (K K' : List Nat), okK K → okA k → stA k K l = some (k', K') → okK K' ∧ okA k'
  | [], k, k', K, K', hK, hA, h => by cases h; exact ⟨hK, hA⟩
  | c :: l, k, k', K, K', hK, hA, h => by
    unfold stA at h
    cases e : gone k K c with
    | none => rw [e] at h; cases h
    | some x =>
      obtain ⟨j, J⟩ := x
      rw [e] at h
      obtain ⟨h1, h2⟩ := gone_ok hK e
      exact stA_ok l j k' J K' h1 h2 h
def sgL : List Nat := [48, 97, 41, 32, 62, 58, 124]
theorem goes_on {k : AK} {K : List Nat} (hK : okK K) (hA : okA k) (hf : final k K = false) : ∃ c ∈ sgL, ∃ y, gone k K c = some y := by
  have hE : ∃ y, endG false K 32 = some y := ⟨_, by unfold endG; rw [if_pos ⟨rfl, rfl⟩]⟩
  cases k with
  | plan => exact ⟨97, by decide, _, rfl⟩
  | item => exact ⟨97, by decide, _, rfl⟩
  | part => exact ⟨97, by decide, _, rfl⟩
  | body => exact ⟨97, by decide, _, rfl⟩
  | colon => exact ⟨58, by decide, _, rfl⟩
  | gap => exact ⟨32, by decide, _, rfl⟩
  | bar => exact ⟨124, by decide, _, rfl⟩
  | blank => exact ⟨32, by decide, _, rfl⟩
  | word n =>
    refine ⟨32, by decide, ?_⟩
    rw [gone, if_neg (by decide), if_neg (by omega), if_neg (by omega)]
    exact hE
  | inside n => exact ⟨41, by decide, (.colon, K), by rw [gone, if_neg (by decide), if_pos rfl]⟩
  | bound => exact ⟨97, by decide, _, rfl⟩
  | count n o =>
    by_cases h : n + 1 ≤ 60
    · exact ⟨48, by decide, (.count (n + 1) false, K), by rw [gone, if_pos (by decide), if_pos h]⟩
    · have ho : o = false := by
        cases o with
        | false => rfl
        | true => have := hA rfl; omega
      exact ⟨32, by decide, (.part, K), by rw [gone, if_neg (by decide), if_pos ⟨rfl, ho⟩]⟩
  | figs n =>
    refine ⟨32, by decide, ?_⟩
    rw [gone, if_neg (by decide)]
    exact hE
  | mark => exact ⟨48, by decide, (.fin, K), by rw [gone, if_pos (by decide), if_pos rfl]⟩
  | fin => exact ⟨32, by decide, hE⟩
  | zero =>
    cases K with
    | nil => cases hf
    | cons t K =>
      rcases hK t (.head _) with rfl | rfl
      · exact ⟨41, by decide, (.fin, K), rfl⟩
      · exact ⟨62, by decide, (.fin, K), rfl⟩
def plcD (S : List Nat) : D := match runA .plan [] S with
  | none => .non
  | some r => .int ((S.length - r.length : Nat) : Int)
def GoesA (S : List Nat) : Prop := ∃ y, stA .plan [] S = some y
theorem GoesA.pre {a b : List Nat} (h : GoesA (a ++ b)) : GoesA a := stA_pre a b _ _ h
theorem GoesA.take {S : List Nat} (h : GoesA S) (n : Nat) : GoesA (S.take n) := by
  rw [← List.take_append_drop n S] at h
  exact h.pre
theorem plc_goes {S : List Nat} (h : GoesA S) : plcD S = .non ∨ plcD S = .int (S.length : Int) ∧ ∃ c ∈ sgL, GoesA (S ++ [c]) := by
  obtain ⟨⟨k, K⟩, h⟩ := h
  have h0 := stA_app S _ k _ K [] h
  rw [List.append_nil] at h0
  obtain ⟨hK, hA⟩ := stA_ok S .plan k [] K (fun _ h => nomatch h) trivial h
  unfold plcD
  rw [h0, runA]
  by_cases hf : final k K = true
  · rw [if_pos hf]
    exact .inl rfl
  · rw [if_neg hf]
    refine .inr ⟨rfl, ?_⟩
    obtain ⟨c, hc, y, hy⟩ := goes_on hK hA (by simpa using hf)
    refine ⟨c, hc, y, ?_⟩
    have go : ∀ (a : List Nat) (k k' : AK) (K K' : List Nat), stA k K a = some (k', K') → stA k K (a ++ [c]) = stA k' K' [c] := by
      intro a
      induction a with
      | nil => intro k k' K K' h; cases h; rfl
      | cons d a ih =>
        intro k k' K K' h
        unfold stA at h
        rw [List.cons_append, stA]
        cases e : gone k K d with
        | none => rw [e] at h; cases h
        | some x =>
          obtain ⟨j, J⟩ := x
          rw [e] at h
          exact ih j k' J K' h
    rw [go S _ _ _ _ h, stA, hy]
    rfl
theorem plc_wrong {S : List Nat} (h : ¬ GoesA S) : ∃ i, i < S.length ∧ plcD S = .int (i : Int) ∧ GoesA (S.take i) ∧ ∀ t, plcD (S.take (i + 1) ++ t) = .int (i : Int) := by
  rcases runA_cut S .plan [] with ⟨y, h1, _⟩ | ⟨a, c, b, k', K', h1, h2, h3, h4⟩
  · exact absurd ⟨y, h1⟩ h
  · refine ⟨a.length, ?_, ?_, ?_, fun t => ?_⟩
    · rw [h1]; simp
    · unfold plcD
      rw [h4, h1]
      show D.int _ = _
      congr 2
      simp
    · rw [h1, List.take_left]
      exact ⟨_, h2⟩
    · have e : S.take (a.length + 1) = a ++ [c] := by
        rw [h1, show a ++ c :: b = (a ++ [c]) ++ b by simp, show a.length + 1 = (a ++ [c]).length by simp, List.take_left]
      rw [e, List.append_assoc]
      unfold plcD
      rw [stA_app a _ k' _ K' _ h2, List.singleton_append, runA_no h3]
      show D.int _ = _
      congr 2
      simp
end Dl
namespace Dl
open PySem PySem.Spec PyProof.Rows L2 NdefX
def sepC : List Nat → Prop
  | [] => True
  | c :: _ => c = 32 ∨ c = 41 ∨ c = 62
def endC : List Nat → Prop
  | [] => True
  | c :: _ => c = 41 ∨ c = 62
theorem endC.sep {r : List Nat} (h : endC r) : sepC r := by
  cases r with
  | nil => trivial
  | cons c r => exact .inr h
theorem sepC.no {r : List Nat} (h : sepC r) {a b : Nat} (h1 : ¬ (a ≤ 32 ∧ 32 ≤ b)) (h2 : ¬ (a ≤ 41 ∧ 41 ≤ b)) (h3 : ¬ (a ≤ 62 ∧ 62 ≤ b)) : isD a b r = false := by
  cases r with
  | nil => rfl
  | cons c r =>
    simp only [isD, Bool.and_eq_false_iff, decide_eq_false_iff_not]
    rcases h with rfl | rfl | rfl <;> omega
theorem endC.no {r : List Nat} (h : endC r) : isD 32 32 r = false := by
  cases r with
  | nil => rfl
  | cons c r =>
    simp only [isD, Bool.and_eq_false_iff, decide_eq_false_iff_not]
    rcases h with rfl | rfl <;> omega
theorem wordB_all {x : Str} (h : wordB x = true) : ∀ c ∈ csL x, 97 ≤ c ∧ c ≤ 122 := fun c hc => by
  unfold wordB at h
  simp only [Bool.and_eq_true, List.all_eq_true, decide_eq_true_eq] at h
  exact small_97 c (h.2 c hc)
theorem csL_len (x : Str) : (csL x).length = x.length := by simp [Str.length]
theorem wordB_len {x : Str} (h : wordB x = true) : 1 ≤ (csL x).length ∧ (csL x).length ≤ 8 := by
  unfold wordB at h
  simp only [Bool.and_eq_true, decide_eq_true_eq] at h
  rw [csL_len]
  exact h.1
theorem doorB_cs {x : Str} (h : doorB x = true) : ∃ c, csL x = [c] ∧ 97 ≤ c ∧ c ≤ 122 ∧ x = sL [c] := by
  unfold doorB at h
  simp only [Bool.and_eq_true, decide_eq_true_eq] at h
  have hl : (csL x).length = 1 := by rw [csL_len]; exact h.2
  obtain ⟨c, e⟩ := List.length_eq_one_iff.mp hl
  have := wordB_all h.1 c (by rw [e]; exact List.mem_singleton.mpr rfl)
  exact ⟨c, e, this.1, this.2, by rw [← e, cs_sL]⟩
theorem rWord_eq {x : Str} {r : List Nat} (h : wordB x = true) (hr : isD 97 122 r = false) : rWord (csL x ++ r) = .ok (csL x) r := by
  have hl := wordB_len h
  unfold rWord
  rw [scan_eq 97 122 (csL x) 8 r (wordB_all h) hl.2 (.inr hr), if_neg (by
    intro e
    rw [show csL x = [] from e] at hl
    simp at hl)]
theorem xyz_small {c : Nat} (h : 120 ≤ c ∧ c ≤ 122) : c ∈ smallS.cps.toList := by
  have : c = 120 ∨ c = 121 ∨ c = 122 := by omega
  rcases this with rfl | rfl | rfl <;> decide +kernel
theorem wordB_wordS {n : Nat} (h : n < 9800) : wordB (wordS n) = true := by
  have hl := wrd_len 8 (n + 1) (by omega)
  have hne := wordN_ne n
  have ha := wrd_all (n + 1)
  have e : (wordS n).length = (wordN n).length := by unfold wordS; rw [sL_len]
  unfold wordB
  simp only [Bool.and_eq_true, decide_eq_true_eq, List.all_eq_true]
  refine ⟨⟨?_, ?_⟩, fun c hc => xyz_small ?_⟩
  · rw [e]; exact List.length_pos_iff.mpr hne
  · rw [e]; exact hl
  · unfold wordS at hc
    rw [sL_cs] at hc
    exact ha c hc
mutual
def Pa.rt (tk : List Str) : Nat → Pa → Prop
  | _, .name x => wordB x = true ∧ x ∈ tk
  | _, .mark n => n < 10 ^ 60
  | k, .got j => j < k
  | k, .letter x b => doorB x = true ∧ Pl.rt tk k b
  | k, .wait x b => doorB x = true ∧ Pl.rt tk (k + 1) b
def Pl.rt (tk : List Str) : Nat → Pl → Prop
  | _, .nil => True
  | k, .cons c p r => (1 ≤ c ∧ c < 10 ^ 60) ∧ Pa.rt tk k p ∧ Pl.rt tk k r
end
mutual
def Pa.cat (ex : List Str) : Nat → Pa → Pa
  | k, .name x => if x ∈ ex then .got (k + ex.idxOf x) else .name x
  | _, .mark n => .mark n
  | _, .got j => .got j
  | k, .letter x b => .letter x (Pl.cat ex k b)
  | k, .wait x b => .wait x (Pl.cat ex (k + 1) b)
def Pl.cat (ex : List Str) : Nat → Pl → Pl
  | _, .nil => .nil
  | k, .cons c p r => .cons c (Pa.cat ex k p) (Pl.cat ex k r)
end
structure Wss (tk ws : List Str) : Prop where
  good : ∀ x ∈ ws, wordB x = true
  nd : ws.Nodup
  dj : ∀ x ∈ ws, x ∉ tk
theorem Wss.nil (tk : List Str) : Wss tk [] := ⟨fun _ h => (List.not_mem_nil h).elim, List.nodup_nil, fun _ h => (List.not_mem_nil h).elim⟩
theorem Wss.cons {tk ws : List Str} (h : Wss tk ws) (hl : ws.length + tk.length < 9800) : Wss tk (wordS (freeN (ws ++ tk)) :: ws) := by
  obtain ⟨f1, f2, _⟩ := freeN_spec (ws ++ tk)
  rw [List.mem_append, not_or] at f1
  rw [List.length_append] at f2
  have hw := wordB_wordS (n := freeN (ws ++ tk)) (by omega)
  refine ⟨fun x hx => ?_, List.nodup_cons.mpr ⟨f1.1, h.nd⟩, fun x hx => ?_⟩
  · rcases List.mem_cons.mp hx with rfl | z
    · exact hw
    · exact h.good x z
  · rcases List.mem_cons.mp hx with rfl | z
    · exact f1.2
    · exact h.dj x z
theorem Pa.txt_head {tk ws : List Str} (hw : ∀ x ∈ ws, wordB x = true) : ∀ {p : Pa} {k : Nat}, p.rt tk k → k ≤ ws.length → ∃ c l, p.txt tk ws = c :: l ∧ (c = 63 ∨ (97 ≤ c ∧ c ≤ 122)) := by
  have word : ∀ x : Str, wordB x = true → ∃ c l, csL x = c :: l ∧ (c = 63 ∨ (97 ≤ c ∧ c ≤ 122)) := fun x hx => by
    have hl := wordB_len hx
    have ha := wordB_all hx
    cases e : csL x with
    | nil => rw [e] at hl; simp at hl
    | cons c l => exact ⟨c, l, rfl, .inr (ha c (by rw [e]; exact .head _))⟩
  intro p k h hk
  cases p with
  | name x => exact word x h.1
  | mark n => exact ⟨63, dgt n, rfl, .inl rfl⟩
  | got j =>
    have hj : j < ws.length := Nat.lt_of_lt_of_le h hk
    show ∃ c l, csL (ws.getD j (sL [])) = _ ∧ _
    rw [List.getD_eq_getElem?_getD, List.getElem?_eq_getElem hj]
    exact word _ (hw _ (List.getElem_mem hj))
  | letter x b =>
    obtain ⟨c, e, h1, h2, _⟩ := doorB_cs h.1
    exact ⟨c, _, by rw [Pa.txt, show csL x = [c] from e]; rfl, .inr ⟨h1, h2⟩⟩
  | wait x b =>
    obtain ⟨c, e, h1, h2, _⟩ := doorB_cs h.1
    exact ⟨c, _, by rw [Pa.txt, show csL x = [c] from e]; rfl, .inr ⟨h1, h2⟩⟩
structure TR (f : Nat) (W : List Str) (t : List Nat) (p : Pa) : Prop where
  hd : ∃ c l, t = c :: l ∧ (c = 63 ∨ (97 ≤ c ∧ c ≤ 122))
  rd : ∀ r, sepC r → rP f W (t ++ r) = some (.ok p r)
theorem rNum_eq {c : Nat} {r : List Nat} (h : c < 10 ^ 60) (hr : isD 48 57 r = false) : rNum (dgt c ++ r) = (c, r) := by
  unfold rNum
  rw [scan_eq 48 57 (dgt c) 60 r (dgt_all c) (dgt_len (by decide) h) (.inr hr), dgt_val]
def itT (c : Nat) (t : List Nat) : List Nat := (if 1 < c then dgt c ++ [32] else []) ++ t
theorem itT_no {f : Nat} {W : List Str} {c : Nat} {t r : List Nat} {p : Pa} (h : TR f W t p) : ¬ isD 48 48 (itT c t ++ r) = true := by
  unfold itT
  by_cases h1 : 1 < c
  · obtain ⟨d, l, e2, h2, h3⟩ := dgt_head (n := c) (by omega)
    rw [if_pos h1, e2]
    simp only [List.cons_append, isD, Bool.and_eq_true, decide_eq_true_eq]
    omega
  · obtain ⟨d, l, e2, h2⟩ := h.hd
    rw [if_neg h1, List.nil_append, e2]
    simp only [List.cons_append, isD, Bool.and_eq_true, decide_eq_true_eq]
    omega
theorem item_rd {f : Nat} {W : List Str} {c : Nat} {t r : List Nat} {p : Pa} (h : TR f W t p) (hc : 1 ≤ c ∧ c < 10 ^ 60) (hr : sepC r) : rItem (rP f) W (itT c t ++ r) = some (.ok (c, p) r) := by
  unfold rItem itT
  by_cases h1 : 1 < c
  · rw [if_pos h1]
    have e : (dgt c ++ [32] ++ t) ++ r = dgt c ++ (32 :: (t ++ r)) := by simp
    rw [e, rNum_eq hc.2 (by rfl)]
    obtain ⟨d, l, e2, h2, h3⟩ := dgt_head (n := c) (by omega)
    have i1 : isD 49 57 (dgt c ++ (32 :: (t ++ r))) = true := by
      rw [e2]
      simp [isD, h2, h3]
    rw [if_pos i1, if_neg (by show ¬ c = 1; omega)]
    show Option.map _ (rP f W (t ++ r)) = _
    rw [h.rd r hr]
    rfl
  · rw [if_neg h1, List.nil_append]
    obtain ⟨d, l, e2, h2⟩ := h.hd
    have i1 : ¬ isD 49 57 (t ++ r) = true := by
      rw [e2]
      simp only [List.cons_append, isD, Bool.and_eq_true, decide_eq_true_eq]
      omega
    rw [if_neg i1, h.rd r hr]
    have : c = 1 := by omega
    rw [this]
    rfl
abbrev Its : Type := List (Nat × List Nat × Pa)
def Its.t (T : Its) : List (List Nat) := T.map fun i => itT i.1 i.2.1
def Its.v (T : Its) : List It := T.map fun i => (i.1, i.2.2)
def Its.rd (f : Nat) (W : List Str) (T : Its) : Prop := ∀ i ∈ T, TR f W i.2.1 i.2.2 ∧ (1 ≤ i.1 ∧ i.1 < 10 ^ 60)
theorem Its.sep {T : Its} {r : List Nat} (hr : endC r) : sepC ((Its.t T).flatMap (fun y => [32, 124, 32] ++ y) ++ r) := by
  cases T with
  | nil => exact hr.sep
  | cons i T => exact .inl rfl
theorem loop_rd {f : Nat} {W : List Str} : ∀ (T : Its), Its.rd f W T → ∀ (g : Nat) (acc : List It) (r : List Nat), List.length T < g → endC r →
    rLoop (rP f) W g acc ((Its.t T).flatMap (fun y => [32, 124, 32] ++ y) ++ r) = some (.ok (acc ++ Its.v T) r)
  | [], _, 0, acc, r, hg, hr => by simp at hg
  | _ :: _, _, 0, acc, r, hg, hr => by simp at hg
  | [], _, g + 1, acc, r, hg, hr => by
    show rLoop (rP f) W (g + 1) acc r = _
    unfold rLoop
    rw [if_neg (by rw [hr.no]; decide)]
    simp [Its.v]
  | (c, t, p) :: T, h, g + 1, acc, r, hg, hr => by
    have hi := h (c, t, p) (.head _)
    have ih := loop_rd T (fun i hi => h i (.tail _ hi)) g (acc ++ [(c, p)]) r (by simpa using hg) hr
    have it := item_rd hi.1 hi.2 (Its.sep (T := T) hr)
    have e : (Its.t ((c, t, p) :: T)).flatMap (fun y => [32, 124, 32] ++ y) ++ r = 32 :: 124 :: 32 :: (itT c t ++ ((Its.t T).flatMap (fun y => [32, 124, 32] ++ y) ++ r)) := by
      simp [Its.t]
    rw [e]
    unfold rLoop
    rw [if_pos (by simp [isD])]
    show (match rItem (rP f) W (itT c t ++ ((Its.t T).flatMap (fun y => [32, 124, 32] ++ y) ++ r)) with
      | none => none
      | some (Rd.bad s) => some (Rd.bad s)
      | some (Rd.ok i s) => rLoop (rP f) W g (acc ++ [i]) s) = _
    rw [it]
    show rLoop (rP f) W g (acc ++ [(c, p)]) _ = _
    rw [ih]
    simp [Its.v]
theorem whole_rd {f : Nat} {W : List Str} {T : Its} {r : List Nat} (h : Its.rd f W T) (hr : endC r) : rWhole (rP f) W (joinT (Its.t T) ++ r) = some (.ok (Its.v T) r) := by
  cases T with
  | nil => rfl
  | cons i T =>
    obtain ⟨c, t, p⟩ := i
    have hi := h (c, t, p) (.head _)
    have it := item_rd hi.1 hi.2 (Its.sep (T := T) hr)
    have e : joinT (Its.t ((c, t, p) :: T)) ++ r = itT c t ++ ((Its.t T).flatMap (fun y => [32, 124, 32] ++ y) ++ r) := by
      simp [Its.t, joinT]
    rw [e]
    unfold rWhole
    rw [if_neg (itT_no hi.1), it]
    show rLoop (rP f) W (_ + 1) [(c, p)] _ = _
    have hln : List.length T ≤ ((Its.t T).flatMap (fun y => [32, 124, 32] ++ y) ++ r).length := by
      have : (Its.t T).length = T.length := by simp [Its.t]
      rw [List.length_append, flat_le]
      omega
    rw [loop_rd T (fun i hi => h i (.tail _ hi)) _ _ r (by omega) hr]
    rfl
def Pl.its (tk ex ws : List Str) (k : Nat) (b : Pl) : Its := b.L.map fun i => (i.1, i.2.txt tk ws, i.2.cat ex k)
theorem Pl.its_t {tk ex ws : List Str} {k : Nat} : ∀ b : Pl, Its.t (b.its tk ex ws k) = Pl.txs tk ws b
  | .nil => rfl
  | .cons c p r => by
    have := Pl.its_t (tk := tk) (ex := ex) (ws := ws) (k := k) r
    unfold Pl.its Its.t at *
    simp only [Pl.L, List.map_cons, Pl.txs, this]
    rfl
theorem Pl.its_v {tk ex ws : List Str} {k : Nat} : ∀ b : Pl, Its.v (b.its tk ex ws k) = (b.cat ex k).L
  | .nil => rfl
  | .cons c p r => by
    have := Pl.its_v (tk := tk) (ex := ex) (ws := ws) (k := k) r
    unfold Pl.its Its.v at *
    simp only [Pl.L, List.map_cons, Pl.cat, this]
theorem plan_rd {tk ex ws : List Str} {f k : Nat} {b : Pl} {r : List Nat} (h : Its.rd f (ws ++ ex) (b.its tk ex ws k)) (hr : endC r) : rWhole (rP f) (ws ++ ex) (b.txt tk ws ++ r) = some (.ok (b.cat ex k).L r) := by
  have := whole_rd h hr
  rw [Pl.its_t, Pl.its_v] at this
  exact this
theorem isD_q {c : Nat} {l : List Nat} (h : 97 ≤ c ∧ c ≤ 122) : ¬ isD 63 63 (c :: l) = true := by
  simp only [isD, Bool.and_eq_true, decide_eq_true_eq]
  omega
theorem word_rd {ws : List Str} {P : RP} {x : Str} {r : List Nat} (hx : wordB x = true) (hr : sepC r) : rPart P ws (csL x ++ r) = (if x ∈ ws then some (.ok (.got (ws.idxOf x)) r) else some (.ok (.name x) r)) := by
  have hl := wordB_len hx
  have ha := wordB_all hx
  have nq : ¬ isD 63 63 (csL x ++ r) = true := by
    cases e : csL x with
    | nil => rw [e] at hl; simp at hl
    | cons c l => exact isD_q (ha c (by rw [e]; exact .head _))
  unfold rPart
  rw [if_neg nq, rWord_eq hx (hr.no (by omega) (by omega) (by omega))]
  simp only
  rw [if_neg (by rw [hr.no (a := 60) (b := 60) (by omega) (by omega) (by omega)]; simp), if_neg (by rw [hr.no (a := 40) (b := 40) (by omega) (by omega) (by omega)]; simp), show sL (csL x) = x from cs_sL x]
theorem letter_rd {ws : List Str} {P : RP} {x : Str} {t r : List Nat} {L : List It} (hx : doorB x = true) (h : rWhole P ws (t ++ 62 :: r) = some (.ok L (62 :: r))) : rPart P ws (csL x ++ [60] ++ t ++ [62] ++ r) = some (.ok (.letter x (ofL L)) r) := by
  obtain ⟨c, e, h1, h2, e3⟩ := doorB_cs hx
  have hw : wordB x = true := by unfold doorB at hx; simp only [Bool.and_eq_true] at hx; exact hx.1
  have e4 : csL x ++ [60] ++ t ++ [62] ++ r = csL x ++ (60 :: (t ++ 62 :: r)) := by simp
  rw [e4]
  unfold rPart
  rw [if_neg (by rw [show csL x = [c] from e]; exact isD_q ⟨h1, h2⟩), rWord_eq hw rfl]
  simp only
  rw [if_pos ⟨by rw [show csL x = [c] from e]; rfl, rfl⟩]
  show (match rWhole P ws (t ++ 62 :: r) with
        | none => none
        | some (.bad s) => some (Rd.bad s)
        | some (.ok L s) => (match rTake [62] s with
          | .bad q => some (Rd.bad q)
          | .ok _ q => some (Rd.ok (Pa.letter (sL (csL x)) (ofL L)) q))) = _
  rw [h, show sL (csL x) = x from cs_sL x]
  rfl
theorem wait_rd {ws : List Str} {P : RP} {x b : Str} {t r : List Nat} {L : List It} (hx : doorB x = true) (hb : wordB b = true) (h : rBody P (b :: ws) (t ++ r) = some (.ok L r)) : rPart P ws (csL x ++ [40] ++ csL b ++ [41, 58, 32] ++ t ++ r) = some (.ok (.wait x (ofL L)) r) := by
  obtain ⟨c, e, h1, h2, e3⟩ := doorB_cs hx
  have hw : wordB x = true := by unfold doorB at hx; simp only [Bool.and_eq_true] at hx; exact hx.1
  have e4 : csL x ++ [40] ++ csL b ++ [41, 58, 32] ++ t ++ r = csL x ++ (40 :: (csL b ++ (41 :: 58 :: 32 :: (t ++ r)))) := by simp
  rw [e4]
  unfold rPart
  rw [if_neg (by rw [show csL x = [c] from e]; exact isD_q ⟨h1, h2⟩), rWord_eq hw rfl]
  simp only
  rw [if_neg (by simp [isD]), if_pos ⟨by rw [show csL x = [c] from e]; rfl, rfl⟩]
  simp only [List.tail_cons]
  rw [rWord_eq hb rfl]
  show (rBody P (sL (csL b) :: ws) (t ++ r)).map _ = _
  rw [show sL (csL b) = b from cs_sL b, h, show sL (csL x) = x from cs_sL x]
  rfl
theorem body_rd {tk ex ws : List Str} {f k : Nat} {b : Pl} {r : List Nat} (h : Its.rd f (ws ++ ex) (b.its tk ex ws k)) (hr : sepC r) : rBody (rP f) (ws ++ ex) ((if brk b then [40] ++ b.txt tk ws ++ [41] else b.txt tk ws) ++ r) = some (.ok (b.cat ex k).L r) := by
  cases hb : brk b with
  | true =>
    rw [if_pos rfl]
    have e : [40] ++ b.txt tk ws ++ [41] ++ r = 40 :: (b.txt tk ws ++ 41 :: r) := by simp
    rw [e]
    unfold rBody
    rw [if_neg (by simp [isD]), if_pos (by simp [isD])]
    simp only [List.tail_cons]
    rw [plan_rd h (show endC (41 :: r) from .inl rfl)]
    rfl
  | false =>
    rw [if_neg (by decide)]
    match b, h, hb with
    | .nil, h, hb => rfl
    | .cons c p .nil, h, hb =>
      have hi : TR f (ws ++ ex) (p.txt tk ws) (p.cat ex k) ∧ (1 ≤ c ∧ c < 10 ^ 60) := h (c, p.txt tk ws, p.cat ex k) (.head _)
      have hc : c = 1 := by
        have h1 := hi.2.1
        have h2 : c + 0 ≤ 1 := by
          have : (decide (1 < (Pl.cons c p .nil).ds.length) || decide (1 < c + 0)) = false := hb
          simp only [Bool.or_eq_false_iff, decide_eq_false_iff_not] at this
          exact Nat.le_of_not_lt this.2
        omega
      subst hc
      have e : Pl.txt tk ws (.cons 1 p .nil) = p.txt tk ws := by simp [Pl.txt, Pl.txs, joinT]
      rw [e]
      obtain ⟨d, l, e2, h2⟩ := hi.1.hd
      have z1 : ¬ isD 48 48 (p.txt tk ws ++ r) = true := by
        rw [e2]
        simp only [List.cons_append, isD, Bool.and_eq_true, decide_eq_true_eq]
        omega
      have z2 : ¬ isD 40 40 (p.txt tk ws ++ r) = true := by
        rw [e2]
        simp only [List.cons_append, isD, Bool.and_eq_true, decide_eq_true_eq]
        omega
      unfold rBody
      rw [if_neg z1, if_neg z2, hi.1.rd r hr]
      rfl
    | .cons c p (.cons c2 p2 b2), h, hb =>
      simp [brk, Pl.ds] at hb
mutual
theorem Pa.rd (tk ex : List Str) : ∀ (p : Pa) (f k : Nat) (ws : List Str), p.dep < f → k = ws.length → p.rt tk k → Wss tk ws → ws.length + p.dep + tk.length ≤ 9000 → ∀ r, sepC r → rP f (ws ++ ex) (p.txt tk ws ++ r) = some (.ok (p.cat ex k) r)
  | p, 0, k, ws, hf, hk, hp, hW, hl => by omega
  | .name x, f + 1, k, ws, hf, hk, hp, hW, hl => fun r hr => by
    show rPart (rP f) (ws ++ ex) (csL x ++ r) = _
    have hn : x ∉ ws := fun h => hW.dj x h hp.2
    rw [word_rd hp.1 hr]
    by_cases h : x ∈ ex
    · rw [if_pos (List.mem_append.mpr (.inr h)), List.idxOf_append, if_neg hn, Pa.cat, if_pos h, hk, Nat.add_comm]
    · rw [if_neg (by rw [List.mem_append, not_or]; exact ⟨hn, h⟩), Pa.cat, if_neg h]
  | .mark n, f + 1, k, ws, hf, hk, hp, hW, hl => fun r hr => by
    show rPart (rP f) (ws ++ ex) (63 :: (dgt n ++ r)) = _
    unfold rPart
    rw [if_pos (by simp [isD]), List.tail_cons]
    unfold rMark
    by_cases h0 : n = 0
    · subst h0
      rw [show dgt 0 = [48] from rfl]
      rfl
    · obtain ⟨d, l, e2, h2, h3⟩ := dgt_head (n := n) (by omega)
      rw [if_neg (by
        rw [e2]
        simp only [List.cons_append, isD, Bool.and_eq_true, decide_eq_true_eq]
        omega), if_pos (by rw [e2]; simp [isD, h2, h3]), rNum_eq hp (hr.no (by omega) (by omega) (by omega))]
      rfl
  | .got j, f + 1, k, ws, hf, hk, hp, hW, hl => fun r hr => by
    have hj : j < ws.length := hk ▸ hp
    have e : Pa.txt tk ws (.got j) = csL ws[j] := by
      rw [Pa.txt, List.getD_eq_getElem?_getD, List.getElem?_eq_getElem hj]
      rfl
    show rPart (rP f) (ws ++ ex) (Pa.txt tk ws (.got j) ++ r) = _
    have hm := List.getElem_mem hj
    rw [e, word_rd (hW.good _ hm) hr, if_pos (List.mem_append.mpr (.inl hm)), List.idxOf_append, if_pos hm, List.Nodup.idxOf_getElem hW.nd j hj]
    rfl
  | .letter x b, f + 1, k, ws, hf, hk, hp, hW, hl => fun r hr => by
    have hd : b.dep < f := by simp only [Pa.dep] at hf; omega
    have ir := Pl.rd tk ex b f k ws hd hk hp.2 hW (by simp only [Pa.dep] at hl; omega)
    have wr := plan_rd ir (show endC (62 :: r) from .inr rfl)
    have := letter_rd (r := r) hp.1 wr
    rw [ofL_L] at this
    exact this
  | .wait x b, f + 1, k, ws, hf, hk, hp, hW, hl => fun r hr => by
    have hd : b.dep < f := by simp only [Pa.dep] at hf; omega
    simp only [Pa.dep] at hl
    have hW2 := hW.cons (by omega)
    have ir := Pl.rd tk ex b f (k + 1) (wordS (freeN (ws ++ tk)) :: ws) hd (by rw [List.length_cons, hk]) hp.2 hW2 (by rw [List.length_cons]; omega)
    have br := body_rd ir hr
    have := wait_rd hp.1 (hW2.good _ (.head _)) br
    rw [ofL_L] at this
    exact this
theorem Pl.rd (tk ex : List Str) : ∀ (b : Pl) (f k : Nat) (ws : List Str), b.dep < f → k = ws.length → b.rt tk k → Wss tk ws → ws.length + b.dep + tk.length ≤ 9000 → Its.rd f (ws ++ ex) (b.its tk ex ws k)
  | .nil, f, k, ws, hf, hk, hp, hW, hl => fun i hi => by cases hi
  | .cons c p r, f, k, ws, hf, hk, hp, hW, hl => fun i hi => by
    simp only [Pl.dep] at hf hl
    have h1 := Pa.rd tk ex p f k ws (by omega) hk hp.2.1 hW (by omega)
    have h2 := Pl.rd tk ex r f k ws (by omega) hk hp.2.2 hW (by omega)
    rcases List.mem_cons.mp hi with rfl | z
    · exact ⟨⟨Pa.txt_head hW.good hp.2.1 (Nat.le_of_eq hk), h1⟩, hp.1⟩
    · exact h2 i z
end
mutual
def Pa.nd : Pa → Nat
  | .letter _ b => 1 + b.nd
  | .wait _ b => 1 + b.nd
  | _ => 1
def Pl.nd : Pl → Nat
  | .nil => 0
  | .cons _ p r => p.nd + r.nd
end
theorem joinT_le {l : List (List Nat)} : (joinT l).length ≤ l.flatten.length + 3 * l.length + 1 := by
  cases l with
  | nil => simp [joinT]
  | cons x r =>
    have := joinT_len (l := x :: r) (by simp)
    omega
mutual
theorem Pa.txt_le (tk : List Str) : ∀ (p : Pa) (k : Nat) (ws : List Str), k = ws.length → p.rt tk k → (∀ x ∈ ws, wordB x = true) → ws.length + p.dep + tk.length ≤ 9000 → (p.txt tk ws).length + 100 ≤ 200 * p.nd
  | .name x, k, ws, hk, hp, hw, hl => by
    have := wordB_len hp.1
    simp only [Pa.txt, Pa.nd]
    omega
  | .mark n, k, ws, hk, hp, hw, hl => by
    have := dgt_len (n := n) (k := 60) (by decide) hp
    simp only [Pa.txt, Pa.nd, List.length_cons]
    omega
  | .got j, k, ws, hk, hp, hw, hl => by
    have hj : j < ws.length := hk ▸ hp
    have e : Pa.txt tk ws (.got j) = csL ws[j] := by
      rw [Pa.txt, List.getD_eq_getElem?_getD, List.getElem?_eq_getElem hj]
      rfl
    have := wordB_len (hw _ (List.getElem_mem hj))
    rw [e]
    simp only [Pa.nd]
    omega
  | .letter x b, k, ws, hk, hp, hw, hl => by
    obtain ⟨c, e, h1, h2, e3⟩ := doorB_cs hp.1
    simp only [Pa.dep] at hl
    have h3 := Pl.txs_le tk b k ws hk hp.2 hw (by omega)
    have h4 := joinT_le (l := Pl.txs tk ws b)
    simp only [Pa.txt, Pa.nd, List.length_append, show csL x = [c] from e, List.length_cons, List.length_nil]
    omega
  | .wait x b, k, ws, hk, hp, hw, hl => by
    obtain ⟨c, e, h1, h2, e3⟩ := doorB_cs hp.1
    simp only [Pa.dep] at hl
    obtain ⟨_, f2, _⟩ := freeN_spec (ws ++ tk)
    rw [List.length_append] at f2
    have hwd := wordB_wordS (n := freeN (ws ++ tk)) (by omega)
    have hwl := wordB_len hwd
    have h3 := Pl.txs_le tk b (k + 1) (wordS (freeN (ws ++ tk)) :: ws) (by rw [List.length_cons, hk]) hp.2 (fun y hy => by
      rcases List.mem_cons.mp hy with rfl | z
      · exact hwd
      · exact hw y z) (by rw [List.length_cons]; omega)
    have h4 := joinT_le (l := Pl.txs tk (wordS (freeN (ws ++ tk)) :: ws) b)
    simp only [Pa.txt, Pa.nd, List.length_append, show csL x = [c] from e, List.length_cons, List.length_nil]
    split
    · simp only [List.length_append, List.length_cons, List.length_nil]
      omega
    · omega
theorem Pl.txs_le (tk : List Str) : ∀ (b : Pl) (k : Nat) (ws : List Str), k = ws.length → b.rt tk k → (∀ x ∈ ws, wordB x = true) → ws.length + b.dep + tk.length ≤ 9000 → (Pl.txs tk ws b).flatten.length + 3 * (Pl.txs tk ws b).length ≤ 200 * b.nd
  | .nil, k, ws, hk, hp, hw, hl => by simp [Pl.txs]
  | .cons c p r, k, ws, hk, hp, hw, hl => by
    simp only [Pl.dep] at hl
    have h1 := Pa.txt_le tk p k ws hk hp.2.1 hw (by omega)
    have h2 := Pl.txs_le tk r k ws hk hp.2.2 hw (by omega)
    have h3 := dgt_len (n := c) (k := 60) (by decide) hp.1.2
    simp only [Pl.txs, Pl.nd, List.flatten_cons, List.length_append, List.length_cons]
    split
    · simp only [List.length_append, List.length_cons, List.length_nil]
      omega
    · simp only [List.length_nil]
      omega
end
theorem Pl.txt_le {tk ws : List Str} {b : Pl} {k : Nat} (hk : k = ws.length) (hp : b.rt tk k) (hw : ∀ x ∈ ws, wordB x = true) (hl : ws.length + b.dep + tk.length ≤ 9000) : (b.txt tk ws).length ≤ 200 * b.nd + 1 := by
  have h3 := Pl.txs_le tk b k ws hk hp hw hl
  have h4 := joinT_le (l := Pl.txs tk ws b)
  unfold Pl.txt
  omega
end Dl
namespace Dl
open PySem PySem.Spec PyProof.Rows L2 NdefX
end Dl
namespace Dl
open PySem PySem.Spec PyProof.Rows L2 NdefX
theorem within1_spec {q : Pa} {b : Pl} {f : Pl → Pa} (h : within1 q = some (b, f)) (k : Nat) : q = f b ∧ (∀ b', within1 (f b') = some (b', f)) ∧ (∀ b', (f b').size = b'.size + 1) ∧ (∀ b', (f b').within = b'.within) ∧ (∀ b', (f b').dep = b'.dep + 1) ∧
    ∃ k', (q.ok k = true → b.ok k' = true ∧ ∀ b', b'.ok k' = true → (f b').ok k = true) := by
  cases q with
  | letter x c =>
    cases h
    exact ⟨rfl, fun _ => rfl, fun _ => rfl, fun _ => rfl, fun _ => rfl, k, fun h => by
      simp only [Pa.ok, Bool.and_eq_true] at h
      exact ⟨h.2, fun b' hb => by simp [Pa.ok, h.1, hb]⟩⟩
  | wait x c =>
    cases h
    exact ⟨rfl, fun _ => rfl, fun _ => rfl, fun _ => rfl, fun _ => rfl, k + 1, fun h => by
      simp only [Pa.ok, Bool.and_eq_true] at h
      exact ⟨h.2, fun b' hb => by simp [Pa.ok, h.1, hb]⟩⟩
  | name x => cases h
  | mark x => cases h
  | got x => cases h
def Mv.nm : Mv → Str
  | .swap _ => "swap"
  | .join _ => "join"
  | .split _ _ => "split"
  | .fold _ => "fold"
  | .unfold _ _ => "unfold"
def Mv.args : Mv → List D
  | .swap i => [.int i]
  | .join i => [.int i]
  | .split i k => [.int i, .int k]
  | .fold i => [.int i]
  | .unfold i k => [.int i, .int k]
def natsD (l : List Nat) : List D := l.map fun (n : Nat) => D.int (n : Int)
def Mv.d (s : Mv) (pl : List Nat) : D := .tup (.str s.nm :: .tup (natsD pl) :: s.args)
section
variable {A B : List D} {x y : D} {i : Nat}
end
end Dl
namespace Dl
open PySem PySem.Spec PyProof.Rows L2 NdefX
@[irreducible] def capN : Nat := 2 ^ 4000
structure HasT (tbl : Nat → Option DefB) : Prop extends HasR tbl, HasZ0 tbl where
  t78 : tbl 78 = some ⟨2, 2, b_joined_pair⟩
  t79 : tbl 79 = some ⟨2, 4, b_split_item⟩
  t80 : tbl 80 = some ⟨1, 6, b_folded_item⟩
  t81 : tbl 81 = some ⟨2, 5, b_unfolded_item⟩
  t82 : tbl 82 = some ⟨3, 7, b_done_at⟩
  t83 : tbl 83 = some ⟨2, 6, b_done_here⟩
  t84 : tbl 84 = some ⟨1, 2, b_has_step_form⟩
  t85 : tbl 85 = some ⟨2, 3, b_step_done⟩
  t96 : tbl 96 = some ⟨2, 3, b_stepped⟩
section
variable {tbl : Nat → Option DefB} (T : HasT tbl) {w : World} (hw : allL w = true) {n : Nat}
include T
include hw
omit T hw
structure Dim (p : Pl) : Prop where
  ok : ∃ k, p.ok k = true
  size : p.size ≤ capN
  len : p.within.length ≤ 5000
  dep : p.dep ≤ 50
theorem Dim.item {p : Pl} (h : Dim p) {A B : List It} {a : It} (e : p.L = A ++ a :: B) : (∃ k, okI k a = true) ∧ a.1 * a.2.size ≤ capN ∧ 1 ≤ a.1 ∧ a.1 ≤ capN ∧ a.2.size ≤ capN ∧ a.2.within.length ≤ 5000 ∧ a.2.dep ≤ 50 ∧ A.length + B.length + 1 ≤ 5000 := by
  obtain ⟨k, ok⟩ := h.ok
  have hs := h.size
  have hl := h.len
  have hd := h.dep
  rw [ok_L, e] at ok
  simp only [List.all_append, List.all_cons, Bool.and_eq_true] at ok
  rw [size_L, e] at hs
  rw [within_L, e] at hl
  rw [dep_L, e, deL_app] at hd
  simp at hs hl
  simp only [deL] at hd
  have o := ok.2.1
  simp only [okI, Bool.and_eq_true, decide_eq_true_eq] at o
  have h1 : a.1 * 1 ≤ a.1 * a.2.size := Nat.mul_le_mul_left _ (psize_pos a.2)
  have h2 : 1 * a.2.size ≤ a.1 * a.2.size := Nat.mul_le_mul_right _ o.1
  have lw : ∀ l : List It, l.length ≤ wiL l := fun l => by
    induction l with
    | nil => exact Nat.le_refl _
    | cons x l ih => simp; omega
  have := lw A
  have := lw B
  exact ⟨⟨k, ok.2.1⟩, by omega, o.1, by omega, by omega, by omega, by omega, by omega⟩
include T hw
end
end Dl
namespace Dl
open PySem PySem.Spec PyProof.Rows L2 NdefX
theorem Dim.inner {p b : Pl} {q : Pa} {f : Pl → Pa} {c i : Nat} (h : Dim p) (e : p.L[i]? = some (c, q)) (ew : within1 q = some (b, f)) : Dim b := by
  obtain ⟨ec, hl⟩ := cut_at e
  obtain ⟨⟨k, o⟩, h1, h2, h3, h4, h5, h6, h7⟩ := h.item ec
  simp only [okI, Bool.and_eq_true] at o
  obtain ⟨w1, w2, w3, w4, w5, k', w6⟩ := within1_spec ew k
  rw [w1] at h4 h5 h6
  simp only [w3, w4, w5] at h4 h5 h6
  exact ⟨⟨k', (w6 o.2).1⟩, by omega, h5, by omega⟩
section
variable {tbl : Nat → Option DefB} (T : HasT tbl) {w : World} (hw : allL w = true)
include T hw
end
end Dl
namespace Dl
open PySem PySem.Spec PyProof.Rows L2 NdefX
structure HasLS27 (tbl : Nat → Option DefB) : Prop where
  t88 : tbl 88 = some ⟨3, 6, b__law_raise⟩
  t89 : tbl 89 = some ⟨2, 10, b__law_step⟩
section
variable {tbl : Nat → Option DefB} (T : HasLS27 tbl) {w : World} {a : Nat}
include T
end
section
variable {tbl : Nat → Option DefB} (T : HasLS27 tbl) {w : World} {n : Nat}
include T
end
end Dl
namespace Dl
open PySem PySem.Spec PyProof.Rows L2 NdefX
section
variable {tbl : Nat → Option DefB} (T : HasLS27 tbl) {w : World}
include T
end
def subAt : Pl → List Nat → Option Pl
  | p, [] => some p
  | p, i :: pl => match p.L[i]? with
    | some (_, q) => (match within1 q with
      | some (b, _) => subAt b pl
      | none => none)
    | none => none
theorem Dim.sub : ∀ (pl : List Nat) {p q : Pl}, Dim p → subAt p pl = some q → Dim q
  | [], p, q, D, h => by cases h; exact D
  | i :: pl, p, q, D, h => by
    unfold subAt at h
    cases e1 : p.L[i]? with
    | none => rw [e1] at h; cases h
    | some cq =>
      obtain ⟨c, r⟩ := cq
      rw [e1] at h
      simp only at h
      cases ew : within1 r with
      | none => rw [ew] at h; cases h
      | some bf =>
        obtain ⟨b, f⟩ := bf
        rw [ew] at h
        exact Dim.sub pl (D.inner e1 ew) h
structure HasU (tbl : Nat → Option DefB) : Prop where
  t97 : tbl 97 = some ⟨2, 5, b__law_undoing⟩
section
variable {tbl : Nat → Option DefB} (T : HasU tbl) {w : World}
include T
end
end Dl
namespace Dl
open PySem PySem.Spec PyProof.Rows L2 NdefX
inductive Lb where
  | w (x : Str) | m (n : Nat)
def Lb.d : Lb → D
  | .w x => .str x
  | .m n => .int (n : Int)
def Lb.ok : Lb → Bool
  | .w x => wordB x
  | .m _ => true
mutual
def Pa.of (A : List Lb) (B : Nat) : Nat → Pa → Prop
  | _, .name x => wordB x = true ∧ Lb.w x ∈ A
  | _, .mark n => Lb.m n ∈ A
  | k, .got j => j < k
  | k, .letter x b => doorB x = true ∧ Pl.of A B k b
  | k, .wait x b => doorB x = true ∧ Pl.of A B (k + 1) b
def Pl.of (A : List Lb) (B : Nat) : Nat → Pl → Prop
  | _, .nil => True
  | k, .cons c p r => (1 ≤ c ∧ c < B) ∧ Pa.of A B k p ∧ Pl.of A B k r
end
structure HasLR (tbl : Nat → Option DefB) : Prop extends HasPk tbl, HasLS tbl where
  t86 : tbl 86 = some ⟨5, 8, b__law_part_86⟩
  t87 : tbl 87 = some ⟨5, 9, b__law_plan_87⟩
section
variable {tbl : Nat → Option DefB} (T : HasLR tbl) {z : Str} {A : List Lb}
include T
end
end Dl
namespace Dl
open PySem PySem.Spec PyProof.Rows L2 NdefX
mutual
def Pa.key : Pa → D
  | .name x => .tup [.int 1, .int 0, .str x, .tup []]
  | .mark n => .tup [.int 1, .int 1, .int n, .tup []]
  | .got n => .tup [.int 1, .int 2, .int n, .tup []]
  | .letter x b => .tup [.int ((b.size + 1 : Nat) : Int), .int 3, .str x, .tup b.keys]
  | .wait x b => .tup [.int ((b.size + 1 : Nat) : Int), .int 4, .str x, .tup b.keys]
def Pl.keys : Pl → List D
  | .nil => []
  | .cons c p r => .tup [p.key, .int c] :: r.keys
end
def Cmp (x y : PyData) (e : Prop) : Prop := (e ∧ PyData.eqv x y = true ∧ PyData.eqv y x = true ∧ pLt x y = some false ∧ pLt y x = some false) ∨
  (¬ e ∧ PyData.eqv x y = false ∧ PyData.eqv y x = false ∧ ((pLt x y = some true ∧ pLt y x = some false) ∨ (pLt x y = some false ∧ pLt y x = some true)))
def CmpS (x y : List PyData) (e : Prop) : Prop := (e ∧ PyData.eqvAll x y = true ∧ PyData.eqvAll y x = true ∧ pLts x y = some false ∧ pLts y x = some false) ∨
  (¬ e ∧ PyData.eqvAll x y = false ∧ PyData.eqvAll y x = false ∧ ((pLts x y = some true ∧ pLts y x = some false) ∨ (pLts x y = some false ∧ pLts y x = some true)))
theorem Cmp.iff {x y : PyData} {a b : Prop} (h : Cmp x y a) (e : a ↔ b) : Cmp x y b := by
  rcases h with ⟨h1, h2⟩ | ⟨h1, h2⟩
  · exact .inl ⟨e.mp h1, h2⟩
  · exact .inr ⟨fun z => h1 (e.mpr z), h2⟩
theorem CmpS.iff {x y : List PyData} {a b : Prop} (h : CmpS x y a) (e : a ↔ b) : CmpS x y b := by
  rcases h with ⟨h1, h2⟩ | ⟨h1, h2⟩
  · exact .inl ⟨e.mp h1, h2⟩
  · exact .inr ⟨fun z => h1 (e.mpr z), h2⟩
theorem cmp_tuple {xs ys : List PyData} {e : Prop} (h : CmpS xs ys e) : Cmp (.tuple xs) (.tuple ys) e := by
  rcases h with ⟨h1, h2, h3, h4, h5⟩ | ⟨h1, h2, h3, h4⟩
  · exact .inl ⟨h1, by simpa [PyData.eqv] using h2, by simpa [PyData.eqv] using h3, by simpa [pLt] using h4, by simpa [pLt] using h5⟩
  · exact .inr ⟨h1, by simpa [PyData.eqv] using h2, by simpa [PyData.eqv] using h3, by simpa [pLt] using h4⟩
theorem cmpS_nil : CmpS [] [] True := .inl ⟨trivial, rfl, rfl, rfl, rfl⟩
theorem cmpS_nc {y : PyData} {ys : List PyData} : CmpS [] (y :: ys) False := .inr ⟨id, rfl, rfl, .inl ⟨rfl, rfl⟩⟩
theorem cmpS_cn {y : PyData} {ys : List PyData} : CmpS (y :: ys) [] False := .inr ⟨id, rfl, rfl, .inr ⟨rfl, rfl⟩⟩
theorem cmpS_cons {x y : PyData} {xs ys : List PyData} {a b : Prop} (h : Cmp x y a) (t : a → CmpS xs ys b) : CmpS (x :: xs) (y :: ys) (a ∧ b) := by
  rcases h with ⟨h1, h2, h3, h4, h5⟩ | ⟨h1, h2, h3, h4⟩
  · rcases t h1 with ⟨g1, g2, g3, g4, g5⟩ | ⟨g1, g2, g3, g4⟩
    · exact .inl ⟨⟨h1, g1⟩, by simp [PyData.eqvAll, h2, g2], by simp [PyData.eqvAll, h3, g3], by simp [pLts, h2, g4], by simp [pLts, h3, g5]⟩
    · exact .inr ⟨fun z => g1 z.2, by simp [PyData.eqvAll, g2], by simp [PyData.eqvAll, g3], by simpa [pLts, h2, h3] using g4⟩
  · exact .inr ⟨fun z => h1 z.1, by simp [PyData.eqvAll, h2], by simp [PyData.eqvAll, h3], by simpa [pLts, h2, h3] using h4⟩
theorem cmp_int {i j : Int} : Cmp (.int i) (.int j) (i = j) := by
  by_cases h : i = j
  · subst h
    exact .inl ⟨rfl, by simp [PyData.eqv], by simp [PyData.eqv], by simp [pLt], by simp [pLt]⟩
  · have h' : ¬ j = i := fun z => h z.symm
    refine .inr ⟨h, by simp [PyData.eqv, h], by simp [PyData.eqv, h'], ?_⟩
    by_cases q : i < j
    · have : ¬ j < i := by omega
      exact .inl ⟨by simp [pLt, q], by simp [pLt]; omega⟩
    · have : j < i := by omega
      exact .inr ⟨by simp [pLt]; omega, by simp [pLt, this]⟩
theorem cmp_str {x y : Str} : Cmp (.str x) (.str y) (x = y) := by
  have irr : ∀ l : List Nat, ¬ l < l := fun l => List.lt_irrefl l
  by_cases h : x = y
  · subst h
    exact .inl ⟨rfl, by simp [PyData.eqv], by simp [PyData.eqv], by simp [pLt, irr], by simp [pLt, irr]⟩
  · have h' : ¬ y = x := fun z => h z.symm
    refine .inr ⟨h, by simp [PyData.eqv, h], by simp [PyData.eqv, h'], ?_⟩
    by_cases q : x.cps.toList < y.cps.toList
    · have : ¬ y.cps.toList < x.cps.toList := fun z => irr _ (List.lt_trans q z)
      exact .inl ⟨by simp only [pLt, q, decide_true], by simp only [pLt, this, decide_false]⟩
    · have : y.cps.toList < x.cps.toList := by
        refine Classical.byContradiction fun z => h ?_
        have e := List.le_antisymm (List.not_lt.mp z) (List.not_lt.mp q)
        obtain ⟨⟨a⟩⟩ := x
        obtain ⟨⟨b⟩⟩ := y
        simp only at e
        rw [e]
      exact .inr ⟨by simp only [pLt, q, decide_false], by simp only [pLt, this, decide_true]⟩
theorem cmp_none {s1 s2 r1 r2 : Int} {k l : List PyData} (h : r1 ≠ r2) : Cmp (.tuple (.int s1 :: .int r1 :: k)) (.tuple (.int s2 :: .int r2 :: l)) False :=
  (cmp_tuple (cmpS_cons cmp_int fun _ => cmpS_cons (b := False) cmp_int fun z => absurd z h)).iff (by simp)
theorem cmp_leaf {s r : Int} {x y : PyData} {e : Prop} (h : Cmp x y e) : Cmp (.tuple [.int s, .int r, x, .tuple []]) (.tuple [.int s, .int r, y, .tuple []]) e :=
  (cmp_tuple (cmpS_cons cmp_int fun _ => cmpS_cons cmp_int fun _ => cmpS_cons h fun _ => cmpS_cons (cmp_tuple cmpS_nil) fun _ => cmpS_nil)).iff (by simp)
theorem cmp_body {s1 s2 : Int} {r : Int} {x y : Str} {k l : List PyData} {e : Prop} (h : CmpS k l e) (hs : e → s1 = s2) : Cmp (.tuple [.int s1, .int r, .str x, .tuple k]) (.tuple [.int s2, .int r, .str y, .tuple l]) (x = y ∧ e) :=
  (cmp_tuple (cmpS_cons cmp_int fun _ => cmpS_cons cmp_int fun _ => cmpS_cons cmp_str fun _ => cmpS_cons (cmp_tuple h) fun _ => cmpS_nil)).iff ⟨fun z => ⟨z.2.2.1, z.2.2.2.1⟩, fun z => ⟨hs z.2, rfl, z.1, z.2, trivial⟩⟩
mutual
theorem Pa.cmp : ∀ p q : Pa, Cmp p.key.py q.key.py (p = q)
  | .name x, q => by
    cases q with
    | name y => exact (cmp_leaf cmp_str).iff (by simp)
    | _ => exact (cmp_none (by decide)).iff (by simp)
  | .mark x, q => by
    cases q with
    | mark y => exact (cmp_leaf cmp_int).iff (by simp; omega)
    | _ => exact (cmp_none (by decide)).iff (by simp)
  | .got x, q => by
    cases q with
    | got y => exact (cmp_leaf cmp_int).iff (by simp; omega)
    | _ => exact (cmp_none (by decide)).iff (by simp)
  | .letter x b, q => by
    cases q with
    | letter y c => exact (cmp_body (Pl.cmp b c) (fun z => by rw [z])).iff (by simp)
    | _ => exact (cmp_none (by decide)).iff (by simp)
  | .wait x b, q => by
    cases q with
    | wait y c => exact (cmp_body (Pl.cmp b c) (fun z => by rw [z])).iff (by simp)
    | _ => exact (cmp_none (by decide)).iff (by simp)
theorem Pl.cmp : ∀ a b : Pl, CmpS (D.pyAll a.keys) (D.pyAll b.keys) (a = b)
  | .nil, b => by
    cases b with
    | nil => exact cmpS_nil.iff (by simp)
    | cons c p r => exact cmpS_nc.iff (by simp)
  | .cons c p r, b => by
    cases b with
    | nil => exact cmpS_cn.iff (by simp)
    | cons d q s => exact (cmpS_cons (cmp_tuple (cmpS_cons (Pa.cmp p q) fun _ => cmpS_cons (cmp_int (i := c) (j := d)) fun _ => cmpS_nil)) fun _ => Pl.cmp r s).iff ⟨fun ⟨⟨h1, h2, _⟩, h3⟩ => by rw [h1, Int.ofNat_inj.mp h2, h3], fun z => by cases z; exact ⟨⟨rfl, rfl, trivial⟩, rfl⟩⟩
end
theorem key_tup (p : Pa) : ∃ r, p.key.py = .tuple (.int (p.size : Int) :: r) := by
  cases p <;> exact ⟨_, rfl⟩
def klt (p q : Pa) : Bool := tokLt p.key.py q.key.py
theorem klt_of {p q : Pa} {k : Bool} (h : pLt p.key.py q.key.py = some k) : klt p q = k := by
  obtain ⟨r, e1⟩ := key_tup p
  obtain ⟨s, e2⟩ := key_tup q
  unfold klt
  rw [e1, e2] at h ⊢
  exact pLt_tok h
theorem klt_self (p : Pa) : klt p p = false := by
  rcases Pa.cmp p p with ⟨_, _, _, h, _⟩ | ⟨h, _⟩
  · exact klt_of h
  · exact absurd rfl h
theorem klt_tri (p q : Pa) : p = q ∨ (klt p q = true ∧ klt q p = false) ∨ (klt p q = false ∧ klt q p = true) := by
  rcases Pa.cmp p q with ⟨h, _⟩ | ⟨_, _, _, h | h⟩
  · exact .inl h
  · exact .inr (.inl ⟨klt_of h.1, klt_of h.2⟩)
  · exact .inr (.inr ⟨klt_of h.1, klt_of h.2⟩)
theorem klt_ne {p q : Pa} (h : klt p q = true) : p ≠ q := fun e => by rw [e, klt_self] at h; cases h
theorem klt_asym {p q : Pa} (h : klt p q = true) : klt q p = false := tokLt_swo.asym _ _ h
theorem klt_neg {p q r : Pa} (h1 : klt q p = false) (h2 : klt r q = false) : klt r p = false := tokLt_swo.tr _ _ _ h1 h2
theorem klt_trans {p q r : Pa} (h1 : klt p q = true) (h2 : klt q r = true) : klt p r = true := by
  rcases klt_tri p r with h | h | h
  · subst h; rw [klt_asym h1] at h2; cases h2
  · exact h.1
  · have := klt_neg (klt_asym h1) (klt_asym h2)
    rw [this] at h
    cases h.2
def Sm (x y x' y' : PyData) : Prop := PyData.eqv x' y' = PyData.eqv x y ∧ pLt x' y' = pLt x y
def SmS (x y x' y' : List PyData) : Prop := PyData.eqvAll x' y' = PyData.eqvAll x y ∧ pLts x' y' = pLts x y
theorem Sm.refl {x y : PyData} : Sm x y x y := ⟨rfl, rfl⟩
theorem SmS.refl {x y : List PyData} : SmS x y x y := ⟨rfl, rfl⟩
theorem sm_tuple {x y x' y' : List PyData} (h : SmS x y x' y') : Sm (.tuple x) (.tuple y) (.tuple x') (.tuple y') := ⟨by simpa [PyData.eqv] using h.1, by simpa [pLt] using h.2⟩
theorem smS_cons {x y x' y' : PyData} {k l k' l' : List PyData} (h : Sm x y x' y') (t : PyData.eqv x y = true → SmS k l k' l') : SmS (x :: k) (y :: l) (x' :: k') (y' :: l') := by
  cases e : PyData.eqv x y with
  | true =>
    obtain ⟨t1, t2⟩ := t e
    exact ⟨by simp [PyData.eqvAll, h.1, e, t1], by simp [pLts, h.1, e, t2]⟩
  | false => exact ⟨by simp [PyData.eqvAll, h.1, e], by simp [pLts, h.1, e, h.2]⟩
theorem sm_none {s1 s2 r1 r2 : Int} {k l k' l' : List PyData} (h : r1 ≠ r2) : Sm (.tuple (.int s1 :: .int r1 :: k)) (.tuple (.int s2 :: .int r2 :: l)) (.tuple (.int s1 :: .int r1 :: k')) (.tuple (.int s2 :: .int r2 :: l')) :=
  sm_tuple (smS_cons .refl fun _ => smS_cons .refl fun e => absurd (by simpa [PyData.eqv] using e) h)
theorem sm_leaf {s r : Int} {x y x' y' : PyData} (h : Sm x y x' y') : Sm (.tuple [.int s, .int r, x, .tuple []]) (.tuple [.int s, .int r, y, .tuple []]) (.tuple [.int s, .int r, x', .tuple []]) (.tuple [.int s, .int r, y', .tuple []]) :=
  sm_tuple (smS_cons .refl fun _ => smS_cons .refl fun _ => smS_cons h fun _ => .refl)
theorem sm_body {s1 s2 r : Int} {x y : PyData} {k l k' l' : List PyData} (h : SmS k l k' l') : Sm (.tuple [.int s1, .int r, x, .tuple k]) (.tuple [.int s2, .int r, y, .tuple l]) (.tuple [.int s1, .int r, x, .tuple k']) (.tuple [.int s2, .int r, y, .tuple l']) :=
  sm_tuple (smS_cons .refl fun _ => smS_cons .refl fun _ => smS_cons .refl fun _ => smS_cons (sm_tuple h) fun _ => .refl)
abbrev Pa.sh (a t : Nat) (p : Pa) : Pa := p.raised a 0 t
abbrev Pl.sh (a t : Nat) (p : Pl) : Pl := p.raised a 0 t
theorem sh_int (a t n m : Nat) : Sm (.int (n : Int)) (.int (m : Int)) (.int ((if t ≤ n then n + a else n : Nat) : Int)) (.int ((if t ≤ m then m + a else m : Nat) : Int)) := by
  have e1 : ∀ i j : Int, PyData.eqv (.int i) (.int j) = decide (i = j) := fun i j => by
    by_cases h : i = j <;> simp [PyData.eqv, h]
  have e2 : ∀ i j : Int, pLt (.int i) (.int j) = some (decide (i < j)) := fun i j => rfl
  unfold Sm
  rw [e1, e1, e2, e2]
  refine ⟨?_, congrArg some ?_⟩
  · rw [decide_eq_decide]
    split <;> split <;> omega
  · rw [decide_eq_decide]
    split <;> split <;> omega
theorem sh_got (a t n : Nat) : (Pa.got n).sh a t = .got (if t ≤ n then n + a else n) := by
  simp only [Pa.sh, Pa.raised, Nat.add_zero]
  split <;> rfl
mutual
theorem Pa.sm (a : Nat) : ∀ (p q : Pa) (t : Nat), Sm p.key.py q.key.py (p.sh a t).key.py (q.sh a t).key.py
  | .name x, q, t => by
    cases q with
    | got n => rw [sh_got]; exact sm_none (by decide)
    | name y => exact .refl
    | mark n => exact .refl
    | letter y c =>
      simp only [Pa.sh, Pa.raised, Pa.key, D.py, D.pyAll, Pl.raised_size]
      exact sm_none (by decide)
    | wait y c =>
      simp only [Pa.sh, Pa.raised, Pa.key, D.py, D.pyAll, Pl.raised_size]
      exact sm_none (by decide)
  | .mark x, q, t => by
    cases q with
    | got n => rw [sh_got]; exact sm_none (by decide)
    | name y => exact .refl
    | mark n => exact .refl
    | letter y c =>
      simp only [Pa.sh, Pa.raised, Pa.key, D.py, D.pyAll, Pl.raised_size]
      exact sm_none (by decide)
    | wait y c =>
      simp only [Pa.sh, Pa.raised, Pa.key, D.py, D.pyAll, Pl.raised_size]
      exact sm_none (by decide)
  | .got x, q, t => by
    cases q with
    | got n => rw [sh_got, sh_got]; exact sm_leaf (sh_int a t x n)
    | name y => rw [sh_got]; exact sm_none (by decide)
    | mark n => rw [sh_got]; exact sm_none (by decide)
    | letter y c =>
      rw [sh_got]
      simp only [Pa.sh, Pa.raised, Pa.key, D.py, D.pyAll, Pl.raised_size]
      exact sm_none (by decide)
    | wait y c =>
      rw [sh_got]
      simp only [Pa.sh, Pa.raised, Pa.key, D.py, D.pyAll, Pl.raised_size]
      exact sm_none (by decide)
  | .letter x b, q, t => by
    cases q with
    | got n =>
      rw [sh_got]
      simp only [Pa.sh, Pa.raised, Pa.key, D.py, D.pyAll, Pl.raised_size]
      exact sm_none (by decide)
    | letter y c =>
      have h := Pl.sm a b c t
      simp only [Pa.sh, Pa.raised, Pa.key, D.py, D.pyAll, Pl.raised_size]
      exact sm_body h
    | _ =>
      simp only [Pa.sh, Pa.raised, Pa.key, D.py, D.pyAll, Pl.raised_size]
      exact sm_none (by decide)
  | .wait x b, q, t => by
    cases q with
    | got n =>
      rw [sh_got]
      simp only [Pa.sh, Pa.raised, Pa.key, D.py, D.pyAll, Pl.raised_size]
      exact sm_none (by decide)
    | wait y c =>
      have h := Pl.sm a b c (t + 1)
      simp only [Pa.sh, Pa.raised, Pa.key, D.py, D.pyAll, Pl.raised_size]
      exact sm_body h
    | _ =>
      simp only [Pa.sh, Pa.raised, Pa.key, D.py, D.pyAll, Pl.raised_size]
      exact sm_none (by decide)
theorem Pl.sm (a : Nat) : ∀ (p q : Pl) (t : Nat), SmS (D.pyAll p.keys) (D.pyAll q.keys) (D.pyAll (p.sh a t).keys) (D.pyAll (q.sh a t).keys)
  | .nil, q, t => by
    cases q with
    | nil => exact .refl
    | cons d r s => exact ⟨rfl, rfl⟩
  | .cons c p r, q, t => by
    cases q with
    | nil => exact ⟨rfl, rfl⟩
    | cons d q s => exact smS_cons (sm_tuple (smS_cons (Pa.sm a p q t) fun _ => .refl)) fun _ => Pl.sm a r s t
end
instance : DecidableEq Pa := fun p q => decidable_of_iff (beqP p q = true) beqP_iff
end Dl
namespace Dl
open PySem PySem.Spec PyProof.Rows L2 NdefX
def insI (x : It) : List It → List It
  | [] => [x]
  | y :: r => if klt y.2 x.2 = true then y :: insI x r else x :: y :: r
def sortI : List It → List It
  | [] => []
  | x :: l => insI x (sortI l)
def WS (l : List It) : Prop := l.Pairwise fun a b => klt b.2 a.2 = false
def SS (l : List It) : Prop := l.Pairwise fun a b => klt a.2 b.2 = true
def posI (l : List It) : Prop := ∀ i ∈ l, 1 ≤ i.1
theorem insI_perm (x : It) : ∀ l : List It, (insI x l).Perm (x :: l)
  | [] => List.Perm.refl _
  | y :: r => by
    unfold insI
    split
    · exact ((insI_perm x r).cons y).trans (List.Perm.swap x y r)
    · exact List.Perm.refl _
theorem sortI_perm : ∀ l : List It, (sortI l).Perm l
  | [] => List.Perm.refl _
  | x :: l => (insI_perm x (sortI l)).trans ((sortI_perm l).cons x)
theorem insI_ws (x : It) : ∀ {l : List It}, WS l → WS (insI x l)
  | [], _ => List.pairwise_singleton _ _
  | y :: r, h => by
    obtain ⟨h1, h2⟩ := List.pairwise_cons.mp h
    unfold insI
    split
    · rename_i hyx
      refine List.pairwise_cons.mpr ⟨fun z hz => ?_, insI_ws x h2⟩
      rcases List.mem_cons.mp ((insI_perm x r).mem_iff.mp hz) with rfl | hz
      · exact klt_asym hyx
      · exact h1 z hz
    · rename_i hyx
      have hyx : klt y.2 x.2 = false := by simpa using hyx
      refine List.pairwise_cons.mpr ⟨fun z hz => ?_, h⟩
      rcases List.mem_cons.mp hz with rfl | hz
      · exact hyx
      · exact klt_neg hyx (h1 z hz)
theorem sortI_ws : ∀ l : List It, WS (sortI l)
  | [] => List.Pairwise.nil
  | x :: l => insI_ws x (sortI_ws l)
def jg (c : Nat) (p : Pa) : List It → List It
  | [] => [(c, p)]
  | (d, q) :: r => if p = q then jg (c + d) p r else (c, p) :: jg d q r
def joinL : List It → List It
  | [] => []
  | (c, p) :: r => jg c p r
def J (l : List It) : List It := joinL (sortI l)
def cnt (p : Pa) : List It → Nat
  | [] => 0
  | i :: r => (if i.2 = p then i.1 else 0) + cnt p r
theorem cnt_app (p : Pa) : ∀ a b : List It, cnt p (a ++ b) = cnt p a + cnt p b
  | [], b => by simp [cnt]
  | i :: a, b => by simp [cnt, cnt_app p a b]; omega
theorem cnt_perm (p : Pa) {a b : List It} (h : a.Perm b) : cnt p a = cnt p b := by
  induction h with
  | nil => rfl
  | cons x _ ih => simp only [cnt, ih]
  | swap x y l => simp only [cnt]; omega
  | trans _ _ h1 h2 => exact h1.trans h2
theorem cnt_none {p : Pa} : ∀ {l : List It}, (∀ i ∈ l, i.2 ≠ p) → cnt p l = 0
  | [], _ => rfl
  | i :: r, h => by
    simp only [cnt, if_neg (h i (.head _)), cnt_none (fun j hj => h j (.tail _ hj))]
theorem jg_cnt (t : Pa) : ∀ (r : List It) (c : Nat) (p : Pa), cnt t (jg c p r) = cnt t ((c, p) :: r)
  | [], c, p => rfl
  | (d, q) :: r, c, p => by
    unfold jg
    split
    · rename_i e
      subst e
      rw [jg_cnt t r]
      simp only [cnt]
      split <;> omega
    · simp only [cnt]
      rw [jg_cnt t r]
      simp only [cnt]
theorem joinL_cnt (t : Pa) : ∀ l : List It, cnt t (joinL l) = cnt t l
  | [] => rfl
  | (c, p) :: r => jg_cnt t r c p
theorem J_cnt (t : Pa) (l : List It) : cnt t (J l) = cnt t l := (joinL_cnt t _).trans (cnt_perm t (sortI_perm l))
theorem jg_mem : ∀ {r : List It} {c : Nat} {p : Pa} {i : It}, i ∈ jg c p r → i.2 = p ∨ ∃ j ∈ r, j.2 = i.2
  | [], c, p, i, h => .inl (by simp only [jg, List.mem_singleton] at h; rw [h])
  | (d, q) :: r, c, p, i, h => by
    unfold jg at h
    split at h
    · rcases jg_mem h with e | ⟨j, hj, e⟩
      · exact .inl e
      · exact .inr ⟨j, .tail _ hj, e⟩
    · rcases List.mem_cons.mp h with rfl | h
      · exact .inl rfl
      · rcases jg_mem h with e | ⟨j, hj, e⟩
        · exact .inr ⟨(d, q), .head _, e.symm⟩
        · exact .inr ⟨j, .tail _ hj, e⟩
theorem J_mem {l : List It} {i : It} (h : i ∈ J l) : ∃ j ∈ l, j.2 = i.2 := by
  unfold J at h
  have pm := sortI_perm l
  generalize sortI l = m at *
  cases m with
  | nil => cases h
  | cons a r =>
    obtain ⟨c, p⟩ := a
    rcases jg_mem (show i ∈ jg c p r from h) with e | ⟨j, hj, e⟩
    · exact ⟨(c, p), pm.mem_iff.mp (.head _), e.symm⟩
    · exact ⟨j, pm.mem_iff.mp (.tail _ hj), e⟩
theorem jg_ss : ∀ {r : List It} {c : Nat} {p : Pa}, WS ((c, p) :: r) → SS (jg c p r)
  | [], c, p, _ => List.pairwise_singleton _ _
  | (d, q) :: r, c, p, h => by
    obtain ⟨h1, h2⟩ := List.pairwise_cons.mp h
    obtain ⟨h3, h4⟩ := List.pairwise_cons.mp h2
    unfold jg
    split
    · rename_i e
      subst e
      exact jg_ss (List.pairwise_cons.mpr ⟨fun z hz => h1 z (.tail _ hz), h4⟩)
    · rename_i e
      have pq : klt p q = true := by
        rcases klt_tri p q with z | z | z
        · exact absurd z e
        · exact z.1
        · have := h1 (d, q) (.head _)
          simp only at this
          rw [this] at z
          cases z.2
      refine List.pairwise_cons.mpr ⟨fun z hz => ?_, jg_ss h2⟩
      rcases jg_mem hz with e | ⟨j, hj, e⟩
      · show klt p z.2 = true
        rw [e]; exact pq
      · show klt p z.2 = true
        have g : klt z.2 q = false := by rw [← e]; exact h3 j hj
        rcases klt_tri p z.2 with y | y | y
        · rw [← y, pq] at g; cases g
        · exact y.1
        · rw [klt_trans y.2 pq] at g; cases g
theorem J_ss (l : List It) : SS (J l) := by
  unfold J
  have := sortI_ws l
  generalize sortI l = m at *
  cases m with
  | nil => exact List.Pairwise.nil
  | cons a r => exact jg_ss this
theorem jg_pos : ∀ {r : List It} {c : Nat} {p : Pa}, 1 ≤ c → posI r → posI (jg c p r)
  | [], c, p, hc, _ => fun i hi => by simp only [jg, List.mem_singleton] at hi; rw [hi]; exact hc
  | (d, q) :: r, c, p, hc, hr => by
    unfold jg
    have hd : 1 ≤ d := hr (d, q) (.head _)
    have hr' : posI r := fun i hi => hr i (.tail _ hi)
    split
    · exact jg_pos (by omega) hr'
    · intro i hi
      rcases List.mem_cons.mp hi with rfl | hi
      · exact hc
      · exact jg_pos hd hr' i hi
theorem J_pos {l : List It} (h : posI l) : posI (J l) := by
  unfold J
  have h2 : posI (sortI l) := fun i hi => h i ((sortI_perm l).mem_iff.mp hi)
  generalize sortI l = m at *
  cases m with
  | nil => exact fun i hi => nomatch hi
  | cons a r => exact jg_pos (h2 a (.head _)) fun i hi => h2 i (.tail _ hi)
theorem ss_unique : ∀ {l m : List It}, SS l → SS m → posI l → posI m → (∀ p, cnt p l = cnt p m) → l = m
  | [], [], _, _, _, _, _ => rfl
  | [], (d, q) :: m, _, _, _, hm, e => by
    have := e q
    have h1 := hm (d, q) (.head _)
    simp [cnt] at this
    omega
  | (c, p) :: l, [], _, _, hl, _, e => by
    have := e p
    have h1 := hl (c, p) (.head _)
    simp [cnt] at this
    omega
  | (c, p) :: l, (d, q) :: m, sl, sm, hl, hm, e => by
    obtain ⟨a1, a2⟩ := List.pairwise_cons.mp sl
    obtain ⟨b1, b2⟩ := List.pairwise_cons.mp sm
    have h1 : 1 ≤ c := hl (c, p) (.head _)
    have h2 : 1 ≤ d := hm (d, q) (.head _)
    have zl : cnt p l = 0 := cnt_none fun i hi => fun z => klt_ne (a1 i hi) z.symm
    have zm : cnt q m = 0 := cnt_none fun i hi => fun z => klt_ne (b1 i hi) z.symm
    rcases klt_tri p q with z | z | z
    · subst z
      have ec : c = d := by
        have := e p
        simp only [cnt, if_true, zl, zm] at this
        omega
      subst ec
      rw [ss_unique a2 b2 (fun i hi => hl i (.tail _ hi)) (fun i hi => hm i (.tail _ hi)) fun r => by
        have := e r
        simp only [cnt] at this
        omega]
    · have : cnt p ((d, q) :: m) = 0 := cnt_none fun i hi => by
        rcases List.mem_cons.mp hi with rfl | hi
        · exact fun y => klt_ne z.1 y.symm
        · exact fun y => klt_ne (klt_trans z.1 (b1 i hi)) y.symm
      have := e p
      simp only [cnt, if_true] at *
      omega
    · have : cnt q ((c, p) :: l) = 0 := cnt_none fun i hi => by
        rcases List.mem_cons.mp hi with rfl | hi
        · exact fun y => klt_ne z.2 y.symm
        · exact fun y => klt_ne (klt_trans z.2 (a1 i hi)) y.symm
      have := e q
      simp only [cnt, if_true] at *
      omega
theorem J_of {l m : List It} (sm : SS m) (pm : posI m) (pl : posI l) (e : ∀ p, cnt p m = cnt p l) : J l = m :=
  ss_unique (J_ss l) sm (J_pos pl) pm fun p => (J_cnt p l).trans (e p).symm
theorem J_eq {l m : List It} (pl : posI l) (pm : posI m) (e : ∀ p, cnt p l = cnt p m) : J l = J m :=
  J_of (J_ss m) (J_pos pm) pl fun p => (J_cnt p m).trans (e p).symm
theorem szL_perm {a b : List It} (h : a.Perm b) : szL a = szL b := by
  unfold szL
  exact (h.map _).sum_nat
theorem jg_sz : ∀ (r : List It) (c : Nat) (p : Pa), szL (jg c p r) = c * p.size + szL r
  | [], c, p => by simp [jg, szL]
  | (d, q) :: r, c, p => by
    unfold jg
    split
    · rename_i e
      subst e
      rw [jg_sz r, szL_cons]
      simp only [Nat.add_mul]
      omega
    · rw [szL_cons, jg_sz r, szL_cons]
theorem J_sz (l : List It) : szL (J l) = szL l := by
  unfold J
  rw [← szL_perm (sortI_perm l)]
  generalize sortI l = m
  cases m with
  | nil => rfl
  | cons a r => exact (jg_sz r a.1 a.2).trans (szL_cons a r).symm
theorem wiL_perm {a b : List It} (h : a.Perm b) : wiL a = wiL b := by
  unfold wiL
  exact (h.map _).sum_nat
theorem jg_wi : ∀ (r : List It) (c : Nat) (p : Pa), wiL (jg c p r) ≤ 1 + p.within.length + wiL r
  | [], c, p => by simp [jg, wiL]
  | (d, q) :: r, c, p => by
    unfold jg
    split
    · have := jg_wi r (c + d) p
      rw [wiL_cons]
      omega
    · have := jg_wi r d q
      rw [wiL_cons, wiL_cons]
      simp only
      omega
theorem J_wi (l : List It) : wiL (J l) ≤ wiL l := by
  unfold J
  rw [← wiL_perm (sortI_perm l)]
  generalize sortI l = m
  cases m with
  | nil => exact Nat.le_refl _
  | cons a r => exact Nat.le_trans (jg_wi r a.1 a.2) (Nat.le_of_eq (wiL_cons a r).symm)
theorem deL_le {l : List It} {k : Nat} : deL l ≤ k ↔ ∀ i ∈ l, i.2.dep ≤ k := by
  induction l with
  | nil => simp [deL]
  | cons a r ih => simp [deL, Nat.max_le, ih]
theorem J_okI {k : Nat} {l : List It} (h : l.all (okI k) = true) : (J l).all (okI k) = true := by
  rw [List.all_eq_true] at *
  have hp : posI l := fun i hi => by have := h i hi; unfold okI at this; simp at this; exact this.1
  intro i hi
  obtain ⟨j, hj, e⟩ := J_mem hi
  have h1 := h j hj
  have h2 := J_pos hp i hi
  unfold okI at *
  simp only [Bool.and_eq_true, decide_eq_true_eq] at *
  exact ⟨h2, by rw [← e]; exact h1.2⟩
theorem okI_pos {k : Nat} {l : List It} (h : l.all (okI k) = true) : posI l := fun i hi => by
  have := List.all_eq_true.mp h i hi
  unfold okI at this
  simp at this
  exact this.1
end Dl
namespace Dl
open PySem PySem.Spec PyProof.Rows L2 NdefX
def foldL (x : Str) (l : List It) : Nat × Pa := match l.getLast? with
  | some (m, p) => if p = .wait x (ofL l.dropLast).up then (m + 1, .wait x (ofL l.dropLast)) else (1, .wait x (ofL l))
  | none => (1, .wait x (ofL l))
mutual
def Pa.N : Pa → Nat × Pa
  | .letter x b => (1, .letter x (ofL (J b.NI)))
  | .wait x b => foldL x (J b.NI)
  | .name x => (1, .name x)
  | .mark n => (1, .mark n)
  | .got n => (1, .got n)
def Pl.NI : Pl → List It
  | .nil => []
  | .cons c p r => (c * p.N.1, p.N.2) :: r.NI
end
def Pl.N (p : Pl) : Pl := ofL (J p.NI)
theorem NI_ofL : ∀ l : List It, (ofL l).NI = l.map fun i => (i.1 * i.2.N.1, i.2.N.2)
  | [] => rfl
  | (c, p) :: l => by simp [ofL, Pl.NI, NI_ofL l]
theorem foldL_last {x : Str} {r : List It} {M : Nat} : foldL x (r ++ [(M, .wait x (ofL r).up)]) = (M + 1, .wait x (ofL r)) := by
  simp [foldL]
theorem foldL_cases (x : Str) (l : List It) : foldL x l = (1, .wait x (ofL l)) ∨ ∃ r M, l = r ++ [(M, .wait x (ofL r).up)] ∧ foldL x l = (M + 1, .wait x (ofL r)) := by
  rcases List.eq_nil_or_concat l with h | ⟨r, ⟨M, p⟩, h⟩
  · subst h
    exact .inl rfl
  · rw [List.concat_eq_append] at h
    subst h
    by_cases e : p = .wait x (ofL r).up
    · subst e
      exact .inr ⟨r, M, rfl, foldL_last⟩
    · left
      simp [foldL, e]
mutual
theorem Pa.rs (a l : Nat) : ∀ (p : Pa) (k : Nat), p.raised a l k = p.raised a 0 (k + l)
  | .name y, k => rfl
  | .mark n, k => rfl
  | .got n, k => rfl
  | .letter d b, k => by simp only [Pa.raised]; rw [Pl.rs a l b k]
  | .wait d b, k => by simp only [Pa.raised]; rw [Pl.rs a l b (k + 1), show k + 1 + l = k + l + 1 by omega]
theorem Pl.rs (a l : Nat) : ∀ (p : Pl) (k : Nat), p.raised a l k = p.raised a 0 (k + l)
  | .nil, k => rfl
  | .cons c p r, k => by simp only [Pl.raised]; rw [Pa.rs a l p k, Pl.rs a l r k]
end
theorem N_pos (p : Pa) : 1 ≤ p.N.1 := by
  cases p with
  | wait x b =>
    rcases foldL_cases x (J b.NI) with h | ⟨r, M, _, h⟩ <;> simp only [Pa.N, h] <;> omega
  | _ => exact Nat.le_refl _
mutual
theorem Pa.N_size : ∀ p : Pa, p.N.1 * p.N.2.size = p.size
  | .name y => rfl
  | .mark n => rfl
  | .got n => rfl
  | .letter d b => by
    have e := Pl.NI_size b
    simp only [Pa.N, Pa.size, size_ofL, J_sz, e, Nat.one_mul]
  | .wait d b => by
    have e := Pl.NI_size b
    have e2 := J_sz b.NI
    simp only [Pa.N, Pa.size]
    rcases foldL_cases d (J b.NI) with h | ⟨r, M, hl, h⟩
    · rw [h]
      simp only [Pa.size, size_ofL, e2, e, Nat.one_mul]
    · rw [h]
      rw [hl] at e2
      simp only [szL_app, szL_cons, szL_nil, Pa.size, Pl.raised_size, size_ofL] at e2 ⊢
      rw [← e, ← e2]
      simp only [Nat.add_mul, Nat.mul_add, Nat.mul_one, Nat.one_mul]
      omega
theorem Pl.NI_size : ∀ p : Pl, szL p.NI = p.size
  | .nil => rfl
  | .cons c p r => by
    have h1 := Pa.N_size p
    have h2 := Pl.NI_size r
    simp only [Pl.NI, szL_cons, Pl.size, h2, Nat.mul_assoc, h1]
end
theorem Pl.N_size (p : Pl) : p.N.size = p.size := by unfold Pl.N; rw [size_ofL, J_sz, Pl.NI_size]
mutual
theorem Pa.N_ok : ∀ (p : Pa) (k : Nat), p.ok k = true → p.N.2.ok k = true
  | .name y, k, h => h
  | .mark n, k, h => h
  | .got n, k, h => h
  | .letter d b, k, h => by
    simp only [Pa.ok, Bool.and_eq_true] at h
    have e := Pl.NI_ok b k h.2
    simp only [Pa.N, Pa.ok, Bool.and_eq_true, ok_ofL]
    exact ⟨h.1, J_okI e⟩
  | .wait d b, k, h => by
    simp only [Pa.ok, Bool.and_eq_true] at h
    have e := J_okI (Pl.NI_ok b (k + 1) h.2)
    simp only [Pa.N]
    rcases foldL_cases d (J b.NI) with g | ⟨r, M, hl, g⟩
    · rw [g]
      simp only [Pa.ok, Bool.and_eq_true, ok_ofL]
      exact ⟨h.1, e⟩
    · rw [g]
      rw [hl, List.all_append, Bool.and_eq_true] at e
      simp only [Pa.ok, Bool.and_eq_true, ok_ofL]
      exact ⟨h.1, e.1⟩
theorem Pl.NI_ok : ∀ (p : Pl) (k : Nat), p.ok k = true → p.NI.all (okI k) = true
  | .nil, k, h => rfl
  | .cons c p r, k, h => by
    simp only [Pl.ok, Bool.and_eq_true, decide_eq_true_eq] at h
    have h1 := Pa.N_ok p k h.1.2
    have h2 := Pl.NI_ok r k h.2
    have := N_pos p
    simp only [Pl.NI, List.all_cons, Bool.and_eq_true, h2, and_true, okI, h1, decide_eq_true_eq]
    exact Nat.mul_pos h.1.1 this
end
theorem Pl.N_ok {p : Pl} {k : Nat} (h : p.ok k = true) : p.N.ok k = true := by unfold Pl.N; rw [ok_ofL]; exact J_okI (Pl.NI_ok p k h)
mutual
theorem Pa.N_wi : ∀ p : Pa, p.N.2.within.length ≤ p.within.length
  | .name y => Nat.le_refl _
  | .mark n => Nat.le_refl _
  | .got n => Nat.le_refl _
  | .letter d b => by
    have e := Pl.NI_wi b
    have := J_wi b.NI
    simp only [Pa.N, Pa.within, within_ofL]
    omega
  | .wait d b => by
    have e := Pl.NI_wi b
    have e2 := J_wi b.NI
    simp only [Pa.N]
    rcases foldL_cases d (J b.NI) with g | ⟨r, M, hl, g⟩
    · rw [g]
      simp only [Pa.within, within_ofL]
      omega
    · rw [g]
      rw [hl, wiL_app] at e2
      simp only [Pa.within, within_ofL]
      omega
theorem Pl.NI_wi : ∀ p : Pl, wiL p.NI ≤ p.within.length
  | .nil => Nat.le_refl _
  | .cons c p r => by
    have h1 := Pa.N_wi p
    have h2 := Pl.NI_wi r
    simp only [Pl.NI, wiL_cons, Pl.within, List.length_cons, List.length_append]
    omega
end
theorem Pl.N_wi (p : Pl) : p.N.within.length ≤ p.within.length := by unfold Pl.N; rw [within_ofL]; exact Nat.le_trans (J_wi _) (Pl.NI_wi p)
end Dl
namespace Dl
open PySem PySem.Spec PyProof.Rows L2 NdefX
mutual
def Pa.nf : Pa → Prop
  | .letter _ b => SS b.L ∧ b.nfp
  | .wait x b => SS b.L ∧ b.nfp ∧ foldL x b.L = (1, .wait x b)
  | _ => True
def Pl.nfp : Pl → Prop
  | .nil => True
  | .cons c p r => 1 ≤ c ∧ p.nf ∧ r.nfp
end
theorem NI_pos {p : Pl} {k : Nat} (h : p.ok k = true) : posI p.NI := okI_pos (Pl.NI_ok p k h)
def Eqv (l m : List It) : Prop := ∀ t, cnt t (ofL l).NI = cnt t (ofL m).NI
theorem N_of_eqv {p q : Pl} {j : Nat} (hp : p.ok j = true) (hq : q.ok j = true) (h : Eqv p.L q.L) : p.N = q.N := by
  unfold Pl.N
  have h' : ∀ t, cnt t p.NI = cnt t q.NI := fun t => by have := h t; rw [ofL_L, ofL_L] at this; exact this
  rw [J_eq (NI_pos hp) (NI_pos hq) h']
theorem eqv_app {a b c d : List It} (h1 : Eqv a b) (h2 : Eqv c d) : Eqv (a ++ c) (b ++ d) := fun t => by
  have h1 := h1 t
  have h2 := h2 t
  simp only [NI_ofL, List.map_append, cnt_app] at *
  omega
theorem Eqv.trans {a b c : List It} (h1 : Eqv a b) (h2 : Eqv b c) : Eqv a c := fun t => (h1 t).trans (h2 t)
theorem Eqv.refl {a : List It} : Eqv a a := fun _ => rfl
end Dl
namespace Dl
open PySem PySem.Spec PyProof.Rows L2 NdefX
structure HasKy (tbl : Nat → Option DefB) : Prop extends HasLS tbl where
  t101 : tbl 101 = some ⟨1, 3, b_plan_key⟩
  t102 : tbl 102 = some ⟨1, 5, b_part_key⟩
  t108 : tbl 108 = some ⟨1, 5, b__law_key⟩
  t103 : tbl 103 = some ⟨1, 1, fun C => sRet (b_sorted_items'clo C)⟩
  t104 : tbl 104 = some ⟨1, 1, bLow 103⟩
  t105 : tbl 105 = some ⟨1, 4, b_sorted_items⟩
  t109 : tbl 109 = some ⟨1, 1, fun C => sRet (b__law_joined'clo C)⟩
  t110 : tbl 110 = some ⟨1, 1, bLow 109⟩
  t111 : tbl 111 = some ⟨1, 4, b__law_joined⟩
section
variable {tbl : Nat → Option DefB} (T : HasKy tbl)
include T
end
end Dl
namespace Dl
open PySem PySem.Spec PyProof.Rows L2 NdefX
section
variable {tbl : Nat → Option DefB} (T : HasKy tbl)
include T
end
end Dl
namespace Dl
open PySem PySem.Spec PyProof.Rows L2 NdefX
section
variable {α : Type} {A B : List α} {x : α} {i : Nat}
end
structure Fit (k : Nat) (p : Pl) : Prop where
  ok : p.ok k = true
  sz : p.size < limN
  wi : p.within.length < 16777216
theorem Fit.N {k : Nat} {p : Pl} (h : Fit k p) : Fit k p.N := ⟨Pl.N_ok h.ok, by rw [Pl.N_size]; exact h.sz, Nat.lt_of_le_of_lt (Pl.N_wi p) h.wi⟩
theorem Fit.cls {k : Nat} {p : Pl} (h : Fit k p) : p.cls := (Pl.lim_size p k h.ok h.sz).2
theorem Fit.lim {k : Nat} {p : Pl} (h : Fit k p) : p.lim := (Pl.lim_size p k h.ok h.sz).1
theorem Fit.sub {k : Nat} {l m : List It} (h : Fit k (ofL l)) (s : m.Sublist l) : Fit k (ofL m) := by
  refine ⟨?_, ?_, ?_⟩
  · have := h.ok
    rw [ok_ofL] at *
    exact List.all_eq_true.mpr fun i hi => List.all_eq_true.mp this i (s.subset hi)
  · have := h.sz
    rw [size_ofL] at *
    have e : szL m ≤ szL l := by
      clear h this
      induction s with
      | slnil => exact Nat.le_refl _
      | cons a _ ih => rw [szL_cons]; omega
      | cons_cons a _ ih => rw [szL_cons, szL_cons]; omega
    omega
  · have := h.wi
    rw [within_ofL] at *
    have e : wiL m ≤ wiL l := by
      clear h this
      induction s with
      | slnil => exact Nat.le_refl _
      | cons a _ ih => rw [wiL_cons]; omega
      | cons_cons a _ ih => rw [wiL_cons, wiL_cons]; omega
    omega
structure HasRz (tbl : Nat → Option DefB) : Prop extends HasM tbl where
  t55 : tbl 55 = some ⟨4, 4, b_raised'clo⟩
  t57 : tbl 57 = some ⟨3, 4, b_raised⟩
section
variable {tbl : Nat → Option DefB} (T : HasRz tbl)
include T
end
structure HasF (tbl : Nat → Option DefB) : Prop extends HasKy tbl, HasRz tbl where
  t106 : tbl 106 = some ⟨1, 6, b_plain_of⟩
  t107 : tbl 107 = some ⟨2, 6, b_folded⟩
instance : DecidableEq Pl := fun p q => decidable_of_iff ((D.tup p.ds).eq (.tup q.ds) = true) (Pl.eq_iff p q)
section
variable {tbl : Nat → Option DefB} (T : HasF tbl) {w : World}
include T
end
end Dl
namespace Dl
open PySem PySem.Spec PyProof.Rows L2 NdefX
structure HasAl (tbl : Nat → Option DefB) : Prop extends HasF tbl, HasK tbl where
  t60 : tbl 60 = some ⟨2, 2, b_check_two⟩
  t115 : tbl 115 = some ⟨2, 2, b_alike⟩
structure HasPo (tbl : Nat → Option DefB) : Prop extends HasAl tbl, HasZ0 tbl where
  t48 : tbl 48 = some ⟨1, 1, b_is_plan⟩
  t116 : tbl 116 = some ⟨1, 1, b_plain⟩
  t117 : tbl 117 = some ⟨1, 1, b_is_plain⟩
theorem Fit.head {k c : Nat} {p : Pa} {r : Pl} (h : Fit k (.cons c p r)) : 1 ≤ c ∧ p.ok k = true ∧ p.size < limN ∧ p.within.length < 16777216 ∧ c < limN ∧ Fit k r := by
  have ok := h.ok
  have sz := h.sz
  have wi := h.wi
  simp only [Pl.ok, Bool.and_eq_true, decide_eq_true_eq] at ok
  simp only [Pl.size] at sz
  simp only [Pl.within, List.length_cons, List.length_append] at wi
  have h1 := Nat.le_mul_of_pos_left p.size ok.1.1
  have h2 := Nat.le_mul_of_pos_right c (psize_pos p)
  exact ⟨ok.1.1, ok.1.2, by omega, by omega, by omega, ok.2, by omega, by omega⟩
section
variable {tbl : Nat → Option DefB} (T : HasF tbl) {w : World}
include T
end
section
variable {tbl : Nat → Option DefB} (T : HasAl tbl) {w : World}
include T
end
section
variable {tbl : Nat → Option DefB} (T : HasPo tbl) {w : World}
include T
end
end Dl
namespace Dl
open PySem PySem.Spec PyProof.Rows L2 NdefX
structure HasRa (tbl : Nat → Option DefB) : Prop where
  t88 : tbl 88 = some ⟨3, 6, b__law_raise⟩
section
variable {tbl : Nat → Option DefB} (T : HasRa tbl) {w : World} {a : Nat}
include T
end
structure HasLf (tbl : Nat → Option DefB) : Prop extends HasKy tbl, HasRa tbl where
  t112 : tbl 112 = some ⟨1, 9, b__law_form⟩
section
variable {tbl : Nat → Option DefB} (T : HasLf tbl) {w : World}
include T
end
end Dl
namespace Dl
open PySem PySem.Spec PyProof.Rows L2 NdefX
section
variable {tbl : Nat → Option DefB} (T : HasLf tbl) {w : World}
include T
end
end Dl
namespace Dl
open PySem PySem.Spec PyProof.Rows L2 NdefX
structure Pc (k : Nat) (j : It) (M : List It) : Prop where
  e : Eqv M [j]
  sz : szL M = j.1 * j.2.size
  ok : M.all (okI k) = true
  len : M.length ≤ 2
  dep : ∀ i ∈ M, i.2.dep ≤ 2 * j.2.dep
  wi : wiL M ≤ 4 ^ (j.2.dep + 1) * (1 + j.2.within.length)
structure Sp (k : Nat) (L M : List It) : Prop where
  e : Eqv M L
  sz : szL M = szL L
  ok : M.all (okI k) = true
  len : M.length ≤ 2 * L.length
  dep : deL M ≤ 2 * deL L
  wi : wiL M ≤ 4 ^ (deL L + 1) * wiL L
  per : ∀ i ∈ M, ∃ j ∈ L, i.1 * i.2.size ≤ j.1 * j.2.size ∧ i.2.dep ≤ 2 * j.2.dep ∧ 1 + i.2.within.length ≤ 4 ^ (j.2.dep + 1) * (1 + j.2.within.length)
theorem Sp.nil {k : Nat} : Sp k [] [] := ⟨.refl, rfl, rfl, Nat.le_refl _, Nat.le_refl _, Nat.zero_le _, fun i hi => nomatch hi⟩
theorem mem_szL {l : List It} {i : It} (hi : i ∈ l) : i.1 * i.2.size ≤ szL l := by
  induction l with
  | nil => cases hi
  | cons a r ih =>
    rw [szL_cons]
    rcases List.mem_cons.mp hi with rfl | hi
    · omega
    · have := ih hi; omega
theorem mem_wiL {l : List It} {i : It} (hi : i ∈ l) : 1 + i.2.within.length ≤ wiL l := by
  induction l with
  | nil => cases hi
  | cons a r ih =>
    rw [wiL_cons]
    rcases List.mem_cons.mp hi with rfl | hi
    · omega
    · have := ih hi; omega
theorem Sp.cons {k : Nat} {j : It} {L M1 M2 : List It} (h : Pc k j M1) (t : Sp k L M2) : Sp k (j :: L) (M1 ++ M2) where
  e := eqv_app h.e t.e
  sz := by rw [szL_app, szL_cons, h.sz, t.sz]
  ok := by rw [List.all_append, h.ok, t.ok]; rfl
  len := by have := h.len; have := t.len; rw [List.length_append, List.length_cons]; omega
  dep := by
    have h1 : deL M1 ≤ 2 * j.2.dep := deL_le.mpr h.dep
    have := t.dep
    rw [deL_app]
    simp only [deL]
    omega
  wi := by
    have h1 := h.wi
    have h2 := t.wi
    rw [wiL_app, wiL_cons]
    simp only [deL]
    have a1 : 4 ^ (j.2.dep + 1) ≤ 4 ^ (max j.2.dep (deL L) + 1) := Nat.pow_le_pow_right (by omega) (by omega)
    have a2 : 4 ^ (deL L + 1) ≤ 4 ^ (max j.2.dep (deL L) + 1) := Nat.pow_le_pow_right (by omega) (by omega)
    have b1 := Nat.mul_le_mul_right (1 + j.2.within.length) a1
    have b2 := Nat.mul_le_mul_right (wiL L) a2
    rw [Nat.mul_add]
    omega
  per := fun i hi => by
    rcases List.mem_append.mp hi with hi | hi
    · exact ⟨j, .head _, by have := mem_szL hi; rw [h.sz] at this; exact this, h.dep i hi, Nat.le_trans (mem_wiL hi) h.wi⟩
    · obtain ⟨j', hj, z⟩ := t.per i hi
      exact ⟨j', .tail _ hj, z⟩
theorem Sp.N_eq {k : Nat} {b : Pl} {M : List It} (h : Sp k b.L M) (hb : b.ok k = true) : (ofL M).N = b.N := by
  refine N_of_eqv (j := k) (by rw [ok_ofL]; exact h.ok) hb ?_
  rw [L_ofL]
  exact h.e
theorem J_of_N {a b : Pl} (h : a.N = b.N) : J a.NI = J b.NI := by
  have := congrArg Pl.L h
  unfold Pl.N at this
  rwa [L_ofL, L_ofL] at this
structure Pw (k : Nat) (p p1 : Pa) : Prop where
  n : p1.N = p.N
  sz : p1.size = p.size
  ok : p1.ok k = true
  dep : p1.dep + 1 ≤ 2 * p.dep ∨ (p1.leaf = true ∧ p1.dep = 0)
  wi : p1.within.length ≤ 4 ^ p.dep * p.within.length
theorem Pw.leaf {k : Nat} {p : Pa} (h : p.ok k = true) (hl : p.leaf = true) : Pw k p p := by
  refine ⟨rfl, rfl, h, .inr ⟨hl, ?_⟩, ?_⟩
  · cases p <;> first | rfl | cases hl
  · have : p.within = [] := by cases p <;> first | rfl | cases hl
    rw [this]
    exact Nat.zero_le _
theorem Pw.letter {k : Nat} {x : Str} {b : Pl} {M : List It} (h : (Pa.letter x b).ok k = true) (s : Sp k b.L M) : Pw k (.letter x b) (.letter x (ofL M)) := by
  simp only [Pa.ok, Bool.and_eq_true] at h
  refine ⟨?_, ?_, ?_, .inl ?_, ?_⟩
  · simp only [Pa.N, J_of_N (s.N_eq h.2)]
  · simp only [Pa.size, size_ofL, s.sz, ← size_L]
  · simp only [Pa.ok, ok_ofL, s.ok, h.1, Bool.and_self]
  · have := s.dep
    rw [← dep_L] at this
    simp only [Pa.dep, dep_ofL]
    omega
  · have := s.wi
    rw [← dep_L, ← within_L] at this
    simp only [Pa.within, within_ofL, Pa.dep]
    exact this
theorem Pw.wait {k : Nat} {x : Str} {b : Pl} {M : List It} (h : (Pa.wait x b).ok k = true) (s : Sp (k + 1) b.L M) : Pw k (.wait x b) (.wait x (ofL M)) := by
  simp only [Pa.ok, Bool.and_eq_true] at h
  refine ⟨?_, ?_, ?_, .inl ?_, ?_⟩
  · simp only [Pa.N, J_of_N (s.N_eq h.2)]
  · simp only [Pa.size, size_ofL, s.sz, ← size_L]
  · simp only [Pa.ok, ok_ofL, s.ok, h.1, Bool.and_self]
  · have := s.dep
    rw [← dep_L] at this
    simp only [Pa.dep, dep_ofL]
    omega
  · have := s.wi
    rw [← dep_L, ← within_L] at this
    simp only [Pa.within, within_ofL, Pa.dep]
    exact this
structure Un (k c : Nat) (p1 : Pa) (c2 : Nat) (p2 : Pa) : Prop where
  e : c2 * p2.N.1 = c * p1.N.1 ∧ p2.N.2 = p1.N.2
  sz : c2 * p2.size = c * p1.size
  ok : p2.ok k = true
  pos : 1 ≤ c2
  dep : p2.dep ≤ p1.dep + 1 ∧ (p1.leaf = true → p2.dep = 0)
  wi : p2.within.length ≤ 2 * p1.within.length + 1
theorem Un.same {k c : Nat} {p1 : Pa} (h : p1.ok k = true) (hc : 1 ≤ c) : Un k c p1 c p1 := by
  refine ⟨⟨rfl, rfl⟩, rfl, h, hc, ⟨by omega, fun z => ?_⟩, by omega⟩
  cases p1 <;> first | rfl | cases z
end Dl
namespace Dl
open PySem PySem.Spec PyProof.Rows L2 NdefX
structure HasSp (tbl : Nat → Option DefB) : Prop extends HasRa tbl, HasPk tbl where
  t113 : tbl 113 = some ⟨3, 3, b__law_copied⟩
  t114 : tbl 114 = some ⟨3, 10, b__law_spread⟩
abbrev sp1 (C : Cs) : Sd := (sIf (dTst (dBin (gEq C.room) (dBlt cLen (rCons (dName 5) rNil)) (dC (.int 3)))) (sSet 5 (dTup (aCons (dBin gIx (dName 5) (dC (.int 0))) (aCons (dBin gIx (dName 5) (dC (.int 1))) (aCons (dCall C 114 (aCons (dName 0) (aCons (dBin gIx (dName 5) (dC (.int 2))) (aCons (dName 2) aNil)))) aNil))))) sNil)
section
variable {tbl : Nat → Option DefB} (T : HasSp tbl)
include T
end
end Dl
namespace Dl
open PySem PySem.Spec PyProof.Rows L2 NdefX
def Hi (j : It) : Prop := j.1 * j.2.size < 1000000 ∨ 4 ^ (j.2.dep + 1) * (1 + j.2.within.length) < 1000000
structure HiL (l : List It) : Prop where
  len : l.length ≤ 1000000
  hi : ∀ j ∈ l, Hi j
theorem len_szL {l : List It} (hp : posI l) : l.length ≤ szL l := by
  induction l with
  | nil => exact Nat.le_refl _
  | cons a r ih =>
    have h1 := hp a (.head _)
    have h2 := psize_pos a.2
    have h3 := Nat.mul_pos h1 h2
    have := ih fun i hi => hp i (.tail _ hi)
    rw [szL_cons, List.length_cons]
    omega
theorem len_wiL (l : List It) : l.length ≤ wiL l := by
  induction l with
  | nil => exact Nat.le_refl _
  | cons a r ih => rw [wiL_cons, List.length_cons]; omega
theorem Hi.body {c k : Nat} {p : Pa} {b : Pl} (h : Hi (c, p)) (hc : 1 ≤ c) (hs : p.size = b.size + 1) (hd : p.dep = b.dep + 1) (hw : p.within = b.within) (hb : b.ok k = true) :
    HiL b.L ∧ ∀ M, Sp k b.L M → (ofL M).within.length < 1000000 := by
  have hb' := hb
  rw [ok_L] at hb'
  have hp := okI_pos hb'
  rcases h with h | h
  · have hz : p.size < 1000000 := Nat.lt_of_le_of_lt (Nat.le_mul_of_pos_left _ hc) h
    have hz2 : b.size < 1000000 := by omega
    refine ⟨⟨?_, fun j hj => .inl ?_⟩, fun M hM => ?_⟩
    · have := len_szL hp
      rw [← size_L] at this
      omega
    · have := mem_szL hj
      rw [← size_L] at this
      omega
    · have := Pl.within_size (ofL M) k (by rw [ok_ofL]; exact hM.ok)
      rw [size_ofL, hM.sz, ← size_L] at this
      omega
  · simp only [hd, hw] at h
    have hbig : 4 ^ (b.dep + 1) * b.within.length < 1000000 := by
      refine Nat.lt_of_le_of_lt ?_ h
      exact Nat.mul_le_mul (Nat.pow_le_pow_right (by decide) (by omega)) (by omega)
    have hone : 1 ≤ 4 ^ (b.dep + 1) := Nat.pow_pos (by decide)
    refine ⟨⟨?_, fun j hj => .inr ?_⟩, fun M hM => ?_⟩
    · have h1 := len_wiL b.L
      rw [← within_L] at h1
      have := Nat.le_mul_of_pos_left b.within.length hone
      omega
    · refine Nat.lt_of_le_of_lt (Nat.mul_le_mul ?_ ?_) hbig
      · refine Nat.pow_le_pow_right (by decide) ?_
        have := deL_le.mp (Nat.le_refl (deL b.L)) j hj
        rw [← dep_L] at this
        omega
      · have := mem_wiL hj
        rw [← within_L] at this
        exact this
    · rw [within_ofL]
      have := hM.wi
      rw [← dep_L, ← within_L] at this
      omega
section
variable {tbl : Nat → Option DefB} (T : HasSp tbl)
include T
end
end Dl
namespace Dl
open PySem PySem.Spec PyProof.Rows L2 NdefX
section
variable {tbl : Nat → Option DefB} (T : HasSp tbl)
include T
omit T in
theorem HiL.tail {c : Nat} {p : Pa} {r : Pl} (h : HiL (Pl.cons c p r).L) : HiL r.L ∧ Hi (c, p) := by
  have h1 := h.len
  simp only [Pl.L, List.length_cons] at h1
  exact ⟨⟨by omega, fun j hj => h.hi j (.tail _ hj)⟩, h.hi (c, p) (.head _)⟩
end
end Dl
namespace Dl
open PySem PySem.Spec PyProof.Rows L2 NdefX
mutual
def Pa.pp : Pa → Prop
  | .letter _ b => b.pp
  | .wait _ b => b.pp
  | _ => True
def Pl.pp : Pl → Prop
  | .nil => True
  | .cons c p r => 1 ≤ c ∧ p.pp ∧ r.pp
end
structure Cm (f : Pa → Nat → Pl) : Prop where
  sh : ∀ (l : Pa) (s k : Nat), l.leaf = true → s ≤ k → f (l.sh 1 s) (k + 1) = (f l k).sh 1 s
  pp : ∀ (l : Pa) (k : Nat), l.leaf = true → (f l k).pp
section
variable {f : Pa → Nat → Pl} (F : Cm f)
include F
end
end Dl
namespace Dl
open PySem PySem.Spec PyProof.Rows L2 NdefX
structure HasPz (tbl : Nat → Option DefB) : Prop extends HasK tbl, HasR tbl where
  t37 : tbl 37 = some ⟨1, 1, b_check_word⟩
  t53 : tbl 53 = some ⟨1, 1, b_check_room⟩
  t56 : tbl 56 = some ⟨4, 4, fun C => sRet (b_replaced'clo C)⟩
  t58 : tbl 58 = some ⟨3, 3, b_replaced⟩
  t59 : tbl 59 = some ⟨1, 1, b_roomy⟩
  t61 : tbl 61 = some ⟨3, 5, b_roomy_replaced⟩
  t73 : tbl 73 = some ⟨3, 3, b_put⟩
structure HasMz (tbl : Nat → Option DefB) : Prop extends HasPz tbl where
  t62 : tbl 62 = some ⟨1, 1, b_check_mark⟩
  t65 : tbl 65 = some ⟨3, 3, b_mark_put⟩
structure HasLz (tbl : Nat → Option DefB) : Prop extends HasK tbl, HasM tbl where
  t37 : tbl 37 = some ⟨1, 1, b_check_word⟩
  t35 : tbl 35 = some ⟨1, 1, b_check_door⟩
  t36 : tbl 36 = some ⟨3, 3, b_bound_to⟩
  t44 : tbl 44 = some ⟨3, 3, b_wait⟩
  t50 : tbl 50 = some ⟨3, 3, fun C => sRet (b_bound_to'clo C)⟩
structure HasLe (tbl : Nat → Option DefB) : Prop extends HasK tbl where
  t35 : tbl 35 = some ⟨1, 1, b_check_door⟩
  t45 : tbl 45 = some ⟨2, 2, b_letter⟩
section
variable {tbl : Nat → Option DefB} (T : HasLe tbl)
include T
end
section
variable {tbl : Nat → Option DefB} (T : HasLz tbl)
include T
end
section
variable {tbl : Nat → Option DefB} (T : HasPz tbl)
include T
end
section
variable {tbl : Nat → Option DefB} (T : HasMz tbl)
include T
end
end Dl
namespace Dl
open PySem PySem.Spec PyProof.Rows L2 NdefX
end Dl
namespace Dl
open PySem PySem.Spec PyProof.Rows L2 NdefX
theorem timesz (c : Nat) : ∀ p : Pl, (p.times c).size = c * p.size
  | .nil => rfl
  | .cons n p r => by simp only [Pl.times, Pl.size, timesz c r, Nat.mul_add, Nat.mul_assoc]
mutual
theorem Pa.putz (old : D) (o : Pl) : ∀ (p : Pa) (k c : Nat), (p.mapA (putF old o) k c).size ≤ c * (p.size * (o.size + 1))
  | .name y, k, c => by
    simp only [Pa.mapA, putF]
    split
    · rw [timesz]
      refine Nat.mul_le_mul_left c ?_
      simp only [Pa.size]
      omega
    · simp only [Pl.times, Pl.size, Pa.size, Nat.mul_one, Nat.add_zero, Nat.one_mul]
      exact Nat.le_mul_of_pos_right c (by omega)
  | .mark y, k, c => by
    simp only [Pa.mapA, putF]
    split
    · rw [timesz]
      refine Nat.mul_le_mul_left c ?_
      simp only [Pa.size]
      omega
    · simp only [Pl.times, Pl.size, Pa.size, Nat.mul_one, Nat.add_zero, Nat.one_mul]
      exact Nat.le_mul_of_pos_right c (by omega)
  | .got y, k, c => by
    simp only [Pa.mapA, putF]
    split
    · rw [timesz]
      refine Nat.mul_le_mul_left c ?_
      simp only [Pa.size]
      omega
    · simp only [Pl.times, Pl.size, Pa.size, Nat.mul_one, Nat.add_zero, Nat.one_mul]
      exact Nat.le_mul_of_pos_right c (by omega)
  | .letter d b, k, c => by
    have := Pl.putz old o b k
    simp only [Pa.mapA, Pl.size, Pa.size, Nat.add_zero]
    refine Nat.mul_le_mul_left c ?_
    rw [Nat.add_mul]
    omega
  | .wait d b, k, c => by
    have := Pl.putz old o b (k + 1)
    simp only [Pa.mapA, Pl.size, Pa.size, Nat.add_zero]
    refine Nat.mul_le_mul_left c ?_
    rw [Nat.add_mul]
    omega
theorem Pl.putz (old : D) (o : Pl) : ∀ (p : Pl) (k : Nat), (p.mapA (putF old o) k).size ≤ p.size * (o.size + 1)
  | .nil, k => by simp [Pl.mapA, Pl.size]
  | .cons c p r, k => by
    have h1 := Pa.putz old o p k c
    have h2 := Pl.putz old o r k
    simp only [Pl.mapA, app_size, Pl.size, Nat.add_mul, Nat.mul_assoc] at *
    omega
end
structure Sm7 (s : Nat) (p : Pl) : Prop where
  ok : p.ok 0 = true
  sz : p.size ≤ s
section
variable {s r : Nat} {p q o : Pl}
theorem Sm7.wi (h : Sm7 s p) : p.within.length ≤ s := Nat.le_trans (Pl.within_size p 0 h.ok) h.sz
theorem Sm7.dep (h : Sm7 s p) : p.dep ≤ s := Nat.le_trans (Pl.dep_size p 0 h.ok) h.sz
theorem Sm7.app (h : Sm7 s p) (g : Sm7 r q) : Sm7 (s + r) (p.app q) := ⟨by rw [app_ok, h.ok, g.ok]; rfl, by rw [app_size]; have := h.sz; have := g.sz; omega⟩
theorem Sm7.put {old : D} (h : Sm7 s p) (g : Sm7 r o) : Sm7 (s * (r + 1)) (p.put old o) :=
  ⟨Pl.put_ok old o g.ok p 0 0 h.ok, Nat.le_trans (Pl.putz old o p 0) (Nat.mul_le_mul h.sz (by have := g.sz; omega))⟩
theorem Sm7.letter {d : Str} (h : Sm7 s p) (hd : doorB d = true) : Sm7 (s + 1) (.cons 1 (.letter d p) .nil) :=
  ⟨by simp [Pl.ok, Pa.ok, hd, h.ok], by have := h.sz; simp only [Pl.size, Pa.size, Nat.one_mul, Nat.add_zero]; omega⟩
theorem Sm7.wait {d x : Str} (h : Sm7 s p) (hd : doorB d = true) : Sm7 (s + 1) (.cons 1 (.wait d (p.caught x 0)) .nil) :=
  ⟨by simp [Pl.ok, Pa.ok, hd, Pl.caught_ok x p 0 h.ok], by have := h.sz; simp only [Pl.size, Pa.size, Pl.caught_size, Nat.one_mul, Nat.add_zero]; omega⟩
end
structure HasSu (tbl : Nat → Option DefB) : Prop extends HasAl tbl, HasLP tbl, HasPz tbl, HasLz tbl, HasLe tbl where
  t66 : tbl 66 = some ⟨2, 2, b_beside⟩
section
variable {tbl : Nat → Option DefB} (T : HasSu tbl) {w : World}
include T
end
end Dl
namespace Dl
open PySem PySem.Spec PyProof.Rows L2 NdefX
structure Lk (f : Pa → Bool) : Prop where
  l : ∀ x b b', f (.letter x b) = f (.letter x b')
  w : ∀ x b b', f (.wait x b) = f (.wait x b')
  s : ∀ p a t, f (p.sh a t) = f p
mutual
def Pa.oc (f : Pa → Bool) : Pa → Bool
  | .letter x b => f (.letter x b) || b.oc f
  | .wait x b => f (.wait x b) || b.oc f
  | .name x => f (.name x)
  | .mark x => f (.mark x)
  | .got x => f (.got x)
def Pl.oc (f : Pa → Bool) : Pl → Bool
  | .nil => false
  | .cons _ p r => p.oc f || r.oc f
end
section
variable {f : Pa → Bool}
variable (F : Lk f)
include F
end
structure HasPw (tbl : Nat → Option DefB) : Prop extends HasAl tbl where
  t116 : tbl 116 = some ⟨1, 1, b_plain⟩
  t122 : tbl 122 = some ⟨1, 2, b_power⟩
structure HasDu (tbl : Nat → Option DefB) : Prop where
  t121 : tbl 121 = some ⟨2, 5, b__law_dulled⟩
section
variable {tbl : Nat → Option DefB} (T : HasPw tbl) {w : World}
include T
end
section
variable {tbl : Nat → Option DefB} (T : HasDu tbl) {w : World}
include T
end
end Dl
namespace Dl
open PySem PySem.Spec PyProof.Rows L2 NdefX
def Pa.mk : Pa → Option Int
  | .mark n => some n
  | _ => none
structure HasLb (tbl : Nat → Option DefB) : Prop extends HasK tbl, HasW tbl, HasZ0 tbl where
  t124 : tbl 124 = some ⟨2, 3, b_labels_of_124⟩
  t128 : tbl 128 = some ⟨1, 1, b_names_128⟩
  t127 : tbl 127 = some ⟨1, 1, b_marks_127⟩
  t54 : tbl 54 = some ⟨1, 2, b_doors_of⟩
  t68 : tbl 68 = some ⟨1, 1, b_doors⟩
section
variable {tbl : Nat → Option DefB} (T : HasLb tbl)
include T
end
structure HasPr (tbl : Nat → Option DefB) : Prop extends HasPw tbl where
  t126 : tbl 126 = some ⟨1, 1, b_primes⟩
section
variable {tbl : Nat → Option DefB} (T : HasPr tbl) {w : World}
include T
end
end Dl
namespace Dl
open PySem PySem.Spec PyProof.Rows L2 NdefX
def tkOf (p : Pl) : List Str := sortS (dedup p.nms)
theorem tk_len (p : Pl) : (tkOf p).length ≤ p.within.length := by
  unfold tkOf
  rw [(show (sortS (dedup p.nms)).Perm (dedup p.nms) from List.mergeSort_perm _ leS).length_eq]
  have h1 := dedup_len p.nms
  have h2 : p.nms.length ≤ p.within.length := by unfold Pl.nms; exact List.length_filterMap_le _ _
  omega
structure Wr (p : Pl) : Prop where
  rt : p.rt (tkOf p) 0
  wi : p.within.length < 64
  dp : p.dep ≤ 64
theorem Wr.tl {p : Pl} (h : Wr p) : (tkOf p).length < 64 := Nat.lt_of_le_of_lt (tk_len p) h.wi
abbrev told (p : Pl) : List Nat := p.txt (tkOf p) []
structure HasNl (tbl : Nat → Option DefB) : Prop where
  t568 : tbl 568 = some ⟨1, 4, b__law_names⟩
section
variable {tbl : Nat → Option DefB} (T : HasNl tbl) {w : World}
include T
end
structure HasGr (tbl : Nat → Option DefB) : Prop extends HasPk tbl where
  t567 : tbl 567 = some ⟨2, 5, b__law_great_567⟩
abbrev gLst (C : Cs) : Ex := (dLst (aCons (dC (.int 1)) (aCons (dC (.int 1)) (aCons (dC (.int 1)) (aCons (dBin gAdd (dBin gPow (dC (.int 10)) (dC (.int 20))) (dC (.int 7))) (aCons (dBin gPow (dC (.int 10)) (dC (.int 18))) aNil))))))
section
variable {tbl : Nat → Option DefB} (T : HasGr tbl) {rest : World} {A : List Lb}
include T
end
end Dl
namespace Dl
open PySem PySem.Spec PyProof.Rows L2 NdefX
structure HasDr (tbl : Nat → Option DefB) : Prop extends HasPk tbl where
  t566 : tbl 566 = some ⟨1, 3, b__law_drawn⟩
  t570 : tbl 570 = some ⟨1, 2, b__law_labels⟩
theorem ix_small {r : Nat} (h : r < 26) : ∃ c : Nat, gIx (.str "abcdefghijklmnopqrstuvwxyz") (.int (r : Int)) = some (.dat (strD [c])) ∧ c ∈ smallS.cps.toList := by
  obtain ⟨x, e, hx⟩ := ix_sign (z := smallS) (i := r) (by rw [show smallS.length = 26 by decide +kernel]; exact h)
  unfold signs at hx
  obtain ⟨c, hc, rfl⟩ := List.mem_map.mp hx
  exact ⟨c, e, hc⟩
def smallL (l : List Nat) : Prop := ∀ c ∈ l, c ∈ smallS.cps.toList
theorem smallL.app {a b : List Nat} (ha : smallL a) (hb : smallL b) : smallL (a ++ b) := fun c hc => (List.mem_append.mp hc).elim (ha c) (hb c)
theorem smallL.word {l : List Nat} (h : smallL l) (h1 : 1 ≤ l.length) (h2 : l.length ≤ 8) : wordB (sL l) = true := by
  unfold wordB
  simp only [sL_len, sL_cs, Bool.and_eq_true, decide_eq_true_eq, List.all_eq_true]
  exact ⟨⟨h1, h2⟩, h⟩
section
variable {tbl : Nat → Option DefB} {rest : World}
abbrev drBody (C : Cs) : Sd := (sSet 1 (dBin gAdd (dName 1) (dBin gIx (dC (.str "abcdefghijklmnopqrstuvwxyz")) (dCall C 11 (aCons (dName 0) (aCons (dC (.int 26)) aNil))))))
theorem dr_loop (T : HasPk tbl) {m : Nat} (hm : 1 ≤ m) : ∀ (ts : List D) (a : List Nat) (w : World) (s2 : Sl), smallL a → a.length + ts.length < 1000 → TapeOk rest w →
    ∃ (b : List Nat) (s2' : Sl) (w' : World), forGo (gN 2) (drBody (Den tbl m)) ts [.wref 0, .dat (strD a), s2] w = .ok (.nx [.wref 0, .dat (strD b), s2']) w' ∧ TapeOk rest w' ∧ smallL b ∧ b.length = a.length + ts.length
  | [], a, w, s2, ha, hz, ht => ⟨a, s2, w, rfl, ht, ha, rfl⟩
  | t :: ts, a, w, s2, ha, hz, ht => by
    simp only [List.length_cons] at hz
    obtain ⟨r, w1, e1, t1, r1⟩ := c_pick T (n := m) hm ht (m := 26) (by decide) (by decide)
    obtain ⟨c, ec, hc⟩ := ix_small (r := r) (by omega)
    obtain ⟨b, s2', w', e, t', sb, lb⟩ := dr_loop T hm ts (a ++ [c]) w1 (.dat t) (ha.app (fun d hd => by rw [List.mem_singleton.mp hd]; exact hc)) (by simp; omega) t1
    refine ⟨b, s2', w', ?_, t', sb, by rw [lb, List.length_append, List.length_singleton, List.length_cons]; omega⟩
    have ga := gAddD (a := a) (b := [c]) (by rw [List.length_singleton]; omega)
    rw [for_cons]
    show Out.bind _ _ = _
    have st : drBody (Den tbl m) [.wref 0, .dat (strD a), .dat t] w = .ok (.nx [.wref 0, .dat (strD (a ++ [c])), .dat t]) w1 := by
      generalize strD a = A at *
      generalize strD (a ++ [c]) = A2 at *
      generalize strD [c] = A3 at *
      unfold drBody
      simp [e1, ec, ga]
    generalize drBody (Den tbl m) = BB at *
    generalize strD a = A at *
    simp [st]
    exact e
theorem c_drawn (T : HasDr tbl) {n : Nat} {w : World} (hn : 2 ≤ n) (ht : TapeOk rest w) : ∃ (x : Str) (w' : World), (Den tbl n).call 566 [.wref 0] w = .ok (.dat (.str x)) w' ∧ TapeOk rest w' ∧ wordB x = true := by
  obtain ⟨m, rfl, hm⟩ := succ_of (k := 1) hn
  rw [den_succ T.t566]
  obtain ⟨r, w1, e1, t1, r1⟩ := c_pick T.toHasPk (n := m) hm ht (m := 8) (by decide) (by decide)
  obtain ⟨b, s2', w', e, t', sb, lb⟩ := dr_loop T.toHasPk hm (rngD 0 ((1 + r : Nat) : Int)) [] w1 .un (fun c hc => (List.not_mem_nil hc).elim) (by rw [rngD_nat, List.length_map, List.length_range]; simp; omega) t1
  rw [rngD_nat, List.length_map, List.length_range] at lb
  simp only [List.length_nil] at lb
  refine ⟨sL b, w', ?_, t', sb.word (by omega) (by omega)⟩
  have em : strD [] = .str "" := rfl
  rw [em] at e
  show endR (b__law_drawn (Den tbl m) [.wref 0, .un, .un] w) = _
  unfold b__law_drawn
  rw [seqN (env' := [.wref 0, .dat (.str ""), .un]) (w' := w) (by simp)]
  rw [seqN (env' := [.wref 0, .dat (strD b), s2']) (w' := w') (by
    have er : (iRange rg1 (rCons (dBin gAdd (dC (.int 1)) (dCall (Den tbl m) 11 (aCons (dName 0) (aCons (dC (.int 8)) aNil)))) rNil)) [.wref 0, .dat (.str ""), .un] w = .ok (rngD 0 ((1 + r : Nat) : Int)) w1 := by
      have h2 : (1 : Int) + (r : Int) = ((1 + r : Nat) : Int) := by push_cast; rfl
      have h3 : ((1 + r : Nat) : Int).toNat ≤ 16777216 ∧ ((1 + r : Nat) : Int) < 2 ^ 62 := by omega
      simp [e1]
      rw [h2]
      omega
    show Out.bind _ _ = _
    rw [er]
    exact e)]
  rfl
end
end Dl
namespace Dl
open PySem PySem.Spec PyProof.Rows L2 NdefX
structure Wq (p : Pl) : Prop where
  rt : p.rt (tkOf p) 0
  wi : p.within.length ≤ 4000
  nm : (dedup p.nms).length < 64
  dp : p.dep ≤ 200
theorem Wq.tl {p : Pl} (h : Wq p) : (tkOf p).length < 64 := by
  unfold tkOf
  rw [(show (sortS (dedup p.nms)).Perm (dedup p.nms) from List.mergeSort_perm _ leS).length_eq]
  exact h.nm
theorem bodyT_rd {f : Nat} {W : List Str} {T : Its} {r : List Nat} (h : Its.rd f W T) (hr : sepC r) (br : Bool) (hb : br = false → T = [] ∨ ∃ t p, T = [(1, t, p)]) : rBody (rP f) W ((if br = true then [40] ++ joinT (Its.t T) ++ [41] else joinT (Its.t T)) ++ r) = some (.ok (Its.v T) r) := by
  cases br with
  | true =>
    rw [if_pos rfl]
    have e : [40] ++ joinT (Its.t T) ++ [41] ++ r = 40 :: (joinT (Its.t T) ++ 41 :: r) := by simp
    rw [e]
    unfold rBody
    rw [if_neg (by simp [isD]), if_pos (by simp [isD]), List.tail_cons]
    rw [whole_rd h (show endC (41 :: r) from .inl rfl)]
    rfl
  | false =>
    rw [if_neg (by decide)]
    rcases hb rfl with rfl | ⟨t, p, rfl⟩
    · rfl
    · have hi : TR f W t p := (h (1, t, p) (.head _)).1
      have e : joinT (Its.t [(1, t, p)]) = t := by simp [Its.t, joinT, itT]
      rw [e]
      obtain ⟨d, l, e2, h2⟩ := hi.hd
      have z1 : ¬ isD 48 48 (t ++ r) = true := by
        rw [e2]
        simp only [List.cons_append, isD, Bool.and_eq_true, decide_eq_true_eq]
        omega
      have z2 : ¬ isD 40 40 (t ++ r) = true := by
        rw [e2]
        simp only [List.cons_append, isD, Bool.and_eq_true, decide_eq_true_eq]
        omega
      unfold rBody
      rw [if_neg z1, if_neg z2, hi.rd r hr]
      rfl
end Dl
namespace Dl
open PySem PySem.Spec PyProof.Rows L2 NdefX
mutual
def Pa.nb (B : Nat) : Pa → Prop
  | .name _ => True
  | .mark n => n < B
  | .got n => n < B
  | .letter _ b => b.nb B
  | .wait _ b => b.nb B
def Pl.nb (B : Nat) : Pl → Prop
  | .nil => True
  | .cons c p r => c < B ∧ p.nb B ∧ r.nb B
end
structure Shw (d : PyData) (W : Nat) : Prop where
  sh : d.showable = true
  lv : d.leavesShort 62 = true
  wt : d.weight ≤ W
theorem Shw.mono {d : PyData} {m n : Nat} (h : Shw d m) (hn : m ≤ n) : Shw d n := ⟨h.sh, h.lv, Nat.le_trans h.wt hn⟩
end Dl
namespace Dl
open PySem PySem.Spec PyProof.Rows L2 NdefX
structure HasLt (tbl : Nat → Option DefB) : Prop where
  t583 : tbl 583 = some ⟨1, 5, b__law_word⟩
  t584 : tbl 584 = some ⟨3, 9, b__law_text⟩
  t585 : tbl 585 = some ⟨1, 3, b__law_free⟩
def wl : Nat → Nat → List Nat
  | 0, _ => []
  | k + 1, n => wl k (n / 3) ++ [120 + n % 3]
section
variable {C : Cs} {w : World}
end
section
variable {tbl : Nat → Option DefB} (T : HasLt tbl) {w : World}
include T
end
end Dl
namespace Dl
open PySem PySem.Spec PyProof.Rows L2 NdefX
section
variable {tbl : Nat → Option DefB} (T : HasLt tbl) {tk : List Str}
include T
end
end Dl
namespace Dl
open PySem PySem.Spec PyProof.Rows L2 NdefX
structure HasLc (tbl : Nat → Option DefB) : Prop extends HasPk tbl where
  t586 : tbl 586 = some ⟨4, 6, b__law_chain⟩
section
variable {tbl : Nat → Option DefB} (T : HasLc tbl) {A : List Lb} {Ws : List Str} {rest : World} (hW : Ws ≠ []) (hW1 : Ws.length < 1000) (hW2 : ∀ x ∈ Ws, wordB x = true ∧ Lb.w x ∈ A)
include T hW hW1 hW2
end
end Dl
namespace Dl
open PySem PySem.Spec PyProof.Rows L2 NdefX
mutual
inductive Nd where
  | use (x : Str) | mark (n : Nat) | letter (d : Str) (b : Tr) | wait (d x : Str) (b : Tr) (br : Bool)
inductive Tr where
  | nil | cons (c : Nat) (a : Nd) (r : Tr)
end
mutual
def Nd.d : Nd → D
  | .use x => .lst [.str "use", .str x]
  | .mark n => .lst [.str "mark", .int (n : Int)]
  | .letter d b => .lst [.str "letter", .str d, .lst b.ds]
  | .wait d x b br => .lst [.str "wait", .str d, .str x, .lst b.ds, .bl br]
def Tr.ds : Tr → List D
  | .nil => []
  | .cons c a r => .lst [.int (c : Int), a.d] :: r.ds
end
def Tr.bk (br : Bool) : Tr → Bool
  | .nil => br
  | .cons c _ .nil => br || decide (1 < c)
  | .cons _ _ (.cons _ _ _) => true
mutual
def Nd.txt : Nd → List Nat
  | .use x => csL x
  | .mark n => 63 :: dgt n
  | .letter d b => csL d ++ [60] ++ joinT b.txs ++ [62]
  | .wait d x b br => csL d ++ [40] ++ csL x ++ [41, 58, 32] ++ (if b.bk br = true then [40] ++ joinT b.txs ++ [41] else joinT b.txs)
def Tr.txs : Tr → List (List Nat)
  | .nil => []
  | .cons c a r => itT c a.txt :: r.txs
end
mutual
def Nd.mean : List Str → Nd → Pa
  | ws, .use x => if x ∈ ws then .got (ws.idxOf x) else .name x
  | _, .mark n => .mark n
  | ws, .letter d b => .letter d (Tr.mean ws b)
  | ws, .wait d x b _ => .wait d (Tr.mean (x :: ws) b)
def Tr.mean : List Str → Tr → Pl
  | _, .nil => .nil
  | ws, .cons c a r => .cons c (Nd.mean ws a) (Tr.mean ws r)
end
mutual
def Nd.dep : Nd → Nat
  | .letter _ b => b.dep + 1
  | .wait _ _ b _ => b.dep + 1
  | _ => 0
def Tr.dep : Tr → Nat
  | .nil => 0
  | .cons _ a r => max a.dep r.dep
end
mutual
def Nd.nd : Nd → Nat
  | .letter _ b => 1 + b.nd
  | .wait _ _ b _ => 1 + b.nd
  | _ => 1
def Tr.nd : Tr → Nat
  | .nil => 0
  | .cons _ a r => a.nd + r.nd
end
mutual
def Nd.okW (Ws : List Str) : Nd → Prop
  | .use x => x ∈ Ws
  | .mark n => n < 30
  | .letter d b => doorB d = true ∧ b.okW Ws
  | .wait d x b _ => doorB d = true ∧ x ∈ Ws ∧ b.okW Ws
def Tr.okW (Ws : List Str) : Tr → Prop
  | .nil => True
  | .cons c a r => (1 ≤ c ∧ c < 1000) ∧ a.okW Ws ∧ r.okW Ws
end
theorem Tr.len_ds : ∀ t : Tr, t.ds.length ≤ t.nd
  | .nil => Nat.le_refl _
  | .cons c a r => by
    have := Tr.len_ds r
    have h : 1 ≤ a.nd := by cases a <;> simp [Nd.nd]
    simp only [Tr.ds, Tr.nd, List.length_cons]
    omega
def Tr.its (ws : List Str) : Tr → Its
  | .nil => []
  | .cons c a r => (c, a.txt, a.mean ws) :: Tr.its ws r
theorem Tr.its_t (ws : List Str) : ∀ t : Tr, Its.t (t.its ws) = t.txs
  | .nil => rfl
  | .cons c a r => by
    have := Tr.its_t ws r
    unfold Its.t at *
    simp only [Tr.its, List.map_cons, Tr.txs, this]
theorem Tr.its_v (ws : List Str) : ∀ t : Tr, Its.v (t.its ws) = (t.mean ws).L
  | .nil => rfl
  | .cons c a r => by
    have := Tr.its_v ws r
    unfold Its.v at *
    simp only [Tr.its, List.map_cons, Tr.mean, Pl.L, this]
mutual
theorem Nd.rd {Ws : List Str} (hW : ∀ x ∈ Ws, wordB x = true) : ∀ (a : Nd) (f : Nat) (ws : List Str), a.dep < f → a.okW Ws → TR f ws a.txt (a.mean ws)
  | a, 0, ws, hf, h => by omega
  | .use x, f + 1, ws, hf, h => by
    have hx := hW x h
    have hl := wordB_len hx
    have ha := wordB_all hx
    refine ⟨?_, fun r hr => by
      show rPart (rP f) ws (csL x ++ r) = _
      rw [word_rd hx hr]
      by_cases hm : x ∈ ws
      · rw [if_pos hm, Nd.mean, if_pos hm]
      · rw [if_neg hm, Nd.mean, if_neg hm]⟩
    show ∃ c l, csL x = c :: l ∧ _
    cases e : csL x with
    | nil => rw [e] at hl; simp at hl
    | cons c l => exact ⟨c, l, rfl, .inr (ha c (by rw [e]; exact .head _))⟩
  | .mark n, f + 1, ws, hf, h => by
    have h : n < 30 := h
    refine ⟨⟨63, _, rfl, .inl rfl⟩, fun r hr => ?_⟩
    show rPart (rP f) ws (63 :: (dgt n ++ r)) = _
    unfold rPart
    rw [if_pos (by simp [isD]), List.tail_cons]
    unfold rMark
    by_cases h0 : n = 0
    · subst h0
      rw [show dgt 0 = [48] from rfl]
      rfl
    · obtain ⟨d, l, e2, h2, h3⟩ := dgt_head (n := n) (by omega)
      rw [if_neg (by
        rw [e2]
        simp only [List.cons_append, isD, Bool.and_eq_true, decide_eq_true_eq]
        omega), if_pos (by rw [e2]; simp [isD, h2, h3]), rNum_eq (Nat.lt_trans h (by decide)) (hr.no (by omega) (by omega) (by omega))]
      rfl
  | .letter d b, f + 1, ws, hf, h => by
    simp only [Nd.dep] at hf
    obtain ⟨c, e, h1, h2, _⟩ := doorB_cs h.1
    have ir := Tr.rd hW b f ws (by omega) h.2
    refine ⟨⟨c, _, by rw [Nd.txt, show csL d = [c] from e]; rfl, .inr ⟨h1, h2⟩⟩, fun r hr => ?_⟩
    have wr := whole_rd ir (show endC (62 :: r) from .inr rfl)
    rw [Tr.its_t, Tr.its_v] at wr
    have := letter_rd (r := r) h.1 wr
    rw [ofL_L] at this
    exact this
  | .wait d x b br, f + 1, ws, hf, h => by
    simp only [Nd.dep] at hf
    obtain ⟨c, e, h1, h2, _⟩ := doorB_cs h.1
    have ir := Tr.rd hW b f (x :: ws) (by omega) h.2.2
    refine ⟨⟨c, _, by rw [Nd.txt, show csL d = [c] from e]; rfl, .inr ⟨h1, h2⟩⟩, fun r hr => ?_⟩
    have bb := bodyT_rd ir hr (b.bk br) (fun hb => by
      match b, hb, h.2.2 with
      | .nil, _, _ => exact .inl rfl
      | .cons c a .nil, hb, ho =>
        have : c = 1 := by
          have h1 := ho.1.1
          have hb : (br || decide (1 < c)) = false := hb
          rw [Bool.or_eq_false_iff, decide_eq_false_iff_not] at hb
          omega
        subst this
        exact .inr ⟨_, _, rfl⟩
      | .cons _ _ (.cons _ _ _), hb, _ => cases hb)
    rw [Tr.its_t, Tr.its_v] at bb
    have := wait_rd h.1 (hW x h.2.1) bb
    rw [ofL_L] at this
    exact this
theorem Tr.rd {Ws : List Str} (hW : ∀ x ∈ Ws, wordB x = true) : ∀ (t : Tr) (f : Nat) (ws : List Str), t.dep < f → t.okW Ws → Its.rd f ws (t.its ws)
  | .nil, f, ws, hf, h => fun i hi => (List.not_mem_nil hi).elim
  | .cons c a r, f, ws, hf, h => fun i hi => by
    simp only [Tr.dep] at hf
    rcases List.mem_cons.mp hi with rfl | z
    · exact ⟨Nd.rd hW a f ws (by omega) h.2.1, h.1.1, Nat.lt_trans h.1.2 (by decide)⟩
    · exact Tr.rd hW r f ws (by omega) h.2.2 i z
end
theorem Tr.all {Ws : List Str} (hW : ∀ x ∈ Ws, wordB x = true) {t : Tr} {f : Nat} (hf : t.dep < f) (h : t.okW Ws) : rAll f (joinT t.txs) = some (.ok (t.mean []).L []) := by
  have := whole_rd (r := []) (Tr.rd hW t f [] hf h) trivial
  rw [List.append_nil, Tr.its_t, Tr.its_v] at this
  unfold rAll
  rw [this]
  rfl
mutual
theorem Nd.txt_le {Ws : List Str} (hW : ∀ x ∈ Ws, wordB x = true) : ∀ a : Nd, a.okW Ws → a.txt.length + 20 ≤ 60 * a.nd
  | .use x, h => by
    have := wordB_len (hW x h)
    simp only [Nd.txt, Nd.nd]
    omega
  | .mark n, h => by
    have h : n < 30 := h
    have := dgt_len (n := n) (k := 2) (by decide) (by omega)
    simp only [Nd.txt, Nd.nd, List.length_cons]
    omega
  | .letter d b, h => by
    obtain ⟨c, e, h1, h2, _⟩ := doorB_cs h.1
    have h3 := Tr.txs_le hW b h.2
    have h4 := joinT_le (l := b.txs)
    simp only [Nd.txt, Nd.nd, List.length_append, show csL d = [c] from e, List.length_cons, List.length_nil]
    omega
  | .wait d x b br, h => by
    obtain ⟨c, e, h1, h2, _⟩ := doorB_cs h.1
    have hw := wordB_len (hW x h.2.1)
    have h3 := Tr.txs_le hW b h.2.2
    have h4 := joinT_le (l := b.txs)
    simp only [Nd.txt, Nd.nd, List.length_append, show csL d = [c] from e, List.length_cons, List.length_nil]
    split
    · simp only [List.length_append, List.length_cons, List.length_nil]
      omega
    · omega
theorem Tr.txs_le {Ws : List Str} (hW : ∀ x ∈ Ws, wordB x = true) : ∀ t : Tr, t.okW Ws → t.txs.flatten.length + 3 * t.txs.length ≤ 60 * t.nd
  | .nil, h => by simp [Tr.txs]
  | .cons c a r, h => by
    have h1 := Nd.txt_le hW a h.2.1
    have h2 := Tr.txs_le hW r h.2.2
    have h3 := dgt_len (n := c) (k := 3) (by decide) h.1.2
    simp only [Tr.txs, Tr.nd, List.flatten_cons, List.length_append, List.length_cons, itT]
    split
    · simp only [List.length_append, List.length_cons, List.length_nil]
      omega
    · simp only [List.length_nil]
      omega
end
theorem Tr.txt_le {Ws : List Str} (hW : ∀ x ∈ Ws, wordB x = true) {t : Tr} (h : t.okW Ws) : (joinT t.txs).length ≤ 60 * t.nd + 1 := by
  have h3 := Tr.txs_le hW t h
  have h4 := joinT_le (l := t.txs)
  omega
end Dl
namespace Dl
open PySem PySem.Spec PyProof.Rows L2 NdefX
structure HasTw (tbl : Nat → Option DefB) : Prop where
  t592 : tbl 592 = some ⟨1, 6, b__law_written⟩
  t593 : tbl 593 = some ⟨2, 8, b__law_meant⟩
theorem ne_um : ¬ Str.ofString "use" = Str.ofString "mark" := by decide +kernel
theorem ne_ul : ¬ Str.ofString "use" = Str.ofString "letter" := by decide +kernel
theorem ne_uw : ¬ Str.ofString "use" = Str.ofString "wait" := by decide +kernel
mutual
theorem Nd.okT {Ws : List Str} (hW : ∀ x ∈ Ws, wordB x = true) : ∀ a : Nd, a.okW Ws → okT a.txt
  | .use x, h => okT_wordB (hW x h)
  | .mark n, h => fun c hc => by
    rcases List.mem_cons.mp hc with rfl | z
    · decide
    · exact okT_dgt n c z
  | .letter d b, h => okT_app.mpr ⟨okT_app.mpr ⟨okT_app.mpr ⟨okT_doorB h.1, by unfold okT; decide⟩, okT_join (Tr.okT hW b h.2)⟩, by unfold okT; decide⟩
  | .wait d x b br, h => by
    refine okT_app.mpr ⟨okT_app.mpr ⟨okT_app.mpr ⟨okT_app.mpr ⟨okT_doorB h.1, by unfold okT; decide⟩, okT_wordB (hW x h.2.1)⟩, by unfold okT; decide⟩, ?_⟩
    have := okT_join (Tr.okT hW b h.2.2)
    split
    · exact okT_app.mpr ⟨okT_app.mpr ⟨by unfold okT; decide, this⟩, by unfold okT; decide⟩
    · exact this
theorem Tr.okT {Ws : List Str} (hW : ∀ x ∈ Ws, wordB x = true) : ∀ t : Tr, t.okW Ws → ∀ x ∈ t.txs, okT x
  | .nil, h, x, hx => (List.not_mem_nil hx).elim
  | .cons c a r, h, x, hx => by
    rcases List.mem_cons.mp hx with rfl | z
    · unfold itT
      refine okT_app.mpr ⟨?_, Nd.okT hW a h.2.1⟩
      split
      · exact okT_app.mpr ⟨okT_dgt c, by unfold Dl.okT; decide⟩
      · unfold Dl.okT; simp
    · exact Tr.okT hW r h.2.2 x z
end
abbrev wrB1 (C : Cs) : Sd := (sSet 4 (dBin gIx (dName 3) (dC (.int 1))))
abbrev wrB2 (C : Cs) : Sd := (sIf (dTst (dBin (gEq C.room) (dBin gIx (dName 3) (dC (.int 0))) (dC (.str "mark")))) (sSet 4 (dBin gAdd (dC (.str "?")) (dBlt cStrI (rCons (dBin gIx (dName 3) (dC (.int 1))) rNil)))) sNil)
abbrev wrB3 (C : Cs) : Sd := (sIf (dTst (dBin (gEq C.room) (dBin gIx (dName 3) (dC (.int 0))) (dC (.str "letter")))) (sSet 4 (dBin gAdd (dBin gAdd (dBin gAdd (dBin gIx (dName 3) (dC (.int 1))) (dC (.str "<"))) (dCall C 592 (aCons (dBin gIx (dName 3) (dC (.int 2))) aNil))) (dC (.str ">")))) sNil)
abbrev wrW1 (C : Cs) : Sd := (sSet 5 (dCall C 592 (aCons (dBin gIx (dName 3) (dC (.int 3))) aNil)))
abbrev wrW2 (C : Cs) : Sd := (sIf (tOr' (dTru (dBin gIx (dName 3) (dC (.int 4)))) (tOr' (dTst (dBin (gGt C.room) (dBlt cLen (rCons (dBin gIx (dName 3) (dC (.int 3))) rNil)) (dC (.int 1)))) (tAnd' (dTst (dBin (gEq C.room) (dBlt cLen (rCons (dBin gIx (dName 3) (dC (.int 3))) rNil)) (dC (.int 1)))) (dTst (dBin (gGt C.room) (dBin gIx (dBin gIx (dBin gIx (dName 3) (dC (.int 3))) (dC (.int 0))) (dC (.int 0))) (dC (.int 1))))))) (sSet 5 (dBin gAdd (dBin gAdd (dC (.str "(")) (dName 5)) (dC (.str ")")))) sNil)
abbrev wrW3 (C : Cs) : Sd := (sSet 4 (dBin gAdd (dBin gAdd (dBin gAdd (dBin gAdd (dBin gIx (dName 3) (dC (.int 1))) (dC (.str "("))) (dBin gIx (dName 3) (dC (.int 2)))) (dC (.str "): "))) (dName 5)))
abbrev wrB4 (C : Cs) : Sd := (sIf (dTst (dBin (gEq C.room) (dBin gIx (dName 3) (dC (.int 0))) (dC (.str "wait")))) (sSeq (wrW1 C) (sSeq (wrW2 C) (wrW3 C))) sNil)
abbrev wrB5 (C : Cs) : Sd := (sIf (dTst (dBin (gGt C.room) (dName 2) (dC (.int 1)))) (sSet 4 (dBin gAdd (dBin gAdd (dBlt cStrI (rCons (dName 2) rNil)) (dC (.str " "))) (dName 4))) sNil)
abbrev wrB6 (C : Cs) : Sd := (sAppend 1 (dName 4))
abbrev wrP (C : Cs) (M : Sd) : Sd := sSeq (wrB1 C) (sSeq (wrB2 C) (sSeq (wrB3 C) (sSeq (wrB4 C) M)))
abbrev wrB (C : Cs) : Sd := wrP C (sSeq (wrB5 C) (wrB6 C))
section
variable {tbl : Nat → Option DefB} (T : HasTw tbl) {Ws : List Str} (hW : ∀ x ∈ Ws, wordB x = true)
include T hW
def WrAt (tbl : Nat → Option DefB) (Ws : List Str) (b : Tr) : Prop := ∀ (n : Nat) (w : World), b.dep + 1 ≤ n → b.okW Ws → b.nd ≤ 4000 →
  (Den tbl n).call 592 [.dat (.lst b.ds)] w = .ok (.dat (strD (joinT b.txs))) w
theorem wr_part {a : Nd} (hb : ∀ b, ((∃ d, a = .letter d b) ∨ ∃ d x br, a = .wait d x b br) → WrAt tbl Ws b) {m : Nat} {w : World} {M : Sd} {s0 : D} {s1 s2 s4 s5 : Sl} (hm : a.dep ≤ m) (ho : a.okW Ws) (hn : a.nd ≤ 4000) :
    ∃ s5', wrP (Den tbl m) M [.dat s0, s1, s2, .dat a.d, s4, s5] w = M [.dat s0, s1, s2, .dat a.d, .dat (strD a.txt), s5'] w := by
  have tl := Nd.txt_le hW a ho
  unfold wrP
  cases a with
  | use x =>
    refine ⟨s5, ?_⟩
    have e : strD (Nd.txt (.use x)) = .str x := strD_cs x
    rw [e]
    rw [seqN (env' := [.dat s0, s1, s2, .dat (Nd.d (.use x)), .dat (.str x), s5]) (w' := w) (by simp [Nd.d, at_1])]
    rw [seqN (env' := [.dat s0, s1, s2, .dat (Nd.d (.use x)), .dat (.str x), s5]) (w' := w) (by simp [Nd.d, at_0, ne_um])]
    rw [seqN (env' := [.dat s0, s1, s2, .dat (Nd.d (.use x)), .dat (.str x), s5]) (w' := w) (by simp [Nd.d, at_0, ne_ul])]
    rw [seqN (env' := [.dat s0, s1, s2, .dat (Nd.d (.use x)), .dat (.str x), s5]) (w' := w) (by simp [Nd.d, at_0, ne_uw])]
  | mark n =>
    refine ⟨s5, ?_⟩
    have hn : n < 30 := ho
    have ed := cStrI_nat (n := n) (by omega)
    have hl := dgt_len (n := n) (k := 2) (by decide) (by omega)
    have a1 : gAdd (.str "?") (strD (dgt n)) = some (.dat (strD (Nd.txt (.mark n)))) := by
      rw [lit_q]
      exact gAddD (by simp; omega)
    generalize strD (Nd.txt (.mark n)) = R at *
    generalize strD (dgt n) = R2 at *
    rw [seqN (env' := [.dat s0, s1, s2, .dat (Nd.d (.mark n)), .dat (.int (n : Int)), s5]) (w' := w) (by simp [Nd.d, at_1])]
    rw [seqN (env' := [.dat s0, s1, s2, .dat (Nd.d (.mark n)), .dat R, s5]) (w' := w) (by simp [Nd.d, at_0, at_1, ed, a1])]
    rw [seqN (env' := [.dat s0, s1, s2, .dat (Nd.d (.mark n)), .dat R, s5]) (w' := w) (by simp [Nd.d, at_0, ne_8])]
    rw [seqN (env' := [.dat s0, s1, s2, .dat (Nd.d (.mark n)), .dat R, s5]) (w' := w) (by simp [Nd.d, at_0, ne_9])]
  | letter x b =>
    refine ⟨s5, ?_⟩
    simp only [Nd.dep] at hm
    simp only [Nd.nd] at hn tl
    obtain ⟨c, ec, _, _, _⟩ := doorB_cs ho.1
    have hlx : (csL x).length = 1 := by rw [show csL x = [c] from ec]; rfl
    simp only [Nd.txt, List.length_append, hlx, List.length_singleton] at tl
    have eb := hb b (.inl ⟨x, rfl⟩) m w (by omega) ho.2 (by omega)
    have a1 : gAdd (.str x) (.str "<") = some (.dat (strD (csL x ++ [60]))) := by
      rw [lit_lt, ← strD_cs x]
      exact gAddD (by simp only [List.length_singleton]; omega)
    have a2 := gAddD (a := csL x ++ [60]) (b := joinT b.txs) (by simp only [List.length_append, List.length_singleton]; omega)
    have a3 : gAdd (strD (csL x ++ [60] ++ joinT b.txs)) (.str ">") = some (.dat (strD (Nd.txt (.letter x b)))) := by
      rw [lit_gt]
      exact gAddD (by simp only [List.length_append, List.length_singleton]; omega)
    have eW : Nd.d (.letter x b) = .lst [.str "letter", .str x, .lst b.ds] := rfl
    rw [eW]
    generalize strD (Nd.txt (.letter x b)) = R at *
    generalize strD (csL x ++ [60] ++ joinT b.txs) = R1 at *
    generalize strD (joinT b.txs) = R2 at *
    generalize strD (csL x ++ [60]) = R3 at *
    generalize D.lst b.ds = BD at *
    rw [seqN (env' := [.dat s0, s1, s2, .dat (.lst [.str "letter", .str x, BD]), .dat (.str x), s5]) (w' := w) (by simp [at_1])]
    rw [seqN (env' := [.dat s0, s1, s2, .dat (.lst [.str "letter", .str x, BD]), .dat (.str x), s5]) (w' := w) (by simp [at_0, ne_19])]
    rw [seqN (env' := [.dat s0, s1, s2, .dat (.lst [.str "letter", .str x, BD]), .dat R, s5]) (w' := w) (by simp [at_0, at_1, at_2, eb, a1, a2, a3])]
    rw [seqN (env' := [.dat s0, s1, s2, .dat (.lst [.str "letter", .str x, BD]), .dat R, s5]) (w' := w) (by simp [at_0, ne_4])]
  | wait x y b br =>
    simp only [Nd.dep] at hm
    simp only [Nd.nd] at hn tl
    obtain ⟨c, ec, _, _, _⟩ := doorB_cs ho.1
    have hlx : (csL x).length = 1 := by rw [show csL x = [c] from ec]; rfl
    have hly := wordB_len (hW y ho.2.1)
    have tb := Tr.txt_le hW ho.2.2
    have eb := hb b (.inr ⟨x, y, br, rfl⟩) m w (by omega) ho.2.2 (by omega)
    have eR : Nd.txt (.wait x y b br) = csL x ++ [40] ++ csL y ++ [41, 58, 32] ++ (if b.bk br = true then [40] ++ joinT b.txs ++ [41] else joinT b.txs) := rfl
    rw [eR]
    obtain ⟨I, hI⟩ : ∃ I, I = joinT b.txs := ⟨_, rfl⟩
    rw [← hI] at eb tb ⊢
    have b1 : gAdd (.str "(") (strD I) = some (.dat (strD ([40] ++ I))) := by
      rw [lit_op]
      exact gAddD (by simp only [List.length_singleton]; omega)
    have b2 : gAdd (strD ([40] ++ I)) (.str ")") = some (.dat (strD ([40] ++ I ++ [41]))) := by
      rw [lit_cl]
      exact gAddD (by simp only [List.length_append, List.length_singleton]; omega)
    obtain ⟨J, hJ⟩ : ∃ J, J = (if b.bk br = true then [40] ++ I ++ [41] else I) := ⟨_, rfl⟩
    have hJl : J.length ≤ I.length + 2 := by
      rw [hJ]
      split
      · simp only [List.length_append, List.length_singleton]; omega
      · omega
    rw [← hJ]
    have c1 : gAdd (.str x) (.str "(") = some (.dat (strD (csL x ++ [40]))) := by
      rw [lit_op, ← strD_cs x]
      exact gAddD (by simp only [List.length_singleton]; omega)
    have c2 : gAdd (strD (csL x ++ [40])) (.str y) = some (.dat (strD (csL x ++ [40] ++ csL y))) := by
      rw [← strD_cs y]
      exact gAddD (by simp only [List.length_append, List.length_singleton]; omega)
    have c3 : gAdd (strD (csL x ++ [40] ++ csL y)) (.str "): ") = some (.dat (strD (csL x ++ [40] ++ csL y ++ [41, 58, 32]))) := by
      rw [lit_cc]
      exact gAddD (by simp only [List.length_append, List.length_cons, List.length_nil]; omega)
    have c4 := gAddD (a := csL x ++ [40] ++ csL y ++ [41, 58, 32]) (b := J) (by simp only [List.length_append, List.length_cons, List.length_nil]; omega)
    refine ⟨.dat (strD J), ?_⟩
    have eW : Nd.d (.wait x y b br) = .lst [.str "wait", .str x, .str y, .lst b.ds, .bl br] := rfl
    have w2 : wrW2 (Den tbl m) [.dat s0, s1, s2, .dat (.lst [.str "wait", .str x, .str y, .lst b.ds, .bl br]), .dat (.str x), .dat (strD I)] w = .ok (.nx [.dat s0, s1, s2, .dat (.lst [.str "wait", .str x, .str y, .lst b.ds, .bl br]), .dat (.str x), .dat (strD J)]) w := by
      have hyes : b.bk br = true → J = [40] ++ I ++ [41] := fun h => by rw [hJ, if_pos h]
      have hno : b.bk br = false → J = I := fun h => by rw [hJ, if_neg (by rw [h]; decide)]
      cases br with
      | true =>
        have : b.bk true = true := by
          match b with
          | .nil => rfl
          | .cons _ _ .nil => rfl
          | .cons _ _ (.cons _ _ _) => rfl
        rw [hyes this]
        generalize strD ([40] ++ I ++ [41]) = R1 at *
        generalize strD ([40] ++ I) = R2 at *
        generalize strD I = R3 at *
        simp [at4, b1, b2]
      | false =>
        match b, hyes, hno with
        | .nil, hyes, hno =>
          rw [hno rfl]
          generalize strD I = R3 at *
          simp [Tr.ds, at3, at4]
        | .cons c p .nil, hyes, hno =>
          by_cases h : 1 < c
          · rw [hyes (by simp [Tr.bk, h])]
            have h2 : (1 : Int) < (c : Int) := by omega
            generalize strD ([40] ++ I ++ [41]) = R1 at *
            generalize strD ([40] ++ I) = R2 at *
            generalize strD I = R3 at *
            simp [Tr.ds, at3, at4, at_0, h, h2, b1, b2]
          · rw [hno (by simp [Tr.bk, h])]
            have h2 : ¬ (1 : Int) < (c : Int) := by omega
            generalize strD I = R3 at *
            simp [Tr.ds, at3, at4, at_0, h, h2]
        | .cons c p (.cons c2 p2 r), hyes, hno =>
          rw [hyes rfl]
          have h2 : (1 : Int) < (r.ds.length : Int) + 1 + 1 := by omega
          generalize strD ([40] ++ I ++ [41]) = R1 at *
          generalize strD ([40] ++ I) = R2 at *
          generalize strD I = R3 at *
          simp [Tr.ds, at3, at4, at_0, h2, b1, b2]
    rw [eW]
    generalize D.lst b.ds = BD at *
    generalize strD (csL x ++ [40] ++ csL y ++ [41, 58, 32] ++ J) = R at *
    generalize strD (csL x ++ [40] ++ csL y ++ [41, 58, 32]) = R1 at *
    generalize strD (csL x ++ [40] ++ csL y) = R2 at *
    generalize strD (csL x ++ [40]) = R3 at *
    generalize strD J = R4 at *
    generalize strD I = R5 at *
    rw [seqN (env' := [.dat s0, s1, s2, .dat (.lst [.str "wait", .str x, .str y, BD, .bl br]), .dat (.str x), s5]) (w' := w) (by simp [at1])]
    rw [seqN (env' := [.dat s0, s1, s2, .dat (.lst [.str "wait", .str x, .str y, BD, .bl br]), .dat (.str x), s5]) (w' := w) (by simp [at0, ne_20])]
    rw [seqN (env' := [.dat s0, s1, s2, .dat (.lst [.str "wait", .str x, .str y, BD, .bl br]), .dat (.str x), s5]) (w' := w) (by simp [at0, ne_5])]
    rw [seqN (env' := [.dat s0, s1, s2, .dat (.lst [.str "wait", .str x, .str y, BD, .bl br]), .dat R, .dat R4]) (w' := w) (by
      unfold wrB4
      rw [sIf_ap, show dTst (dBin (gEq (Den tbl m).room) (dBin gIx (dName 3) (dC (.int 0))) (dC (.str "wait"))) [.dat s0, s1, s2, .dat (.lst [.str "wait", .str x, .str y, BD, .bl br]), .dat (.str x), s5] w = .ok true w from by simp [at0]]
      show sSeq _ _ _ _ = _
      rw [seqN (env' := [.dat s0, s1, s2, .dat (.lst [.str "wait", .str x, .str y, BD, .bl br]), .dat (.str x), .dat R5]) (w' := w) (by simp [at3, eb])]
      rw [seqN w2]
      simp [at1, at2, c1, c2, c3, c4])]
def WrLoop (tbl : Nat → Option DefB) (Ws : List Str) (r : Tr) : Prop := ∀ (m : Nat) (w : World) (s0 : D) (acc : List (List Nat)) (s2 s3 s4 s5 : Sl), r.dep ≤ m → r.okW Ws → r.nd ≤ 4000 → acc.length + r.ds.length < 100000 →
  ∃ s2' s3' s4' s5', forGo (gT 2 (gsCons (gN 2) (gsCons (gN 3) gsNil))) (wrB (Den tbl m)) r.ds [.dat s0, .own (acc.map strD), s2, s3, s4, s5] w = .ok (.nx [.dat s0, .own ((acc ++ r.txs).map strD), s2', s3', s4', s5']) w
theorem wr_of {b : Tr} (h : WrLoop tbl Ws b) : WrAt tbl Ws b := by
  intro n w hn ho hd
  obtain ⟨m, rfl, hm⟩ := succ_of (k := b.dep) hn
  rw [den_succ T.t592]
  have wl := Tr.len_ds b
  obtain ⟨s2, s3, s4, s5, e⟩ := h m w (.lst b.ds) [] .un .un .un .un hm ho hd (by rw [List.length_nil]; omega)
  rw [List.map_nil, List.nil_append] at e
  have tl := Tr.txt_le hW ho
  show endR (b__law_written (Den tbl m) [.dat (.lst b.ds), .un, .un, .un, .un, .un] w) = _
  unfold b__law_written
  rw [seqN (env' := [.dat (.lst b.ds), .own [], .un, .un, .un, .un]) (w' := w) (by
    generalize b.ds = BD at *
    simp)]
  rw [seqN (a := sFor _ _ _) (env' := [.dat (.lst b.ds), .own (b.txs.map strD), s2, s3, s4, s5]) (w' := w) (by
    rw [sFor_ap]
    rw [show (iSeq (dName 0)) [.dat (.lst b.ds), .own [], .un, .un, .un, .un] w = .ok b.ds w from rfl]
    simp only [bind_ok]
    exact e)]
  cases b with
  | nil =>
    have e0 : strD (joinT (Tr.txs .nil)) = .str "0" := by rw [lit_0]; rfl
    rw [e0]
    rw [seqR (r := .dat (.str "0")) (w' := w) (by simp [Tr.txs])]
    rfl
  | cons c p r =>
    have hne : Tr.txs (.cons c p r) ≠ [] := by simp [Tr.txs]
    have j := dJoin_bar hne (by omega) (okT_join (Tr.okT hW _ ho)) (env := [.dat (.lst (Tr.cons c p r).ds), .own ((Tr.txs (.cons c p r)).map strD), s2, s3, s4, s5]) (w := w) (i := 1) rfl
    have hl0 : ¬ ((((Tr.txs (.cons c p r)).map strD).length : Int) = 0) := by simp [Tr.txs]; omega
    have hl1 : ¬ (Tr.txs (.cons c p r)).map strD = [] := by simp [Tr.txs]
    generalize strD (joinT (Tr.txs (.cons c p r))) = R at *
    generalize (Tr.txs (.cons c p r)).map strD = TS at *
    generalize (Tr.cons c p r).ds = BD at *
    rw [seqN (env' := [.dat (.lst BD), .own TS, s2, s3, s4, s5]) (w' := w) (by simp [hl0, hl1])]
    rw [sRet_ap, j]
    rfl
theorem wr_loop : ∀ (r : Tr), WrLoop tbl Ws r
  | .nil => fun m w s0 acc s2 s3 s4 s5 _ _ _ _ => ⟨s2, s3, s4, s5, by simp [Tr.ds, Tr.txs]⟩
  | .cons c p r => fun m w s0 acc s2 s3 s4 s5 hm ho hn ha => by
    simp only [Tr.dep] at hm
    simp only [Tr.nd] at hn
    have hb : ∀ b, ((∃ d, p = .letter d b) ∨ ∃ d x br, p = .wait d x b br) → WrAt tbl Ws b := by
      intro b hx
      match p, hx with
      | .letter _ b', hx =>
        rcases hx with ⟨_, h⟩ | ⟨_, _, _, h⟩
        · injection h with _ h2; rw [← h2]; exact wr_of T hW (wr_loop b')
        · cases h
      | .wait _ _ b' _, hx =>
        rcases hx with ⟨_, h⟩ | ⟨_, _, _, h⟩
        · cases h
        · injection h with _ _ h2 _; rw [← h2]; exact wr_of T hW (wr_loop b')
      | .use _, hx => rcases hx with ⟨_, h⟩ | ⟨_, _, _, h⟩ <;> cases h
      | .mark _, hx => rcases hx with ⟨_, h⟩ | ⟨_, _, _, h⟩ <;> cases h
    have tl := Nd.txt_le hW p ho.2.1
    have hal : (Tr.cons c p r).ds.length = r.ds.length + 1 := rfl
    obtain ⟨s5', e1⟩ := wr_part T hW hb (m := m) (w := w) (M := sSeq (wrB5 (Den tbl m)) (wrB6 (Den tbl m))) (s0 := s0) (s1 := .own (acc.map strD)) (s2 := .dat (.int (c : Int))) (s4 := s4) (s5 := s5) (by omega) ho.2.1 (by omega)
    obtain ⟨t2, t3, t4, t5, e2⟩ := wr_loop r m w s0 (acc ++ [itT c p.txt]) (.dat (.int (c : Int))) (.dat p.d) (.dat (strD (itT c p.txt))) s5' (by omega) ho.2.2 (by omega) (by rw [List.length_append, List.length_singleton]; omega)
    refine ⟨t2, t3, t4, t5, ?_⟩
    rw [show (Tr.cons c p r).ds = .lst [.int (c : Int), p.d] :: r.ds from rfl, for_cons]
    rw [List.append_assoc, List.singleton_append] at e2
    rw [show Tr.txs (.cons c p r) = itT c p.txt :: r.txs from rfl, ← e2]
    have hz : (acc.map strD).length < 16777216 := by rw [List.length_map]; omega
    have last : sSeq (wrB5 (Den tbl m)) (wrB6 (Den tbl m)) [.dat s0, .own (acc.map strD), .dat (.int (c : Int)), .dat p.d, .dat (strD p.txt), s5'] w = .ok (.nx [.dat s0, .own ((acc ++ [itT c p.txt]).map strD), .dat (.int (c : Int)), .dat p.d, .dat (strD (itT c p.txt)), s5']) w := by
      rw [List.map_append, List.map_singleton]
      unfold itT
      generalize acc.map strD = AC at *
      by_cases h : 1 < c
      · have ed := cStrI_nat (n := c) (by have := ho.1.2; omega)
        have hd := dgt_len (n := c) (k := 3) (by decide) ho.1.2
        have a1 : gAdd (strD (dgt c)) (.str " ") = some (.dat (strD (dgt c ++ [32]))) := by
          rw [lit_sp]
          exact gAddD (by simp only [List.length_singleton]; omega)
        have a2 := gAddD (a := dgt c ++ [32]) (b := p.txt) (by simp only [List.length_append, List.length_singleton]; omega)
        have h2 : (1 : Int) < (c : Int) := by omega
        rw [if_pos h]
        generalize strD (dgt c ++ [32] ++ p.txt) = R at *
        generalize strD (dgt c ++ [32]) = R1 at *
        generalize strD (dgt c) = R2 at *
        generalize strD p.txt = R3 at *
        generalize p.d = PD at *
        rw [seqN (env' := [.dat s0, .own AC, .dat (.int (c : Int)), .dat PD, .dat R, s5']) (w' := w) (by simp [h2, h, ed, a1, a2])]
        simp [hz]
      · have h2 : ¬ (1 : Int) < (c : Int) := by omega
        rw [if_neg h, List.nil_append]
        generalize strD p.txt = R3 at *
        generalize p.d = PD at *
        rw [seqN (env' := [.dat s0, .own AC, .dat (.int (c : Int)), .dat PD, .dat R3, s5']) (w' := w) (by simp [h2, h])]
        simp [hz]
    have gt : (gT 2 (gsCons (gN 2) (gsCons (gN 3) gsNil)) (.lst [.int (c : Int), p.d]) [.dat s0, .own (acc.map strD), s2, s3, s4, s5]) = some [.dat s0, .own (acc.map strD), .dat (.int (c : Int)), .dat p.d, s4, s5] := rfl
    rw [gt]
    simp only []
    rw [show wrB (Den tbl m) [.dat s0, .own (acc.map strD), .dat (.int (c : Int)), .dat p.d, s4, s5] w = _ from e1.trans last]
    rfl
theorem c_written {t : Tr} {n : Nat} {w : World} (hn : t.dep + 1 ≤ n) (ho : t.okW Ws) (hd : t.nd ≤ 4000) : (Den tbl n).call 592 [.dat (.lst t.ds)] w = .ok (.dat (strD (joinT t.txs))) w := wr_of T hW (wr_loop T hW t) n w hn ho hd
end
section
variable {tbl : Nat → Option DefB} (T : HasTw tbl)
include T
end
end Dl
namespace Dl
open PySem PySem.Spec PyProof.Rows L2 NdefX
structure HasTd (tbl : Nat → Option DefB) : Prop extends HasPk tbl where
  t591 : tbl 591 = some ⟨3, 9, b__law_tree⟩
def Tr.app : Tr → Tr → Tr
  | .nil, q => q
  | .cons c a r, q => .cons c a (r.app q)
def nbT (l : Nat) : Nat := 2 ^ ((l + 1) / 2) - 1
theorem nbT_step {l : Nat} (h : 2 ≤ l) : 1 + nbT (l - 2) + nbT (l - 2) ≤ nbT l := by
  unfold nbT
  have e : (l + 1) / 2 = (l - 2 + 1) / 2 + 1 := by omega
  have p : 1 ≤ 2 ^ ((l - 2 + 1) / 2) := Nat.one_le_two_pow
  rw [e, Nat.pow_succ]
  omega
theorem nbT_one : nbT 1 = 1 := rfl
theorem ix_abx {r : Nat} (h : r < 3) : ∃ x : Str, gIx (.str "abx") (.int (r : Int)) = some (.dat (.str x)) ∧ doorB x = true := by
  have : r = 0 ∨ r = 1 ∨ r = 2 := by omega
  rcases this with rfl | rfl | rfl
  · exact ⟨"a", rfl, by decide +kernel⟩
  · exact ⟨"b", rfl, by decide +kernel⟩
  · exact ⟨"x", rfl, by decide +kernel⟩
theorem ix_cnt {r : Nat} (h : r < 5) : ∃ g : Nat, atI [D.int 1, .int 1, .int 2, .int 10, .int 907] (r : Int) = some (.int (g : Int)) ∧ 1 ≤ g ∧ g < 1000 := by
  have : r = 0 ∨ r = 1 ∨ r = 2 ∨ r = 3 ∨ r = 4 := by omega
  rcases this with rfl | rfl | rfl | rfl | rfl
  · exact ⟨1, rfl, by decide, by decide⟩
  · exact ⟨1, rfl, by decide, by decide⟩
  · exact ⟨2, rfl, by decide, by decide⟩
  · exact ⟨10, rfl, by decide, by decide⟩
  · exact ⟨907, rfl, by decide, by decide⟩
abbrev tdB1 (C : Cs) : Sd := (sIf (tOr' (dTst (dBin (gLt C.room) (dName 1) (dC (.int 1)))) (dTst (dBin (gEq C.room) (dCall C 11 (aCons (dName 0) (aCons (dC (.int 5)) aNil))) (dC (.int 0))))) sBreak sNil)
abbrev tdB2 (C : Cs) : Sd := (sSet 5 (dCall C 11 (aCons (dName 0) (aCons (dC (.int 6)) aNil))))
abbrev tdB3 (C : Cs) : Sd := (sSet 6 (dBin gIx (dName 2) (dCall C 11 (aCons (dName 0) (aCons (dBlt cLen (rCons (dName 2) rNil)) aNil)))))
abbrev tdB4 (C : Cs) : Sd := (sSet 7 (dBin gIx (dC (.str "abx")) (dCall C 11 (aCons (dName 0) (aCons (dC (.int 3)) aNil)))))
abbrev tdB5 (C : Cs) : Sd := (sSet 8 (dFrz (dLst (aCons (dC (.str "use")) (aCons (dName 6) aNil)))))
abbrev tdB6 (C : Cs) : Sd := (sIf (dTst (dBin (gEq C.room) (dName 5) (dC (.int 2)))) (sSet 8 (dFrz (dLst (aCons (dC (.str "mark")) (aCons (dCall C 11 (aCons (dName 0) (aCons (dC (.int 30)) aNil))) aNil))))) sNil)
abbrev tdB7 (C : Cs) : Sd := (sIf (tAnd' (dTst (dBin (gEq C.room) (dName 5) (dC (.int 3)))) (dTst (dBin (gGt C.room) (dName 1) (dC (.int 1))))) (sSet 8 (dFrz (dLst (aCons (dC (.str "letter")) (aCons (dName 7) (aCons (dCall C 591 (aCons (dName 0) (aCons (dBin gSub (dName 1) (dC (.int 2))) (aCons (dName 2) aNil)))) aNil)))))) sNil)
abbrev tdB8 (C : Cs) : Sd := (sIf (tAnd' (dTst (dBin (gGt C.room) (dName 5) (dC (.int 3)))) (dTst (dBin (gGt C.room) (dName 1) (dC (.int 1))))) (sSet 8 (dFrz (dLst (aCons (dC (.str "wait")) (aCons (dName 7) (aCons (dName 6) (aCons (dCall C 591 (aCons (dName 0) (aCons (dBin gSub (dName 1) (dC (.int 2))) (aCons (dName 2) aNil)))) (aCons (dBin (gEq C.room) (dCall C 11 (aCons (dName 0) (aCons (dC (.int 2)) aNil))) (dC (.int 0))) aNil)))))))) sNil)
abbrev tdB9 (C : Cs) : Sd := (sAppend 3 (dLst (aCons (dBin gIx (dLst (aCons (dC (.int 1)) (aCons (dC (.int 1)) (aCons (dC (.int 2)) (aCons (dC (.int 10)) (aCons (dC (.int 907)) aNil)))))) (dCall C 11 (aCons (dName 0) (aCons (dC (.int 5)) aNil)))) (aCons (dName 8) aNil))))
abbrev tdB10 (C : Cs) : Sd := (sSet 1 (dBin gSub (dName 1) (dC (.int 2))))
abbrev tdB (C : Cs) : Sd := sSeq (tdB1 C) (sSeq (tdB2 C) (sSeq (tdB3 C) (sSeq (tdB4 C) (sSeq (tdB5 C) (sSeq (tdB6 C) (sSeq (tdB7 C) (sSeq (tdB8 C) (sSeq (tdB9 C) (tdB10 C)))))))))
section
variable {tbl : Nat → Option DefB} (T : HasTd tbl) {Ws : List Str} {rest : World} (hW : Ws ≠ []) (hW1 : Ws.length < 1000)
include T hW hW1
def TdAt (tbl : Nat → Option DefB) (Ws : List Str) (rest : World) (m l : Nat) : Prop := ∀ w : World, TapeOk rest w → ∃ (t : Tr) (w' : World), (Den tbl m).call 591 [.wref 0, .dat (.int (l : Int)), .dat (wsD Ws)] w = .ok (.fresh t.ds) w' ∧ TapeOk rest w' ∧ t.okW Ws ∧ t.nd ≤ nbT l ∧ 2 * t.dep ≤ l
theorem td_node {m l : Nat} (hm : 1 ≤ m) (hin : 2 ≤ l → TdAt tbl Ws rest m (l - 2)) {M : Sd} {s3 s4 s5 s6 s7 s8 : Sl} {w : World} (hl : 1 ≤ l) (ht : TapeOk rest w) :
    ∃ (a : Nd) (s5' s6' s7' : Sl) (w' : World), sSeq (tdB2 (Den tbl m)) (sSeq (tdB3 (Den tbl m)) (sSeq (tdB4 (Den tbl m)) (sSeq (tdB5 (Den tbl m)) (sSeq (tdB6 (Den tbl m)) (sSeq (tdB7 (Den tbl m)) (sSeq (tdB8 (Den tbl m)) M)))))) [.wref 0, .dat (.int (l : Int)), .dat (wsD Ws), s3, s4, s5, s6, s7, s8] w = M [.wref 0, .dat (.int (l : Int)), .dat (wsD Ws), s3, s4, s5', s6', s7', .dat a.d] w' ∧ TapeOk rest w' ∧ a.okW Ws ∧ a.nd ≤ 1 + nbT (l - 2) ∧ 2 * a.dep ≤ l := by
  obtain ⟨kd, w1, e1, t1, kd1⟩ := c_pick T.toHasPk (n := m) hm ht (m := 6) (by decide) (by decide)
  have hpos : 0 < Ws.length := List.length_pos_iff.mpr hW
  obtain ⟨j, w2, e2, t2, j1⟩ := c_pick T.toHasPk (n := m) hm t1 (m := (Ws.length : Int)) (by omega) (by omega)
  have hj : j < Ws.length := by omega
  have hx := List.getElem_mem hj
  have hat : gIx (wsD Ws) (.int (j : Int)) = some (.dat (.str Ws[j])) := by
    show (atI (Ws.map D.str) (j : Int)).map _ = _
    rw [atI_get (by rw [List.length_map]; exact hj), List.getElem_map]
    rfl
  have hcl : cLen [wsD Ws] = some (.dat (.int (Ws.length : Int))) := by
    show some (RV.dat (.int ((Ws.map D.str).length : Int))) = _
    rw [List.length_map]
  obtain ⟨d, w3, e3, t3, d1⟩ := c_pick T.toHasPk (n := m) hm t2 (m := 3) (by decide) (by decide)
  obtain ⟨y, ey, hy⟩ := ix_abx (r := d) (by omega)
  obtain ⟨mk, w4, e4, t4, mk1⟩ := c_pick T.toHasPk (n := m) hm t3 (m := 30) (by decide) (by decide)
  have hl2 : ∀ h : 2 ≤ l, ((l : Int) - 2) = ((l - 2 : Nat) : Int) := fun h => by omega
  -- up to the use
  have up : ∀ M : Sd, sSeq (tdB2 (Den tbl m)) (sSeq (tdB3 (Den tbl m)) (sSeq (tdB4 (Den tbl m)) (sSeq (tdB5 (Den tbl m)) M))) [.wref 0, .dat (.int (l : Int)), .dat (wsD Ws), s3, s4, s5, s6, s7, s8] w = M [.wref 0, .dat (.int (l : Int)), .dat (wsD Ws), s3, s4, .dat (.int (kd : Int)), .dat (.str Ws[j]), .dat (.str y), .dat (.lst [.str "use", .str Ws[j]])] w3 := fun M => by
    generalize Ws[j] = X at *
    generalize (Ws.length : Int) = WL at *
    generalize wsD Ws = W1 at *
    rw [seqN (env' := [.wref 0, .dat (.int (l : Int)), .dat W1, s3, s4, .dat (.int (kd : Int)), s6, s7, s8]) (w' := w1) (by simp [e1])]
    rw [seqN (env' := [.wref 0, .dat (.int (l : Int)), .dat W1, s3, s4, .dat (.int (kd : Int)), .dat (.str X), s7, s8]) (w' := w2) (by simp [hcl, e2, hat])]
    rw [seqN (env' := [.wref 0, .dat (.int (l : Int)), .dat W1, s3, s4, .dat (.int (kd : Int)), .dat (.str X), .dat (.str y), s8]) (w' := w3) (by simp [e3, ey])]
    rw [seqN (env' := [.wref 0, .dat (.int (l : Int)), .dat W1, s3, s4, .dat (.int (kd : Int)), .dat (.str X), .dat (.str y), .dat (.lst [.str "use", .str X])]) (w' := w3) (by simp)]
  rw [up]
  generalize Ws[j] = X at *
  by_cases k2 : kd = 2
  · subst k2
    refine ⟨.mark mk, .dat (.int ((2 : Nat) : Int)), .dat (.str X), .dat (.str y), w4, ?_, t4, (by show mk < 30; omega), by simp [Nd.nd], by simp [Nd.dep]⟩
    have hd : Nd.d (.mark mk) = .lst [.str "mark", .int (mk : Int)] := rfl
    rw [hd]
    generalize wsD Ws = W1 at *
    rw [seqN (env' := [.wref 0, .dat (.int (l : Int)), .dat W1, s3, s4, .dat (.int ((2 : Nat) : Int)), .dat (.str X), .dat (.str y), .dat (.lst [.str "mark", .int (mk : Int)])]) (w' := w4) (by simp [e4])]
    rw [seqN (env' := [.wref 0, .dat (.int (l : Int)), .dat W1, s3, s4, .dat (.int ((2 : Nat) : Int)), .dat (.str X), .dat (.str y), .dat (.lst [.str "mark", .int (mk : Int)])]) (w' := w4) (by simp)]
    rw [seqN (env' := [.wref 0, .dat (.int (l : Int)), .dat W1, s3, s4, .dat (.int ((2 : Nat) : Int)), .dat (.str X), .dat (.str y), .dat (.lst [.str "mark", .int (mk : Int)])]) (w' := w4) (by simp)]
  have k2' : ¬ (kd : Int) = 2 := by omega
  have st6 : ∀ W1 : D, tdB6 (Den tbl m) [.wref 0, .dat (.int (l : Int)), .dat W1, s3, s4, .dat (.int (kd : Int)), .dat (.str X), .dat (.str y), .dat (.lst [.str "use", .str X])] w3 = .ok (.nx [.wref 0, .dat (.int (l : Int)), .dat W1, s3, s4, .dat (.int (kd : Int)), .dat (.str X), .dat (.str y), .dat (.lst [.str "use", .str X])]) w3 := fun W1 => by simp [k2, k2']
  rw [seqN (st6 _)]
  by_cases k3 : kd = 3 ∧ 2 ≤ l
  · obtain ⟨k3, hl3⟩ := k3
    subst k3
    obtain ⟨b, w5, e5, t5, b1, b2, b3⟩ := hin hl3 w3 t3
    rw [← hl2 hl3] at e5
    refine ⟨.letter y b, .dat (.int ((3 : Nat) : Int)), .dat (.str X), .dat (.str y), w5, ?_, t5, ⟨hy, b1⟩, by simp only [Nd.nd]; omega, by simp only [Nd.dep]; omega⟩
    have hd : Nd.d (.letter y b) = .lst [.str "letter", .str y, .lst b.ds] := rfl
    rw [hd]
    generalize b.ds = BD at *
    generalize wsD Ws = W1 at *
    have hl4 : (1 : Int) < (l : Int) := by omega
    have hl5 : 1 < l := by omega
    rw [seqN (env' := [.wref 0, .dat (.int (l : Int)), .dat W1, s3, s4, .dat (.int ((3 : Nat) : Int)), .dat (.str X), .dat (.str y), .dat (.lst [.str "letter", .str y, .lst BD])]) (w' := w5) (by simp [hl4, hl5, e5])]
    rw [seqN (env' := [.wref 0, .dat (.int (l : Int)), .dat W1, s3, s4, .dat (.int ((3 : Nat) : Int)), .dat (.str X), .dat (.str y), .dat (.lst [.str "letter", .str y, .lst BD])]) (w' := w5) (by simp)]
  have st7 : ∀ W1 : D, tdB7 (Den tbl m) [.wref 0, .dat (.int (l : Int)), .dat W1, s3, s4, .dat (.int (kd : Int)), .dat (.str X), .dat (.str y), .dat (.lst [.str "use", .str X])] w3 = .ok (.nx [.wref 0, .dat (.int (l : Int)), .dat W1, s3, s4, .dat (.int (kd : Int)), .dat (.str X), .dat (.str y), .dat (.lst [.str "use", .str X])]) w3 := fun W1 => by
    by_cases h : kd = 3
    · have h2 : ¬ 1 < l := fun z => k3 ⟨h, by omega⟩
      have h3 : ¬ (1 : Int) < (l : Int) := by omega
      subst h
      simp [h2, h3]
    · have h' : ¬ (kd : Int) = 3 := by omega
      simp [h, h']
  rw [seqN (st7 _)]
  by_cases k4 : 3 < kd ∧ 2 ≤ l
  · obtain ⟨k4, hl3⟩ := k4
    obtain ⟨b, w5, e5, t5, b1, b2, b3⟩ := hin hl3 w3 t3
    rw [← hl2 hl3] at e5
    obtain ⟨q, w6, e6, t6, q1⟩ := c_pick T.toHasPk (n := m) hm t5 (m := 2) (by decide) (by decide)
    refine ⟨.wait y X b (decide ((q : Int) = 0)), .dat (.int (kd : Int)), .dat (.str X), .dat (.str y), w6, ?_, t6, ⟨hy, hx, b1⟩, by simp only [Nd.nd]; omega, by simp only [Nd.dep]; omega⟩
    have hd : Nd.d (.wait y X b (decide ((q : Int) = 0))) = .lst [.str "wait", .str y, .str X, .lst b.ds, .bl (decide ((q : Int) = 0))] := rfl
    rw [hd]
    generalize b.ds = BD at *
    generalize wsD Ws = W1 at *
    have hl4 : (1 : Int) < (l : Int) := by omega
    have hl5 : 1 < l := by omega
    have k4' : (3 : Int) < (kd : Int) := by omega
    rw [seqN (env' := [.wref 0, .dat (.int (l : Int)), .dat W1, s3, s4, .dat (.int (kd : Int)), .dat (.str X), .dat (.str y), .dat (.lst [.str "wait", .str y, .str X, .lst BD, .bl (decide ((q : Int) = 0))])]) (w' := w6) (by simp [k4, k4', hl4, hl5, e5, e6])]
  have st8 : ∀ W1 : D, tdB8 (Den tbl m) [.wref 0, .dat (.int (l : Int)), .dat W1, s3, s4, .dat (.int (kd : Int)), .dat (.str X), .dat (.str y), .dat (.lst [.str "use", .str X])] w3 = .ok (.nx [.wref 0, .dat (.int (l : Int)), .dat W1, s3, s4, .dat (.int (kd : Int)), .dat (.str X), .dat (.str y), .dat (.lst [.str "use", .str X])]) w3 := fun W1 => by
    by_cases h : 3 < kd
    · have h2 : ¬ 1 < l := fun z => k4 ⟨h, by omega⟩
      have h3 : ¬ (1 : Int) < (l : Int) := by omega
      have h' : (3 : Int) < (kd : Int) := by omega
      simp [h, h', h2, h3]
    · have h' : ¬ (3 : Int) < (kd : Int) := by omega
      simp [h, h']
  rw [seqN (st8 _)]
  exact ⟨.use X, .dat (.int (kd : Int)), .dat (.str X), .dat (.str y), w3, rfl, t3, hx, by simp [Nd.nd], by simp [Nd.dep]⟩
theorem td_loop {m l0 : Nat} (hm : 1 ≤ m) (hin : ∀ l, l ≤ l0 → 2 ≤ l → TdAt tbl Ws rest m (l - 2)) : ∀ (ts : List D) (v : Int) (l : Nat) (acc : List D) (w : World) (s4 s5 s6 s7 s8 : Sl), (v = (l : Int) ∨ (v < 1 ∧ l = 0)) → l ≤ l0 → acc.length + ts.length < 1000 → TapeOk rest w →
    ∃ (t : Tr) (s1' s4' s5' s6' s7' s8' : Sl) (w' : World), forGo (gN 4) (tdB (Den tbl m)) ts [.wref 0, .dat (.int v), .dat (wsD Ws), .own acc, s4, s5, s6, s7, s8] w = .ok (.nx [.wref 0, s1', .dat (wsD Ws), .own (acc ++ t.ds), s4', s5', s6', s7', s8']) w' ∧ TapeOk rest w' ∧ t.okW Ws ∧ t.nd ≤ nbT l ∧ 2 * t.dep ≤ l
  | [], v, l, acc, w, s4, s5, s6, s7, s8, hv, hl, hz, ht => ⟨.nil, _, s4, s5, s6, s7, s8, w, by simp only [Tr.ds, List.append_nil]; rfl, ht, trivial, Nat.zero_le _, by simp [Tr.dep]⟩
  | x :: ts, v, l, acc, w, s4, s5, s6, s7, s8, hv, hl, hz, ht => by
    simp only [List.length_cons] at hz
    rw [for_cons, gN_ap]
    simp only [List.set_cons_succ, List.set_cons_zero]
    by_cases h1 : v < 1
    · refine ⟨.nil, .dat (.int v), .dat x, s5, s6, s7, s8, w, ?_, ht, trivial, Nat.zero_le _, by simp [Tr.dep]⟩
      have b1 : tdB (Den tbl m) [.wref 0, .dat (.int v), .dat (wsD Ws), .own acc, .dat x, s5, s6, s7, s8] w = .ok (.bk [.wref 0, .dat (.int v), .dat (wsD Ws), .own acc, .dat x, s5, s6, s7, s8]) w := by
        generalize wsD Ws = W1 at *
        unfold tdB
        rw [sSeq_ap, show tdB1 (Den tbl m) [.wref 0, .dat (.int v), .dat W1, .own acc, .dat x, s5, s6, s7, s8] w = .ok (.bk [.wref 0, .dat (.int v), .dat W1, .own acc, .dat x, s5, s6, s7, s8]) w from by simp [h1]]
        rfl
      rw [b1]
      simp only [Tr.ds, List.append_nil]
      rfl
    · have hvl : v = (l : Int) := by omega
      subst hvl
      obtain ⟨r, w1, e1, t1, r1⟩ := c_pick T.toHasPk (n := m) hm ht (m := 5) (by decide) (by decide)
      by_cases h0 : r = 0
      · subst h0
        refine ⟨.nil, .dat (.int (l : Int)), .dat x, s5, s6, s7, s8, w1, ?_, t1, trivial, Nat.zero_le _, by simp [Tr.dep]⟩
        have hl1 : ¬ l < 1 := by omega
        have hl0 : ¬ l = 0 := by omega
        have b1 : tdB (Den tbl m) [.wref 0, .dat (.int (l : Int)), .dat (wsD Ws), .own acc, .dat x, s5, s6, s7, s8] w = .ok (.bk [.wref 0, .dat (.int (l : Int)), .dat (wsD Ws), .own acc, .dat x, s5, s6, s7, s8]) w1 := by
          generalize wsD Ws = W1 at *
          unfold tdB
          rw [sSeq_ap, show tdB1 (Den tbl m) [.wref 0, .dat (.int (l : Int)), .dat W1, .own acc, .dat x, s5, s6, s7, s8] w = .ok (.bk [.wref 0, .dat (.int (l : Int)), .dat W1, .own acc, .dat x, s5, s6, s7, s8]) w1 from by simp [h1, e1]]
          rfl
        rw [b1]
        simp only [Tr.ds, List.append_nil]
        rfl
      · have h0' : ¬ (r : Int) = 0 := by omega
        have hl1 : 1 ≤ l := by omega
        obtain ⟨a, s5', s6', s7', w2, e2, t2, a1, a2, a3⟩ := td_node T hW hW1 (m := m) (l := l) hm (hin l hl) (M := sSeq (tdB9 (Den tbl m)) (tdB10 (Den tbl m))) (s3 := .own acc) (s4 := .dat x) (s5 := s5) (s6 := s6) (s7 := s7) (s8 := s8) hl1 t1
        obtain ⟨c, w3, e3, t3, c1⟩ := c_pick T.toHasPk (n := m) hm t2 (m := 5) (by decide) (by decide)
        obtain ⟨g, eg, g1, g2⟩ := ix_cnt (r := c) (by omega)
        have hz1 : acc.length < 16777216 := by omega
        obtain ⟨t, s1', s4', s5'', s6'', s7'', s8', w4, e4, t4, o4, n4, d4⟩ := td_loop hm hin ts ((l : Int) - 2) (l - 2) (acc ++ [.lst [.int (g : Int), a.d]]) w3 (.dat x) s5' s6' s7' (.dat a.d) (by omega) (by omega) (by simp; omega) t3
        have hnd : a.nd + t.nd ≤ nbT l := by
          by_cases h2 : 2 ≤ l
          · have := nbT_step h2
            omega
          · have : l = 1 := by omega
            subst this
            have z : nbT (1 - 2) = 0 := rfl
            rw [nbT_one]
            omega
        refine ⟨.cons g a t, s1', s4', s5'', s6'', s7'', s8', w4, ?_, t4, ⟨⟨g1, g2⟩, a1, o4⟩, hnd, by simp only [Tr.dep]; omega⟩
        have bd : tdB (Den tbl m) [.wref 0, .dat (.int (l : Int)), .dat (wsD Ws), .own acc, .dat x, s5, s6, s7, s8] w = .ok (.nx [.wref 0, .dat (.int ((l : Int) - 2)), .dat (wsD Ws), .own (acc ++ [.lst [.int (g : Int), a.d]]), .dat x, s5', s6', s7', .dat a.d]) w3 := by
          unfold tdB
          rw [seqN (env' := [.wref 0, .dat (.int (l : Int)), .dat (wsD Ws), .own acc, .dat x, s5, s6, s7, s8]) (w' := w1) (by
            generalize wsD Ws = W1 at *
            have hl1 : ¬ l < 1 := by omega
            have hl0 : ¬ l = 0 := by omega
            simp [h1, h0, h0', e1, hl1, hl0])]
          rw [e2]
          generalize wsD Ws = W1 at *
          generalize a.d = AD at *
          rw [seqN (env' := [.wref 0, .dat (.int (l : Int)), .dat W1, .own (acc ++ [.lst [.int (g : Int), AD]]), .dat x, s5', s6', s7', .dat AD]) (w' := w3) (by simp [e3, eg, hz1])]
          simp
        rw [bd]
        rw [List.append_assoc] at e4
        exact e4
theorem c_tree : ∀ (l n : Nat), l + 2 ≤ n → TdAt tbl Ws rest n l
  | l, n, hn => by
    intro w ht
    obtain ⟨m, rfl, hm⟩ := succ_of (k := l + 1) hn
    rw [den_succ T.t591]
    obtain ⟨t, s1', s4', s5', s6', s7', s8', w', e, t', o, nn, d⟩ := td_loop T hW hW1 (m := m) (l0 := l) (by omega) (fun l' h1 h2 => c_tree (l' - 2) m (by omega)) [.int 0, .int 1, .int 2, .int 3] (l : Int) l [] w .un .un .un .un .un (.inl rfl) (Nat.le_refl _) (by decide) ht
    refine ⟨t, w', ?_, t', o, nn, d⟩
    rw [List.nil_append] at e
    show endR (b__law_tree (Den tbl m) [.wref 0, .dat (.int (l : Int)), .dat (wsD Ws), .un, .un, .un, .un, .un, .un] w) = _
    unfold b__law_tree
    rw [seqN (env' := [.wref 0, .dat (.int (l : Int)), .dat (wsD Ws), .own [], .un, .un, .un, .un, .un]) (w' := w) (by
      generalize wsD Ws = W1 at *
      simp)]
    rw [seqN (env' := [.wref 0, s1', .dat (wsD Ws), .own t.ds, s4', s5', s6', s7', s8']) (w' := w') (by
      show Out.bind _ _ = _
      rw [show (iRange rg1 (rCons (dC (.int 4)) rNil)) [.wref 0, .dat (.int (l : Int)), .dat (wsD Ws), .own [], .un, .un, .un, .un, .un] w = .ok [.int 0, .int 1, .int 2, .int 3] w from rfl]
      exact e)]
    rfl
  termination_by l => l
end
end Dl
namespace Dl
open PySem PySem.Spec PyProof.Rows L2 NdefX
def bars (l : List Nat) : Nat := l.countP fun c => decide (c = 124)
theorem bars_app (a b : List Nat) : bars (a ++ b) = bars a + bars b := List.countP_append
theorem cnt_word {p : Nat → Bool} (hp : ∀ c, 97 ≤ c → c ≤ 122 → p c = false) {x : Str} (h : wordB x = true) : (csL x).countP p = 0 := by
  rw [List.countP_eq_zero]
  intro c hc
  have := wordB_all h c hc
  rw [hp c this.1 this.2]
  decide
theorem cnt_dgt {p : Nat → Bool} (hp : ∀ c, 48 ≤ c → c ≤ 57 → p c = false) (n : Nat) : (dgt n).countP p = 0 := by
  rw [List.countP_eq_zero]
  intro c hc
  have := dgt_all n c hc
  rw [hp c this.1 this.2]
  decide
theorem cb_word {x : Str} (h : wordB x = true) : cb (csL x) = 0 := cnt_word (fun c h1 h2 => by simp; omega) h
theorem bars_word {x : Str} (h : wordB x = true) : bars (csL x) = 0 := cnt_word (fun c h1 h2 => by simp; omega) h
theorem cb_dgt (n : Nat) : cb (dgt n) = 0 := cnt_dgt (fun c h1 h2 => by simp; omega) n
theorem bars_dgt (n : Nat) : bars (dgt n) = 0 := cnt_dgt (fun c h1 h2 => by simp; omega) n
theorem doorB_word {x : Str} (h : doorB x = true) : wordB x = true := by
  unfold doorB at h
  exact (Bool.and_eq_true _ _ ▸ h).1
theorem cb_itT (c : Nat) (t : List Nat) : cb (itT c t) = cb t := by
  unfold itT
  rw [cb_app]
  split
  · rw [cb_app, cb_dgt]
    show 0 + 0 + cb t = _
    omega
  · show 0 + cb t = _
    omega
theorem bars_itT (c : Nat) (t : List Nat) : bars (itT c t) = bars t := by
  unfold itT
  rw [bars_app]
  split
  · rw [bars_app, bars_dgt]
    show 0 + 0 + bars t = _
    omega
  · show 0 + bars t = _
    omega
theorem cb_join : ∀ l : List (List Nat), cb (joinT l) = (l.map cb).sum
  | [] => rfl
  | x :: r => by
    have go : ∀ r : List (List Nat), cb (r.flatMap fun y => [32, 124, 32] ++ y) = (r.map cb).sum := by
      intro r
      induction r with
      | nil => rfl
      | cons y r ih =>
        rw [List.flatMap_cons, cb_app, cb_app, ih, List.map_cons, List.sum_cons]
        show 0 + cb y + _ = _
        omega
    rw [joinT, cb_app, go, List.map_cons, List.sum_cons]
theorem bars_join : ∀ l : List (List Nat), bars (joinT l) ≤ (l.map fun x => bars x + 1).sum - 1
  | [] => Nat.le_refl _
  | x :: r => by
    have go : ∀ r : List (List Nat), bars (r.flatMap fun y => [32, 124, 32] ++ y) = (r.map fun x => bars x + 1).sum := by
      intro r
      induction r with
      | nil => rfl
      | cons y r ih =>
        rw [List.flatMap_cons, bars_app, bars_app, ih, List.map_cons, List.sum_cons]
        show 1 + bars y + _ = _
        omega
    rw [joinT, bars_app, go, List.map_cons, List.sum_cons]
    omega
mutual
theorem Nd.cb_le {Ws : List Str} (hW : ∀ x ∈ Ws, wordB x = true) : ∀ a : Nd, a.okW Ws → cb a.txt ≤ 2 * a.nd ∧ bars a.txt + 1 ≤ a.nd
  | .use x, h => by
    show cb (csL x) ≤ 2 * 1 ∧ bars (csL x) + 1 ≤ 1
    rw [cb_word (hW x h), bars_word (hW x h)]
    omega
  | .mark n, h => by
    have e1 : cb (63 :: dgt n) = cb (dgt n) := rfl
    have e2 : bars (63 :: dgt n) = bars (dgt n) := rfl
    show cb (63 :: dgt n) ≤ 2 * 1 ∧ bars (63 :: dgt n) + 1 ≤ 1
    rw [e1, e2, cb_dgt, bars_dgt]
    omega
  | .letter d b, h => by
    have ih := Tr.cb_le hW b h.2
    rw [Nd.txt, cb_app, cb_app, cb_app, bars_app, bars_app, bars_app, cb_word (doorB_word h.1), bars_word (doorB_word h.1), Nd.nd, cb_join]
    have hj := bars_join b.txs
    have e1 : cb [60] = 1 := rfl
    have e2 : cb [62] = 0 := rfl
    have e3 : bars [60] = 0 := rfl
    have e4 : bars [62] = 0 := rfl
    omega
  | .wait d x b br, h => by
    have ih := Tr.cb_le hW b h.2.2
    have hj := bars_join b.txs
    rw [Nd.txt, cb_app, cb_app, cb_app, cb_app, bars_app, bars_app, bars_app, bars_app, cb_word (doorB_word h.1), bars_word (doorB_word h.1), cb_word (hW x h.2.1), bars_word (hW x h.2.1), Nd.nd]
    have e1 : cb [40] = 1 := rfl
    have e2 : cb [41, 58, 32] = 0 := rfl
    have e3 : bars [40] = 0 := rfl
    have e4 : bars [41, 58, 32] = 0 := rfl
    have e5 : cb [41] = 0 := rfl
    have e6 : bars [41] = 0 := rfl
    split
    · rw [cb_app, cb_app, bars_app, bars_app, cb_join]
      omega
    · rw [cb_join]
      omega
theorem Tr.cb_le {Ws : List Str} (hW : ∀ x ∈ Ws, wordB x = true) : ∀ t : Tr, t.okW Ws → (t.txs.map cb).sum ≤ 2 * t.nd ∧ (t.txs.map fun x => bars x + 1).sum ≤ t.nd
  | .nil, h => ⟨Nat.le_refl _, Nat.le_refl _⟩
  | .cons c a r, h => by
    have h1 := Nd.cb_le hW a h.2.1
    have h2 := Tr.cb_le hW r h.2.2
    rw [Tr.txs, List.map_cons, List.sum_cons, List.map_cons, List.sum_cons, cb_itT, bars_itT, Tr.nd]
    omega
end
structure TxB (L c b : Nat) (S : List Nat) : Prop where
  len : S.length ≤ L
  cb : cb S ≤ c
  bars : bars S ≤ b
theorem TxB.cut {L c b L2 c2 b2 i j : Nat} {S p : List Nat} (h : TxB L c b S) (hp : TxB L2 c2 b2 p) (hij : i ≤ j) : TxB (L + L2) (c + c2) (b + b2) (S.take i ++ p ++ S.drop j) := by
  have h1 := h.len
  have h2 := h.cb
  have h3 := h.bars
  have h4 := hp.len
  have h5 := hp.cb
  have h6 := hp.bars
  have e : S = S.take i ++ ((S.drop i).take (j - i) ++ S.drop j) := by
    conv => lhs; rw [← List.take_append_drop i S]
    congr 1
    conv => lhs; rw [← List.take_append_drop (j - i) (S.drop i)]
    rw [List.drop_drop, show i + (j - i) = j by omega]
  have e1 := congrArg List.length e
  have e2 := congrArg Dl.cb e
  have e3 := congrArg Dl.bars e
  rw [List.length_append, List.length_append] at e1
  rw [cb_app, cb_app] at e2
  rw [bars_app, bars_app] at e3
  refine ⟨?_, ?_, ?_⟩
  · rw [List.length_append, List.length_append]; omega
  · rw [cb_app, cb_app]; omega
  · rw [bars_app, bars_app]; omega
theorem TxB.mono {L c b L2 c2 b2 : Nat} {S : List Nat} (h : TxB L c b S) (h1 : L ≤ L2) (h2 : c ≤ c2) (h3 : b ≤ b2) : TxB L2 c2 b2 S := ⟨Nat.le_trans h.len h1, Nat.le_trans h.cb h2, Nat.le_trans h.bars h3⟩
structure HasPc (tbl : Nat → Option DefB) : Prop extends HasPk tbl where
  t595 : tbl 595 = some ⟨1, 4, b__law_piece⟩
def pcA : List Str := ["0", "1", "1 ", "2 ", "10 ", " ", " | ", "|", "<", ">", "(", ")", ":", "): ", "?", "?0", "x", "a(", "a<"]
def pcB : List Str := ["<0>", "(x): ", "abcdefgh", "abcdefghi", repS "9" 60, repS "9" 61, "01", "A", "\n", "(0)", "x | 0"]
def pcS : Str := " !#$&*+,-./0123456789;=@ABCDEFGHIJKLMNOPQRSTUVWXYZ[]^_abcdefghijklmnopqrstuvwxyz{|}~"
theorem pc_all : ∀ x ∈ pcA ++ pcB, (csL x).length ≤ 61 ∧ cb (csL x) ≤ 1 ∧ bars (csL x) ≤ 1 := by decide +kernel
theorem sgn_bounds {x : Str} {z : Str} (h : x ∈ signs z) : TxB 61 1 1 (csL x) := by
  unfold signs at h
  obtain ⟨c, _, rfl⟩ := List.mem_map.mp h
  have e : csL ⟨#[c]⟩ = [c] := rfl
  rw [e]
  have h1 : cb [c] ≤ 1 := List.countP_le_length
  have h2 : bars [c] ≤ 1 := List.countP_le_length
  exact ⟨by rw [List.length_singleton]; decide, h1, h2⟩
section
variable {tbl : Nat → Option DefB} (T : HasPc tbl) {rest : World}
include T
theorem c_piece {n : Nat} {w : World} (hn : 2 ≤ n) (ht : TapeOk rest w) : ∃ (p : List Nat) (w' : World), (Den tbl n).call 595 [.wref 0] w = .ok (.dat (strD p)) w' ∧ TapeOk rest w' ∧ TxB 61 1 1 p := by
  obtain ⟨m, rfl, hm⟩ := succ_of (k := 1) hn
  have hl : ((pcA ++ pcB).map D.str).length = 30 := by decide +kernel
  obtain ⟨r, w1, e1, t1, r1⟩ := c_pick T.toHasPk (n := m) hm ht (m := 36) (by decide) (by decide)
  have m60 : gMulS (.str "9") (.int 60) = some (.dat (.str (repS "9" 60))) := by
    rw [gMulS_s, if_pos ⟨by decide, by decide, by decide +kernel, by decide +kernel, by decide +kernel⟩]
  have m61 : gMulS (.str "9") (.int 61) = some (.dat (.str (repS "9" 61))) := by
    rw [gMulS_s, if_pos ⟨by decide, by decide, by decide +kernel, by decide +kernel, by decide +kernel⟩]
  have hA : pcA.map D.str = [.str "0", .str "1", .str "1 ", .str "2 ", .str "10 ", .str " ", .str " | ", .str "|", .str "<", .str ">", .str "(", .str ")", .str ":", .str "): ", .str "?", .str "?0", .str "x", .str "a(", .str "a<"] := rfl
  have hB : pcB.map D.str = [.str "<0>", .str "(x): ", .str "abcdefgh", .str "abcdefghi", .str (repS "9" 60), .str (repS "9" 61), .str "01", .str "A", .str "\n", .str "(0)", .str "x | 0"] := rfl
  have ga : gAdd (.lst (pcA.map D.str)) (.lst (pcB.map D.str)) = some (.fresh ((pcA ++ pcB).map .str)) := by
    rw [gAdd_l, if_pos (by rw [sizeLine_eq]; decide +kernel), List.map_append]
  rw [den_succ T.t595]
  show ∃ (p : List Nat) (w' : World), endR (b__law_piece (Den tbl m) [.wref 0, .un, .un, .un] w) = _ ∧ _
  unfold b__law_piece
  rw [seqN (env' := [.wref 0, .own (pcA.map .str), .un, .un]) (w' := w) (by rw [hA]; rfl)]
  rw [seqN (env' := [.wref 0, .own ((pcA ++ pcB).map .str), .un, .un]) (w' := w) (by
    rw [hB] at ga
    generalize pcA.map D.str = A at *
    generalize (pcA ++ pcB).map D.str = AB at *
    generalize repS "9" 60 = N1 at *
    generalize repS "9" 61 = N2 at *
    simp [m60, m61, ga, -gMulS_s, -gAdd_l])]
  rw [seqN (env' := [.wref 0, .own ((pcA ++ pcB).map .str), .dat (.str pcS), .un]) (w' := w) (by
    generalize (pcA ++ pcB).map D.str = AB at *
    simp [pcS])]
  rw [seqN (env' := [.wref 0, .own ((pcA ++ pcB).map .str), .dat (.str pcS), .dat (.int (r : Int))]) (w' := w1) (by
    generalize (pcA ++ pcB).map D.str = AB at *
    simp [hl, e1])]
  by_cases hr : r < 30
  · have hi : r < (pcA ++ pcB).length := by
      rw [List.length_map] at hl
      omega
    have ea : atI ((pcA ++ pcB).map D.str) (r : Int) = some (.str ((pcA ++ pcB)[r])) := by
      rw [atI_get (by rw [hl]; exact hr), List.getElem_map]
    have hb := pc_all _ (List.getElem_mem hi)
    refine ⟨csL ((pcA ++ pcB)[r]), w1, ?_, t1, hb.1, hb.2.1, hb.2.2⟩
    rw [strD_cs]
    generalize (pcA ++ pcB)[r] = X at *
    generalize (pcA ++ pcB).map D.str = AB at *
    have hr' : (r : Int) < 30 := by omega
    rw [seqR (r := .dat (.str X)) (w' := w1) (by simp [hl, hr, hr', ea])]
    rfl
  · have hS : (pcS.length : Int) = 84 ∧ pcS.length = 84 := by decide +kernel
    obtain ⟨q, w2, e2, t2, q1⟩ := c_pick T.toHasPk (n := m) hm t1 (m := 84) (by decide) (by decide)
    obtain ⟨x, ex, hx⟩ := ix_sign (z := pcS) (i := q) (by rw [hS.2]; omega)
    refine ⟨csL x, w2, ?_, t2, sgn_bounds hx⟩
    rw [strD_cs]
    generalize (pcA ++ pcB).map D.str = AB at *
    have hr' : ¬ (r : Int) < 30 := by omega
    have hr2 : ¬ r < 30 := by omega
    rw [seqN (env' := [.wref 0, .own AB, .dat (.str pcS), .dat (.int (r : Int))]) (w' := w1) (by simp [hl, hr2, hr'])]
    generalize pcS = PS at *
    simp [hS.1, e2, ex]
end
structure HasSp24 (tbl : Nat → Option DefB) : Prop extends HasPc tbl where
  t596 : tbl 596 = some ⟨2, 4, b__law_spoiled_596⟩
theorem gSl_to {S : List Nat} (i : Nat) : gSl none (some (i : Int)) (strD S) = some (.dat (strD (S.take i))) := by
  unfold strD
  rw [gSl_sL, cutD_to]
theorem gSl_from {S : List Nat} (i : Nat) : gSl (some (i : Int)) none (strD S) = some (.dat (strD (S.drop i))) := by
  unfold strD
  rw [gSl_sL, cutD_from]
theorem len_strD {S : List Nat} : cLen [strD S] = some (.dat (.int (S.length : Int))) := rfl
section
variable {tbl : Nat → Option DefB} (T : HasSp24 tbl) {rest : World}
include T
theorem c_spoiled {n L c b : Nat} {S : List Nat} {w : World} (hn : 3 ≤ n) (hS : TxB L c b S) (hL : L ≤ 100000) (ht : TapeOk rest w) : ∃ (R : List Nat) (w' : World), (Den tbl n).call 596 [.wref 0, .dat (strD S)] w = .ok (.dat (strD R)) w' ∧ TapeOk rest w' ∧ TxB (L + 61) (c + 1) (b + 1) R := by
  obtain ⟨m, rfl, hm⟩ := succ_of (k := 2) hn
  have hl := hS.len
  obtain ⟨i, w1, e1, t1, i1⟩ := c_pick T.toHasPk (n := m) (by omega) ht (m := ((S.length : Nat) : Int) + 1) (by omega) (by omega)
  obtain ⟨k, w2, e2, t2, k1⟩ := c_pick T.toHasPk (n := m) (by omega) t1 (m := 5) (by decide) (by decide)
  have g1 := gSl_to (S := S) i
  have ln := len_strD (S := S)
  have nil : TxB 61 1 1 [] := ⟨by decide, by decide, by decide⟩
  have hcutl : ∀ j p, p.length ≤ 61 → (S.take i ++ p).length + (S.drop j).length ≤ 16000000 := fun j p hp => by
    rw [List.length_append, List.length_take, List.length_drop]; omega
  rw [den_succ T.t596]
  show ∃ (R : List Nat) (w' : World), endR (b__law_spoiled_596 (Den tbl m) [.wref 0, .dat (strD S), .un, .un] w) = _ ∧ _
  unfold b__law_spoiled_596
  rw [seqN (env' := [.wref 0, .dat (strD S), .dat (.int (i : Int)), .un]) (w' := w1) (by
    generalize strD S = SD at *
    simp [ln, e1])]
  rw [seqN (env' := [.wref 0, .dat (strD S), .dat (.int (i : Int)), .dat (.int (k : Int))]) (w' := w2) (by
    generalize strD S = SD at *
    simp [e2])]
  by_cases hk0 : k = 0
  · subst hk0
    obtain ⟨q, w3, e3, t3, q1⟩ := c_pick T.toHasPk (n := m) (by omega) t2 (m := 3) (by decide) (by decide)
    have g2 := gSl_from (S := S) (i + 1 + q)
    have ec : ((i + 1 + q : Nat) : Int) = (i : Int) + 1 + (q : Int) := by push_cast; rfl
    rw [ec] at g2
    have ga := gAddD (a := S.take i) (b := S.drop (i + 1 + q)) (by rw [List.length_take, List.length_drop]; omega)
    refine ⟨S.take i ++ S.drop (i + 1 + q), w3, ?_, t3, ?_⟩
    · generalize strD (S.take i ++ S.drop (i + 1 + q)) = R at *
      generalize strD (S.take i) = R1 at *
      generalize strD (S.drop (i + 1 + q)) = R2 at *
      generalize strD S = SD at *
      rw [seqR (r := .dat R) (w' := w3) (by simp [dSl, g1, g2, e3, ga])]
      rfl
    · have := hS.cut nil (show i ≤ i + 1 + q by omega)
      rw [List.append_nil] at this
      exact this
  · have hk0' : ¬ (k : Int) = 0 := by omega
    rw [seqN (env' := [.wref 0, .dat (strD S), .dat (.int (i : Int)), .dat (.int (k : Int))]) (w' := w2) (by
      generalize strD S = SD at *
      simp [hk0, hk0'])]
    by_cases hk1 : k = 1
    · subst hk1
      refine ⟨S.take i, w2, ?_, t2, ?_⟩
      · generalize strD (S.take i) = R at *
        generalize strD S = SD at *
        rw [seqR (r := .dat R) (w' := w2) (by simp [dSl, g1])]
        rfl
      · have := hS.cut nil (show i ≤ i + S.length by omega)
        rw [List.append_nil, List.drop_eq_nil_of_le (by omega), List.append_nil] at this
        exact this
    · have hk1' : ¬ (k : Int) = 1 := by omega
      obtain ⟨p, w3, e3, t3, hp⟩ := c_piece T.toHasPc (n := m) (by omega) t2
      have hk4 : gFdiv (.int (k : Int)) (.int 4) = some (.dat (.int ((k / 4 : Nat) : Int))) := by
        rw [gFdiv_i, if_pos ⟨by decide, .inl (by decide)⟩]
        rfl
      have g2 := gSl_from (S := S) (i + k / 4)
      have ec : ((i + k / 4 : Nat) : Int) = (i : Int) + ((k / 4 : Nat) : Int) := by push_cast; rfl
      rw [ec] at g2
      have hpl := hp.len
      have ga1 := gAddD (a := S.take i) (b := p) (by rw [List.length_take]; omega)
      have ga2 := gAddD (a := S.take i ++ p) (b := S.drop (i + k / 4)) (hcutl _ _ hpl)
      refine ⟨S.take i ++ p ++ S.drop (i + k / 4), w3, ?_, t3, hS.cut hp (by omega)⟩
      generalize strD (S.take i ++ p ++ S.drop (i + k / 4)) = R at *
      generalize strD (S.take i ++ p) = R0 at *
      generalize strD (S.take i) = R1 at *
      generalize strD (S.drop (i + k / 4)) = R2 at *
      generalize strD S = SD at *
      generalize strD p = PD at *
      generalize ((k / 4 : Nat) : Int) = K4 at *
      rw [seqN (env' := [.wref 0, .dat SD, .dat (.int (i : Int)), .dat (.int (k : Int))]) (w' := w2) (by simp [hk1, hk1'])]
      simp [dSl, g1, g2, e3, hk4, ga1, ga2, -gFdiv_i]
end
structure HasDt (tbl : Nat → Option DefB) : Prop extends HasSp24 tbl, HasTd tbl, HasTw tbl, HasDr tbl where
  t602 : tbl 602 = some ⟨1, 4, b__law_drawn_text⟩
section
variable {tbl : Nat → Option DefB} (T : HasDt tbl) {rest : World}
include T
theorem sp_turns {m : Nat} (hm : 3 ≤ m) {s1 : Sl} : ∀ (ts : List D) (S : List Nat) (L c b : Nat) (w : World) (s3 : Sl), TxB L c b S → L + 61 * ts.length ≤ 100000 → TapeOk rest w →
    ∃ (R : List Nat) (w' : World) (u3 : Sl), forGo (gN 3) (sSet 2 (dCall (Den tbl m) 596 (aCons (dName 0) (aCons (dName 2) aNil)))) ts [.wref 0, s1, .dat (strD S), s3] w = .ok (.nx [.wref 0, s1, .dat (strD R), u3]) w' ∧ TapeOk rest w' ∧ TxB (L + 61 * ts.length) (c + ts.length) (b + ts.length) R
  | [], S, L, c, b, w, s3, h, _, ht => ⟨S, w, s3, rfl, ht, h⟩
  | t :: ts, S, L, c, b, w, s3, h, hz, ht => by
    simp only [List.length_cons] at hz
    obtain ⟨R, w1, e1, t1, h1⟩ := c_spoiled T.toHasSp24 (n := m) hm h (by omega) ht
    obtain ⟨R2, w2, u3, e2, t2, h2⟩ := sp_turns hm (s1 := s1) ts R (L + 61) (c + 1) (b + 1) w1 (.dat t) h1 (by omega) t1
    refine ⟨R2, w2, u3, ?_, t2, h2.mono (by rw [List.length_cons]; omega) (by rw [List.length_cons]; omega) (by rw [List.length_cons]; omega)⟩
    rw [for_cons, gN_ap]
    simp only [List.set_cons_succ, List.set_cons_zero]
    have st : sSet 2 (dCall (Den tbl m) 596 (aCons (dName 0) (aCons (dName 2) aNil))) [.wref 0, s1, .dat (strD S), .dat t] w = .ok (.nx [.wref 0, s1, .dat (strD R), .dat t]) w1 := by
      generalize strD S = SD at *
      generalize strD R = RD at *
      simp [e1]
    rw [st]
    exact e2
theorem c_drawn_text {n : Nat} {w : World} (hn : 20 ≤ n) (ht : TapeOk rest w) : ∃ (S : List Nat) (w' : World), (Den tbl n).call 602 [.wref 0] w = .ok (.dat (strD S)) w' ∧ TapeOk rest w' ∧ TxB 2100 65 34 S := by
  obtain ⟨m, rfl, hm⟩ := succ_of (k := 19) hn
  obtain ⟨x, w1, e1, t1, hx⟩ := c_drawn T.toHasDr (n := m) (by omega) ht
  obtain ⟨j, w2, e2, t2, j1⟩ := c_pick T.toHasPk (n := m) (by omega) t1 (m := 9) (by decide) (by decide)
  obtain ⟨Ws, hWs⟩ : ∃ Ws : List Str, Ws = (["x", "a", x] : List Str) := ⟨_, rfl⟩
  have hW : ∀ y ∈ Ws, wordB y = true := fun y hy => by
    rw [hWs] at hy
    simp only [List.mem_cons, List.not_mem_nil, or_false] at hy
    rcases hy with rfl | rfl | rfl
    · decide +kernel
    · decide +kernel
    · exact hx
  obtain ⟨t, w3, e3, t3, ot, nt, dt⟩ := c_tree T.toHasTd (Ws := Ws) (rest := rest) (by rw [hWs]; simp) (by rw [hWs]; simp) (1 + j) m (by omega) w2 t2
  have nt2 : t.nd ≤ 31 := by
    have : nbT (1 + j) ≤ nbT 9 := by
      unfold nbT
      have := Nat.pow_le_pow_right (n := 2) (by decide) (show (1 + j + 1) / 2 ≤ (9 + 1) / 2 by omega)
      omega
    have : nbT 9 = 31 := rfl
    omega
  have cw := c_written T.toHasTw hW (t := t) (n := m) (w := w3) (by omega) ot (by omega)
  have tl := Tr.txt_le hW ot
  have tc := Tr.cb_le hW t ot
  have tb : TxB 1861 62 30 (joinT t.txs) := ⟨by omega, by rw [cb_join]; omega, by have := bars_join t.txs; omega⟩
  obtain ⟨k, w4, e4, t4, k1⟩ := c_pick T.toHasPk (n := m) (by omega) t3 (m := 4) (by decide) (by decide)
  obtain ⟨R, w5, u3, e5, t5, h5⟩ := sp_turns T (m := m) (by omega) (s1 := .dat (wsD Ws)) (rngD 0 ((k : Nat) : Int)) (joinT t.txs) 1861 62 30 w4 .un tb (by rw [rngD_nat]; simp; omega) t4
  have hk : (rngD 0 ((k : Nat) : Int)).length = k := by rw [rngD_nat]; simp
  refine ⟨R, w5, ?_, t5, h5.mono (by rw [hk]; omega) (by rw [hk]; omega) (by rw [hk]; omega)⟩
  rw [den_succ T.t602]
  show endR (b__law_drawn_text (Den tbl m) [.wref 0, .un, .un, .un] w) = _
  unfold b__law_drawn_text
  rw [seqN (env' := [.wref 0, .dat (wsD Ws), .un, .un]) (w' := w1) (by
    have : wsD Ws = .lst [.str "x", .str "a", .str x] := by rw [hWs]; rfl
    rw [this]
    simp [e1])]
  rw [seqN (env' := [.wref 0, .dat (wsD Ws), .dat (strD (joinT t.txs)), .un]) (w' := w3) (by
    rw [show ((1 + j : Nat) : Int) = 1 + (j : Int) by push_cast; rfl] at e3
    generalize strD (joinT t.txs) = TD at *
    generalize wsD Ws = WD at *
    generalize t.ds = DS at *
    simp [e2, e3, cw])]
  rw [seqN (a := sFor _ _ _) (env' := [.wref 0, .dat (wsD Ws), .dat (strD R), u3]) (w' := w5) (by
    have er : iRange rg1 (rCons (dCall (Den tbl m) 11 (aCons (dName 0) (aCons (dC (.int 4)) aNil))) rNil) [.wref 0, .dat (wsD Ws), .dat (strD (joinT t.txs)), .un] w3 = .ok (rngD 0 ((k : Nat) : Int)) w4 := by
      generalize wsD Ws = WD at *
      generalize strD (joinT t.txs) = TD at *
      have ev : (rCons (dCall (Den tbl m) 11 (aCons (dName 0) (aCons (dC (.int 4)) aNil))) rNil) [.wref 0, .dat WD, .dat TD, .un] w3 = .ok [.dat (.int (k : Int))] w4 := by simp [e4]
      have hb : ((k : Nat) : Int) ≤ 200 := by omega
      have hb0 : 0 ≤ ((k : Nat) : Int) := by omega
      generalize ((k : Nat) : Int) = N at *
      show Out.bind _ _ = _
      rw [ev]
      show (if (N - 0).toNat ≤ 16777216 ∧ -(2 ^ 62) ≤ (0 : Int) ∧ (0 : Int) < 2 ^ 62 ∧ -(2 ^ 62) ≤ N ∧ N < 2 ^ 62 then Out.ok (rngD 0 N) w4 else .stuck) = _
      rw [if_pos ⟨by omega, by decide, by decide, by omega, by omega⟩]
    show Out.bind _ _ = _
    rw [er]
    exact e5)]
  generalize wsD Ws = WD at *
  generalize strD R = RD at *
  simp
end
end Dl
namespace Dl
open PySem PySem.Spec PyProof.Rows L2 NdefX
structure HasPl24 (tbl : Nat → Option DefB) : Prop extends HasRe tbl where
  t605 : tbl 605 = some ⟨1, 4, b__law_place⟩
  t606 : tbl 606 = some ⟨1, 4, b__law_begins⟩
theorem TapeOk.more {rest w : World} (h : TapeOk rest w) (m : World) : TapeOk (rest ++ m) (w ++ m) := by
  obtain ⟨ns, pos, c2, c3, c4, e, h⟩ := h
  exact ⟨ns, pos, c2, c3, c4, by rw [e]; rfl, h⟩
theorem plc_of {f : Nat} {S : List Nat} {x : Rd (List It)} (h : rAll f S = some x) : plcD S = match x with
    | .ok _ _ => .non
    | .bad r => .int ((S.length - r.length : Nat) : Int) := by
  have := all_agr h
  unfold plcD
  cases x with
  | ok L r => rw [show runA .plan [] S = none from this]
  | bad r => rw [show runA .plan [] S = some r from this]
section
variable {tbl : Nat → Option DefB} (T : HasPl24 tbl)
include T
theorem c_place24 {n f : Nat} {S : List Nat} {w : World} (hn : 4 * f + 11 ≤ n) (hl : S.length ≤ 1000000) (hf : f ≤ 1000) (hc : cb S < f) : ∃ more, (Den tbl n).call 605 [.dat (strD S)] w = .ok (.dat (plcD S)) (w ++ more) := by
  obtain ⟨m, rfl, hm⟩ := succ_of (k := 4 * f + 10) hn
  rw [den_succ T.t605]
  obtain ⟨x, e⟩ := rAll_tot hc
  have c := c_read T.toHasRe (n := m) (w := w) hm hl hf e
  have hp := plc_of e
  have m1 : mtL mt24 "BadText" "BadText" = some true := by decide +kernel
  show ∃ more, endR (b__law_place (Den tbl m) [.dat (strD S), .un, .un, .un] w) = _
  unfold b__law_place
  cases x with
  | ok L r =>
    have c : _ = _ := c
    have hp : plcD S = .non := hp
    refine ⟨[rdO S []], ?_⟩
    rw [hp]
    generalize w ++ [rdO S []] = w1 at *
    generalize strD S = SD at *
    have ht : (D.tup (L.map itD)).isTy Ty.tuple = true := rfl
    generalize L.map itD = LD at *
    rw [seqN (env' := [.dat SD, .dat .non, .un, .un]) (w' := w) (by simp)]
    rw [seqN (env' := [.dat SD, .dat .non, .dat (.tup []), .un]) (w' := w) (by simp)]
    rw [seqN (env' := [.dat SD, .dat .non, .dat (.tup LD), .un]) (w' := w1) (by simp [noOw, c])]
    rw [seqN (env' := [.dat SD, .dat .non, .dat (.tup LD), .un]) (w' := w1) (by simp [ht])]
    simp
  | bad r =>
    obtain ⟨e', c⟩ := c
    have hp : plcD S = .int ((S.length - r.length : Nat) : Int) := hp
    refine ⟨[rdO S r], ?_⟩
    rw [hp]
    unfold bdX at c
    generalize ((S.length - r.length : Nat) : Int) = P at *
    generalize w ++ [rdO S r] = w1 at *
    generalize strD S = SD at *
    rw [seqN (env' := [.dat SD, .dat .non, .un, .un]) (w' := w) (by simp)]
    rw [seqN (env' := [.dat SD, .dat .non, .dat (.tup []), .un]) (w' := w) (by simp)]
    rw [seqN (env' := [.dat SD, .dat (.int P), .dat (.tup []), .un]) (w' := w1) (by simp [noOw, c, tryGoM, m1, noEx, unbF])]
    rw [seqN (env' := [.dat SD, .dat (.int P), .dat (.tup []), .un]) (w' := w1) (by simp [D.isN])]
    simp
theorem in_non {rm : Nat} {b : Int} (h : 1 ≤ rm) : inD false rm .non (.lst [.non, .int b]) = some (.dat (.bl true)) := by
  show (if 1 + min (depAll [.non, .int b]) (D.dep .non) ≤ rm then some (RV.dat (.bl (false ^^ [D.non, .int b].any fun y => y.eq .non))) else none) = _
  rw [if_pos (by show 1 + min _ 0 ≤ rm; omega)]
  rfl
theorem in_int {rm : Nat} {j b : Int} (h : 1 ≤ rm) : inD false rm (.int j) (.lst [.non, .int b]) = some (.dat (.bl (decide (b = j)))) := by
  show (if 1 + min (depAll [.non, .int b]) (D.dep (.int j)) ≤ rm then some (RV.dat (.bl (false ^^ [D.non, .int b].any fun y => y.eq (.int j)))) else none) = _
  rw [if_pos (by show 1 + min _ 0 ≤ rm; omega)]
  have e : (D.non).eq (.int j) = false := rfl
  have e2 : (D.int b).eq (.int j) = decide (b = j) := eq_ii
  simp [e, e2]
abbrev bgT (C : Cs) : Tst := (dTst (dBin (inD false C.room) (dCall C 605 (aCons (dBin gAdd (dName 0) (dName 3)) aNil)) (dLst (aCons (dC .non) (aCons (dBin gAdd (dBlt cLen (rCons (dName 0) rNil)) (dC (.int 1))) aNil)))))
theorem go_signs {n f : Nat} {S : List Nat} {s1 : Sl} (hn : 4 * f + 11 ≤ n) (hl : S.length ≤ 900000) (hf : f ≤ 1000) (hc : cb S + 1 < f) : ∀ (l : List Nat) (w : World), ∃ (res : List D) (more : World), compGo (gN 3) (bgT (Den tbl n)) (dName 3) [.dat (strD S), s1, .un, .un] (l.map fun c => strD [c]) w = .ok res (w ++ more) ∧ ((∃ c ∈ l, GoesA (S ++ [c])) → res ≠ [])
  | [], w => ⟨[], [], by simp [compGo], fun ⟨c, hc, _⟩ => (List.not_mem_nil hc).elim⟩
  | c :: l, w => by
    have hr : (Den tbl n).room = 16 * n + 200 := den_room tbl n
    have h1 : cb [c] ≤ 1 := List.countP_le_length
    obtain ⟨m1, e1⟩ := c_place24 T (n := n) (f := f) (S := S ++ [c]) (w := w) hn (by rw [List.length_append, List.length_singleton]; omega) hf (by rw [cb_app]; omega)
    obtain ⟨res, m2, e2, g2⟩ := go_signs (s1 := s1) hn hl hf hc l (w ++ m1)
    have ga := gAddD (a := S) (b := [c]) (by rw [List.length_singleton]; omega)
    have ln : cLen [strD S] = some (.dat (.int (S.length : Int))) := len_strD
    have hI : (∃ b : Bool, inD false (Den tbl n).room (plcD (S ++ [c])) (.lst [.non, .int ((S.length : Int) + 1)]) = some (.dat (.bl b)) ∧ (GoesA (S ++ [c]) → b = true)) := by
      by_cases hg : GoesA (S ++ [c])
      · refine ⟨true, ?_, fun _ => rfl⟩
        rcases plc_goes hg with h | ⟨h, _⟩
        · rw [h]; exact in_non T (by omega)
        · rw [h, in_int T (by omega), List.length_append, List.length_singleton]
          simp
      · obtain ⟨i, hi, h, _⟩ := plc_wrong hg
        rw [h]
        exact ⟨_, in_int T (by omega), fun z => absurd z hg⟩
    obtain ⟨b, hb, hbg⟩ := hI
    rw [List.map_cons]
    rw [List.append_assoc] at e2
    cases b with
    | true =>
      refine ⟨strD [c] :: res, m1 ++ m2, ?_, fun _ => by simp⟩
      generalize w ++ (m1 ++ m2) = w2 at *
      generalize w ++ m1 = w1 at *
      generalize strD (S ++ [c]) = R at *
      generalize strD [c] = CD at *
      generalize l.map (fun c => strD [c]) = LD at *
      generalize strD S = SD at *
      generalize plcD (S ++ [c]) = V at *
      generalize (S.length : Int) = N at *
      rw [go_cons]
      simp [ga, e1, ln, hb, e2]
    | false =>
      refine ⟨res, m1 ++ m2, ?_, fun ⟨d, hd, hg⟩ => g2 ?_⟩
      · generalize w ++ (m1 ++ m2) = w2 at *
        generalize w ++ m1 = w1 at *
        generalize strD (S ++ [c]) = R at *
        generalize strD [c] = CD at *
        generalize l.map (fun c => strD [c]) = LD at *
        generalize strD S = SD at *
        generalize plcD (S ++ [c]) = V at *
        generalize (S.length : Int) = N at *
        rw [go_cons]
        simp [ga, e1, ln, hb, e2]
      · rcases List.mem_cons.mp hd with rfl | z
        · exact absurd (hbg hg) (by decide)
        · exact ⟨d, z, hg⟩
theorem c_begins {n f : Nat} {S : List Nat} {w : World} (hn : 4 * f + 12 ≤ n) (hl : S.length ≤ 900000) (hf : f ≤ 1000) (hc : cb S + 1 < f) (hg : GoesA S) : ∃ more, (Den tbl n).call 606 [.dat (strD S)] w = .ok (.dat (.bl true)) (w ++ more) := by
  obtain ⟨m, rfl, hm⟩ := succ_of (k := 4 * f + 11) hn
  rw [den_succ T.t606]
  have hr : (Den tbl m).room = 16 * m + 200 := den_room tbl m
  obtain ⟨m1, e1⟩ := c_place24 T (n := m) (f := f) (S := S) (w := w) hm (by omega) hf (by omega)
  show ∃ more, endR (b__law_begins (Den tbl m) [.dat (strD S), .un, .un, .un] w) = _
  unfold b__law_begins
  have ln : cLen [strD S] = some (.dat (.int (S.length : Int))) := len_strD
  rcases plc_goes hg with h | ⟨h, hs⟩
  · refine ⟨m1, ?_⟩
    rw [h] at e1
    generalize w ++ m1 = w1 at *
    generalize strD S = SD at *
    rw [seqN (env' := [.dat SD, .dat .non, .un, .un]) (w' := w1) (by simp [e1])]
    rw [seqR (r := .dat (.bl true)) (w' := w1) (by simp [D.isN])]
    rfl
  · obtain ⟨res, m2, e2, g2⟩ := go_signs T (n := m) (f := f) (S := S) (s1 := .dat (.int (S.length : Int))) hm hl hf hc sgL (w ++ m1)
    have hne : 0 < (res.length : Int) := by
      have := List.length_pos_iff.mpr (g2 hs)
      omega
    have hch : chs "0a) >:|" = sgL.map fun c => strD [c] := by
      rw [show ("0a) >:|" : Str) = sL sgL by decide +kernel, chs_sL]
    refine ⟨m1 ++ m2, ?_⟩
    rw [h] at e1
    rw [List.append_assoc] at e2
    generalize w ++ (m1 ++ m2) = w2 at *
    generalize w ++ m1 = w1 at *
    rw [seqN (env' := [.dat (strD S), .dat (.int (S.length : Int)), .un, .un]) (w' := w1) (by
      generalize strD S = SD at *
      simp [e1])]
    rw [seqN (env' := [.dat (strD S), .dat (.int (S.length : Int)), .un, .un]) (w' := w1) (by
      generalize strD S = SD at *
      simp [D.isN])]
    rw [seqN (env' := [.dat (strD S), .dat (.int (S.length : Int)), .un, .un]) (w' := w1) (by
      generalize strD S = SD at *
      generalize (S.length : Int) = N at *
      simp [ln, D.isTy])]
    rw [seqN (env' := [.dat (strD S), .dat (.int (S.length : Int)), .own res, .un]) (w' := w2) (by
      show Out.bind (dComp _ _ _ _ _ _ _) _ = _
      rw [dComp_ap, show iTxt (dC (.str "0a) >:|")) [.dat (strD S), .dat (.int (S.length : Int)), .un, .un] w1 = .ok (chs "0a) >:|") w1 by
        rfl, hch]
      simp only [bind_ok, wipe_cons, wipe_nil, List.set_cons_succ, List.set_cons_zero]
      rw [e2]
      rfl)]
    generalize strD S = SD at *
    have hne2 : 0 < res.length := by omega
    simp [hne, hne2]
end
end Dl
namespace Dl
open PySem PySem.Spec PyProof.Rows L2 NdefX
structure Has24 (tbl : Nat → Option DefB) : Prop extends HasDt tbl, HasPl24 tbl where
  t22 : tbl 22 = some ⟨1, 1, b__law_tape⟩
abbrev y1 (C : Cs) : Sd := (sSet 3 (dCall C 602 (aCons (dName 1) aNil)))
abbrev y2 (C : Cs) : Sd := (sSet 4 (dCall C 605 (aCons (dName 3) aNil)))
abbrev yA1 (C : Cs) : Sd := (sIf (tNot' (dTru (dCall C 606 (aCons (dSl (dName 3) none (some (dCall C 11 (aCons (dName 1) (aCons (dBin gAdd (dBlt cLen (rCons (dName 3) rNil)) (dC (.int 1))) aNil))))) aNil)))) (sRet (dC (.bl false))) sNil)
abbrev yA2 (C : Cs) : Sd := (sIf (tNot' (dTru (dCall C 606 (aCons (dName 3) aNil)))) (sRet (dC (.bl false))) sNil)
abbrev yA (C : Cs) : Sd := (sSeq (sFor (iRange rg1 (rCons (dC (.int 5)) rNil)) (gN 5) (yA1 C)) (yA2 C))
abbrev yB1 (C : Cs) : Sd := (sIf (tOr' (dTru (dIsi .bool (dName 4))) (tOr' (dTst (dBin (gLt C.room) (dName 4) (dC (.int 0)))) (tOr' (dTst (dBin (gGt C.room) (dName 4) (dBlt cLen (rCons (dName 3) rNil)))) (tNot' (dTru (dCall C 606 (aCons (dSl (dName 3) none (some (dName 4))) aNil))))))) (sRet (dC (.bl false))) sNil)
abbrev yB2 (C : Cs) : Sd := (sSet 6 (dSl (dName 3) none (some (dBin gAdd (dName 4) (dC (.int 1))))))
abbrev yBl (C : Cs) : Ex := (dLst (aCons (dC (.str "")) (aCons (dC (.str "0")) (aCons (dC (.str " | x")) (aCons (dC (.str ">")) (aCons (dC (.str "a<0>")) (aCons (dCall C 595 (aCons (dName 1) aNil)) (aCons (dCall C 595 (aCons (dName 1) aNil)) aNil))))))))
abbrev yB3 (C : Cs) : Sd := (sIf (dTst (dBin (gNe C.room) (dCall C 605 (aCons (dBin gAdd (dName 6) (dName 7)) aNil)) (dName 4))) (sRet (dC (.bl false))) sNil)
abbrev yB (C : Cs) : Sd := (sSeq (yB1 C) (sSeq (yB2 C) (sFor (iSeq (yBl C)) (gN 7) (yB3 C))))
abbrev yT (C : Cs) : Tst := (tOr' (dTst (dBin gIs (dName 4) (dC .non))) (dTst (dBin (gEq C.room) (dName 4) (dBlt cLen (rCons (dName 3) rNil)))))
abbrev y24body (C : Cs) : Sd := sSeq (y1 C) (sSeq (y2 C) (sIf (yT C) (yA C) (yB C)))
abbrev y24top (C : Cs) : Sd := (sSetW 1 (dCall C 22 (aCons (dName 0) aNil)))
abbrev y24for (C : Cs) : Sd := (sFor (iRange rg1 (rCons (dC (.int 3)) rNil)) (gN 2) (y24body C))
abbrev y24end : Sd := (sRet (dC (.bl true)))
theorem law24_eq (C : Cs) : b_law_607 C = sSeq (y24top C) (sSeq (y24for C) y24end) := rfl
def tlL (p q : List Nat) : List (List Nat) := [[], [48], [32, 124, 32, 120], [62], [97, 60, 48, 62], p, q]
section
variable {tbl : Nat → Option DefB} (T : Has24 tbl) {n : Nat} (hn : 300 ≤ n)
include T hn
theorem yA_turns {S : List Nat} (hS : TxB 2100 65 34 S) (hg : GoesA S) {s0 s2 s4 s6 s7 : Sl} : ∀ (ts : List D) (rest w : World) (s5 : Sl), TapeOk rest w →
    ∃ (rest' w' : World) (u5 : Sl), forGo (gN 5) (yA1 (Den tbl n)) ts [s0, .wref 0, s2, .dat (strD S), s4, s5, s6, s7] w = .ok (.nx [s0, .wref 0, s2, .dat (strD S), s4, u5, s6, s7]) w' ∧ TapeOk rest' w'
  | [], rest, w, s5, ht => ⟨rest, w, s5, rfl, ht⟩
  | t :: ts, rest, w, s5, ht => by
    have hl := hS.len
    have hc := hS.cb
    obtain ⟨i, w1, e1, t1, i1⟩ := c_pick T.toHasDt.toHasPk (n := n) (by omega) ht (m := ((S.length : Nat) : Int) + 1) (by omega) (by omega)
    have hcb : cb (S.take i) ≤ cb S := by
      conv => rhs; rw [← List.take_append_drop i S, cb_app]
      omega
    obtain ⟨m1, e2⟩ := c_begins T.toHasPl24 (n := n) (f := 70) (S := S.take i) (w := w1) (by omega) (by rw [List.length_take]; omega) (by omega) (by omega) (hg.take i)
    obtain ⟨rest2, w2, u5, e3, t3⟩ := yA_turns hS hg (s0 := s0) (s2 := s2) (s4 := s4) (s6 := s6) (s7 := s7) ts (rest ++ m1) (w1 ++ m1) (.dat t) (t1.more m1)
    refine ⟨rest2, w2, u5, ?_, t3⟩
    rw [for_cons, gN_ap]
    simp only [List.set_cons_succ, List.set_cons_zero]
    have g1 := gSl_to (S := S) i
    have ln := len_strD (S := S)
    have st : yA1 (Den tbl n) [s0, .wref 0, s2, .dat (strD S), s4, .dat t, s6, s7] w = .ok (.nx [s0, .wref 0, s2, .dat (strD S), s4, .dat t, s6, s7]) (w1 ++ m1) := by
      generalize w1 ++ m1 = w3 at *
      generalize strD (S.take i) = R at *
      generalize strD S = SD at *
      generalize (S.length : Int) = N at *
      simp [dSl, ln, e1, g1, e2]
    rw [st]
    exact e3
theorem yB_turns {S : List Nat} {i : Nat} (hS : S.length ≤ 3000 ∧ cb S ≤ 66) (hg : ∀ t, plcD (S ++ t) = .int (i : Int)) {s0 s1 s2 s3 s5 : Sl} : ∀ (ts : List (List Nat)) (w : World) (s7 : Sl), (∀ t ∈ ts, TxB 61 1 1 t) →
    ∃ (more : World) (u7 : Sl), forGo (gN 7) (yB3 (Den tbl n)) (ts.map strD) [s0, s1, s2, s3, .dat (.int (i : Int)), s5, .dat (strD S), s7] w = .ok (.nx [s0, s1, s2, s3, .dat (.int (i : Int)), s5, .dat (strD S), u7]) (w ++ more)
  | [], w, s7, _ => ⟨[], s7, by rw [List.append_nil]; rfl⟩
  | t :: ts, w, s7, h => by
    have ht := h t (.head _)
    have h1 := ht.len
    have h2 := ht.cb
    obtain ⟨m1, e1⟩ := c_place24 T.toHasPl24 (n := n) (f := 70) (S := S ++ t) (w := w) (by omega) (by rw [List.length_append]; omega) (by omega) (by rw [cb_app]; omega)
    rw [hg] at e1
    obtain ⟨m2, u7, e2⟩ := yB_turns hS hg (s0 := s0) (s1 := s1) (s2 := s2) (s3 := s3) (s5 := s5) ts (w ++ m1) (.dat (strD t)) (fun x hx => h x (.tail _ hx))
    refine ⟨m1 ++ m2, u7, ?_⟩
    rw [List.append_assoc] at e2
    rw [List.map_cons, for_cons, gN_ap]
    simp only [List.set_cons_succ, List.set_cons_zero]
    have ga := gAddD (a := S) (b := t) (by omega)
    have st : yB3 (Den tbl n) [s0, s1, s2, s3, .dat (.int (i : Int)), s5, .dat (strD S), .dat (strD t)] w = .ok (.nx [s0, s1, s2, s3, .dat (.int (i : Int)), s5, .dat (strD S), .dat (strD t)]) (w ++ m1) := by
      generalize w ++ m1 = w3 at *
      generalize strD (S ++ t) = R at *
      generalize strD S = SD at *
      generalize strD t = TD at *
      simp [ga, e1]
    rw [st]
    exact e2
theorem y24_turn {rest w : World} {S0 a2 a3 a4 a5 a6 a7 : Sl} (ht : TapeOk rest w) :
    ∃ (rest' w' : World) (b3 b4 b5 b6 b7 : Sl), y24body (Den tbl n) [S0, .wref 0, a2, a3, a4, a5, a6, a7] w = .ok (.nx [S0, .wref 0, a2, b3, b4, b5, b6, b7]) w' ∧ TapeOk rest' w' := by
  have hr : (Den tbl n).room = 16 * n + 200 := den_room tbl n
  obtain ⟨S, w1, e1, t1, hS⟩ := c_drawn_text T.toHasDt (n := n) (by omega) ht
  have hl := hS.len
  have hc := hS.cb
  obtain ⟨m2, e2⟩ := c_place24 T.toHasPl24 (n := n) (f := 70) (S := S) (w := w1) (by omega) (by omega) (by omega) (by omega)
  have t2 := t1.more m2
  have ln := len_strD (S := S)
  unfold y24body
  rw [seqN (env' := [S0, .wref 0, a2, .dat (strD S), a4, a5, a6, a7]) (w' := w1) (by
    generalize strD S = SD at *
    simp [e1])]
  rw [seqN (env' := [S0, .wref 0, a2, .dat (strD S), .dat (plcD S), a5, a6, a7]) (w' := w1 ++ m2) (by
    generalize w1 ++ m2 = w2 at *
    generalize strD S = SD at *
    generalize plcD S = V at *
    simp [e2])]
  generalize w1 ++ m2 = w2 at *
  by_cases hg : GoesA S
  · have hT : yT (Den tbl n) [S0, .wref 0, a2, .dat (strD S), .dat (plcD S), a5, a6, a7] w2 = .ok true w2 := by
      rcases plc_goes hg with h | ⟨h, _⟩
      · rw [h]
        generalize strD S = SD at *
        simp [D.isN]
      · rw [h]
        generalize strD S = SD at *
        generalize (S.length : Int) = N at *
        simp [D.isN, ln]
    obtain ⟨rest3, w3, u5, e3, t3⟩ := yA_turns T hn hS hg (s0 := S0) (s2 := a2) (s4 := .dat (plcD S)) (s6 := a6) (s7 := a7) [.int 0, .int 1, .int 2, .int 3, .int 4] (rest ++ m2) w2 a5 t2
    obtain ⟨m4, e4⟩ := c_begins T.toHasPl24 (n := n) (f := 70) (S := S) (w := w3) (by omega) (by omega) (by omega) (by omega) hg
    refine ⟨rest3 ++ m4, w3 ++ m4, .dat (strD S), .dat (plcD S), u5, a6, a7, ?_, t3.more m4⟩
    rw [sIf_ap, hT, bind_ok, if_pos rfl]
    unfold yA
    rw [seqN (a := sFor _ _ _) (env' := [S0, .wref 0, a2, .dat (strD S), .dat (plcD S), u5, a6, a7]) (w' := w3) (by
      show Out.bind _ _ = _
      rw [show (iRange rg1 (rCons (dC (.int 5)) rNil)) [S0, .wref 0, a2, .dat (strD S), .dat (plcD S), a5, a6, a7] w2 = .ok [.int 0, .int 1, .int 2, .int 3, .int 4] w2 from rfl]
      exact e3)]
    generalize w3 ++ m4 = w4 at *
    generalize strD S = SD at *
    generalize plcD S = V at *
    simp [e4]
  · obtain ⟨i, hi, hp, hgt, hw⟩ := plc_wrong hg
    have hT : yT (Den tbl n) [S0, .wref 0, a2, .dat (strD S), .dat (plcD S), a5, a6, a7] w2 = .ok false w2 := by
      rw [hp]
      have h1 : ¬ (i : Int) = (S.length : Int) := by omega
      have h2 : ¬ i = S.length := by omega
      generalize strD S = SD at *
      simp [D.isN, ln, h1, h2]
    have hcbt : ∀ j, cb (S.take j) ≤ cb S := fun j => by
      conv => rhs; rw [← List.take_append_drop j S, cb_app]
      omega
    have hct := hcbt i
    have hct2 := hcbt (i + 1)
    obtain ⟨m3, e3⟩ := c_begins T.toHasPl24 (n := n) (f := 70) (S := S.take i) (w := w2) (by omega) (by rw [List.length_take]; omega) (by omega) (by omega) hgt
    have t3 := t2.more m3
    obtain ⟨p, w4, e4, t4, hp1⟩ := c_piece T.toHasDt.toHasPc (n := n) (by omega) t3
    obtain ⟨q, w5, e5, t5, hq1⟩ := c_piece T.toHasDt.toHasPc (n := n) (by omega) t4
    obtain ⟨m6, u7, e6⟩ := yB_turns T hn (S := S.take (i + 1)) (i := i) ⟨by rw [List.length_take]; omega, by omega⟩ hw (s0 := S0) (s1 := .wref 0) (s2 := a2) (s3 := .dat (strD S)) (s5 := a5) (tlL p q) w5 a7 (fun t h => by
      simp only [tlL, List.mem_cons, List.not_mem_nil, or_false] at h
      rcases h with rfl | rfl | rfl | rfl | rfl | rfl | rfl
      · exact ⟨by decide, by decide, by decide⟩
      · exact ⟨by decide, by decide, by decide⟩
      · exact ⟨by decide, by decide, by decide⟩
      · exact ⟨by decide, by decide, by decide⟩
      · exact ⟨by decide, by decide, by decide⟩
      · exact hp1
      · exact hq1)
    refine ⟨rest ++ m2 ++ m3 ++ m6, w5 ++ m6, .dat (strD S), .dat (.int (i : Int)), a5, .dat (strD (S.take (i + 1))), u7, ?_, t5.more m6⟩
    rw [sIf_ap, hT, bind_ok, if_neg (by decide), hp]
    unfold yB
    have g1 := gSl_to (S := S) i
    have g2 := gSl_to (S := S) (i + 1)
    rw [show ((i + 1 : Nat) : Int) = (i : Int) + 1 by push_cast; rfl] at g2
    rw [seqN (env' := [S0, .wref 0, a2, .dat (strD S), .dat (.int (i : Int)), a5, a6, a7]) (w' := w2 ++ m3) (by
      have h1 : ¬ (i : Int) < 0 := by omega
      have h2 : ¬ (S.length : Int) < (i : Int) := by omega
      have h3 : ¬ S.length < i := by omega
      generalize w2 ++ m3 = w3 at *
      generalize strD (S.take i) = R at *
      generalize strD S = SD at *
      simp [dSl, ln, h1, h2, h3, g1, e3, D.isTy])]
    generalize w2 ++ m3 = w3 at *
    rw [seqN (env' := [S0, .wref 0, a2, .dat (strD S), .dat (.int (i : Int)), a5, .dat (strD (S.take (i + 1))), a7]) (w' := w3) (by
      generalize strD (S.take (i + 1)) = R at *
      generalize strD S = SD at *
      simp [dSl, g2])]
    have hl5 : iSeq (yBl (Den tbl n)) [S0, .wref 0, a2, .dat (strD S), .dat (.int (i : Int)), a5, .dat (strD (S.take (i + 1))), a7] w3 = .ok ((tlL p q).map strD) w5 := by
      have k1 : ("" : Str) = sL [] := rfl
      have k2 : ("0" : Str) = sL [48] := by decide +kernel
      have k3 : (" | x" : Str) = sL [32, 124, 32, 120] := by decide +kernel
      have k4 : (">" : Str) = sL [62] := by decide +kernel
      have k5 : ("a<0>" : Str) = sL [97, 60, 48, 62] := by decide +kernel
      have hm : (tlL p q).map strD = [.str "", .str "0", .str " | x", .str ">", .str "a<0>", strD p, strD q] := by
        rw [k1, k2, k3, k4, k5]
        rfl
      rw [hm]
      generalize strD (S.take (i + 1)) = R at *
      generalize strD S = SD at *
      generalize strD p = PD at *
      generalize strD q = QD at *
      simp [e4, e5]
    show Out.bind _ _ = _
    rw [hl5]
    exact e6
theorem y24_turns {S : Sl} : ∀ (ts : List D) (rest w : World) (a2 a3 a4 a5 a6 a7 : Sl), TapeOk rest w →
    ∃ (rest' w' : World) (b2 b3 b4 b5 b6 b7 : Sl), forGo (gN 2) (y24body (Den tbl n)) ts [S, .wref 0, a2, a3, a4, a5, a6, a7] w = .ok (.nx [S, .wref 0, b2, b3, b4, b5, b6, b7]) w' ∧ TapeOk rest' w'
  | [], rest, w, a2, a3, a4, a5, a6, a7, ht => ⟨rest, w, a2, a3, a4, a5, a6, a7, rfl, ht⟩
  | t :: ts, rest, w, a2, a3, a4, a5, a6, a7, ht => by
    obtain ⟨rest1, w1, c3, c4, c5, c6, c7, e1, t1⟩ := y24_turn T hn (S0 := S) (a2 := .dat t) (a3 := a3) (a4 := a4) (a5 := a5) (a6 := a6) (a7 := a7) ht
    obtain ⟨rest2, w2, b2, b3, b4, b5, b6, b7, e2, t2⟩ := y24_turns ts rest1 w1 (.dat t) c3 c4 c5 c6 c7 t1
    refine ⟨rest2, w2, b2, b3, b4, b5, b6, b7, ?_, t2⟩
    rw [for_cons, gN_ap]
    simp only [List.set_cons_succ, List.set_cons_zero]
    rw [e1]
    exact e2
theorem law24 {S : D} {rest w : World} (ht : TapeOk rest w) : ∃ w', (sSeq (y24for (Den tbl n)) y24end) [.dat S, .wref 0, .un, .un, .un, .un, .un, .un] w = .ok (.rt (.dat (.bl true))) w' := by
  obtain ⟨rest', w', b2, b3, b4, b5, b6, b7, e, t⟩ := y24_turns T hn (S := .dat S) [.int 0, .int 1, .int 2] rest w .un .un .un .un .un .un ht
  refine ⟨w', ?_⟩
  have hf : y24for (Den tbl n) [.dat S, .wref 0, .un, .un, .un, .un, .un, .un] w = .ok (.nx [.dat S, .wref 0, b2, b3, b4, b5, b6, b7]) w' := by
    show Out.bind _ _ = _
    rw [show (iRange rg1 (rCons (dC (.int 3)) rNil)) [.dat S, .wref 0, .un, .un, .un, .un, .un, .un] w = .ok [.int 0, .int 1, .int 2] w from rfl]
    exact e
  rw [seqN hf]
  rfl
end
end Dl
namespace Dl
open PySem PySem.Spec PyProof.Rows L2 NdefX
namespace K24
abbrev FnP (K : PySem.W.Frag) (x : Str) (st : Stmt) (f : Addr) (fd : FuncData) : Prop := FunD K x x (defArgs st) (defBody st) (defScope st) [] [] f fd
def rowsD : List (Nat × DefB) := [(564, ⟨2, 2, bLow2 581⟩), (524, ⟨1, 3, b_read⟩), (22, ⟨1, 1, b__law_tape⟩), (11, ⟨2, 5, b__law_pick⟩), (566, ⟨1, 3, b__law_drawn⟩), (591, ⟨3, 9, b__law_tree⟩), (592, ⟨1, 6, b__law_written⟩), (595, ⟨1, 4, b__law_piece⟩), (596, ⟨2, 4, b__law_spoiled_596⟩), (602, ⟨1, 4, b__law_drawn_text⟩), (605, ⟨1, 4, b__law_place⟩), (606, ⟨1, 4, b__law_begins⟩), (607, ⟨1, 8, b_law_607⟩), (572, ⟨1, 1, b_Reader_sign⟩), (575, ⟨2, 3, b_Reader_take⟩), (573, ⟨1, 2, b_Reader_number⟩), (578, ⟨1, 2, b_Reader_word⟩), (579, ⟨1, 1, b_Reader_mark⟩), (563, ⟨2, 3, b_Reader_whole⟩), (574, ⟨2, 3, b_Reader_item⟩), (576, ⟨2, 5, b_Reader_part⟩), (577, ⟨2, 3, b_Reader_body⟩), (581, ⟨2, 2, b_init_Reader⟩), (593, ⟨2, 8, b__law_meant⟩), (570, ⟨1, 2, b__law_labels⟩)]
def tbl (i : Nat) : Option DefB := rowsD.lookup i
abbrev T0 : Tbs := ⟨[], fun _ => none, none⟩
structure Facts (K : PySem.W.Frag) (w : PySem.World) (mg : Str → Option Value) : Prop where
  f_read : ∃ a fd, mg "read" = some (.ref a) ∧ FnP K "read" (top 7) a fd
  f__law_tape : ∃ a fd, mg "_law_tape" = some (.ref a) ∧ FnP K "_law_tape" (top 9) a fd
  f__law_pick : ∃ a fd, mg "_law_pick" = some (.ref a) ∧ FnP K "_law_pick" (top 10) a fd
  f__law_drawn : ∃ a fd, mg "_law_drawn" = some (.ref a) ∧ FnP K "_law_drawn" (top 11) a fd
  f__law_tree : ∃ a fd, mg "_law_tree" = some (.ref a) ∧ FnP K "_law_tree" (top 14) a fd
  f__law_written : ∃ a fd, mg "_law_written" = some (.ref a) ∧ FnP K "_law_written" (top 15) a fd
  f__law_piece : ∃ a fd, mg "_law_piece" = some (.ref a) ∧ FnP K "_law_piece" (top 16) a fd
  f__law_spoiled : ∃ a fd, mg "_law_spoiled" = some (.ref a) ∧ FnP K "_law_spoiled" (top 17) a fd
  f__law_drawn_text : ∃ a fd, mg "_law_drawn_text" = some (.ref a) ∧ FnP K "_law_drawn_text" (top 18) a fd
  f__law_place : ∃ a fd, mg "_law_place" = some (.ref a) ∧ FnP K "_law_place" (top 19) a fd
  f__law_begins : ∃ a fd, mg "_law_begins" = some (.ref a) ∧ FnP K "_law_begins" (top 20) a fd
  f_law : ∃ a fd, mg "law" = some (.ref a) ∧ FnP K "law" (top 21) a fd
  f_Reader_sign : ∃ C a fd, ObjC K mg "Reader" C ∧ Meth K C "sign" a ∧ FunD K "sign" "Reader.sign" (defArgs (clsAt 1 (top 6))) (defBody (clsAt 1 (top 6))) (defScope (clsAt 1 (top 6))) [] [] a fd
  f_Reader_take : ∃ C a fd, ObjC K mg "Reader" C ∧ Meth K C "take" a ∧ FunD K "take" "Reader.take" (defArgs (clsAt 2 (top 6))) (defBody (clsAt 2 (top 6))) (defScope (clsAt 2 (top 6))) [] [] a fd
  f_Reader_number : ∃ C a fd, ObjC K mg "Reader" C ∧ Meth K C "number" a ∧ FunD K "number" "Reader.number" (defArgs (clsAt 3 (top 6))) (defBody (clsAt 3 (top 6))) (defScope (clsAt 3 (top 6))) [] [] a fd
  f_Reader_word : ∃ C a fd, ObjC K mg "Reader" C ∧ Meth K C "word" a ∧ FunD K "word" "Reader.word" (defArgs (clsAt 4 (top 6))) (defBody (clsAt 4 (top 6))) (defScope (clsAt 4 (top 6))) [] [] a fd
  f_Reader_mark : ∃ C a fd, ObjC K mg "Reader" C ∧ Meth K C "mark" a ∧ FunD K "mark" "Reader.mark" (defArgs (clsAt 5 (top 6))) (defBody (clsAt 5 (top 6))) (defScope (clsAt 5 (top 6))) [] [] a fd
  f_Reader_whole : ∃ C a fd, ObjC K mg "Reader" C ∧ Meth K C "whole" a ∧ FunD K "whole" "Reader.whole" (defArgs (clsAt 6 (top 6))) (defBody (clsAt 6 (top 6))) (defScope (clsAt 6 (top 6))) [] [] a fd
  f_Reader_item : ∃ C a fd, ObjC K mg "Reader" C ∧ Meth K C "item" a ∧ FunD K "item" "Reader.item" (defArgs (clsAt 7 (top 6))) (defBody (clsAt 7 (top 6))) (defScope (clsAt 7 (top 6))) [] [] a fd
  f_Reader_part : ∃ C a fd, ObjC K mg "Reader" C ∧ Meth K C "part" a ∧ FunD K "part" "Reader.part" (defArgs (clsAt 8 (top 6))) (defBody (clsAt 8 (top 6))) (defScope (clsAt 8 (top 6))) [] [] a fd
  f_Reader_body : ∃ C a fd, ObjC K mg "Reader" C ∧ Meth K C "body" a ∧ FunD K "body" "Reader.body" (defArgs (clsAt 9 (top 6))) (defBody (clsAt 9 (top 6))) (defScope (clsAt 9 (top 6))) [] [] a fd
  f_init_Reader : ∃ C a fd, ObjC K mg "Reader" C ∧ Mk K C a ∧ FunD K "__init__" "Reader.__init__" (defArgs (clsAt 0 (top 6))) (defBody (clsAt 0 (top 6))) (defScope (clsAt 0 (top 6))) [] [] a fd
  na_Reader_signs : ∀ C, mg "Reader" = some (.ref C) → NoAttr K C "signs"
  na_Reader_at : ∀ C, mg "Reader" = some (.ref C) → NoAttr K C "at"
  h_bool : mg "bool" = none
  h_int : mg "int" = none
  h_isinstance : mg "isinstance" = none
  h_len : mg "len" = none
  h_list : mg "list" = none
  h_range : mg "range" = none
  h_str : mg "str" = none
  h_tuple : mg "tuple" = none
  k_MOST_FIGURES : ∃ t, mg "MOST_FIGURES" = some (.int 60 t)
  k_MOST_LETTERS : ∃ t, mg "MOST_LETTERS" = some (.int 8 t)
  x_BadText : XoF K mg "BadText" "place"
  y_BadText_BadText : XmF K mg "BadText" "BadText" true
theorem Facts.mts {K : PySem.W.Frag} {w : PySem.World} {mg : Str → Option Value} (E : Facts K w mg) : ∀ t ∈ mt24, XmF K mg t.1 t.2.1 t.2.2 := by
  intro t ht
  simp only [mt24, List.mem_cons, List.not_mem_nil, or_false] at ht
  rcases ht with rfl
  · exact E.y_BadText_BadText
structure Defs (P : Program) (w : PySem.World) (K : PySem.W.Frag) (mg : Str → Option Value) (base : Heap) (n : Nat) : Prop where
  c_read : Dfn P w K mg base T0 (Den tbl n) n "read" 524
  c__law_tape : Dfn P w K mg base T0 (Den tbl n) n "_law_tape" 22
  c__law_pick : Dfn P w K mg base T0 (Den tbl n) n "_law_pick" 11
  c__law_drawn : Dfn P w K mg base T0 (Den tbl n) n "_law_drawn" 566
  c__law_tree : Dfn P w K mg base T0 (Den tbl n) n "_law_tree" 591
  c__law_written : Dfn P w K mg base T0 (Den tbl n) n "_law_written" 592
  c__law_piece : Dfn P w K mg base T0 (Den tbl n) n "_law_piece" 595
  c__law_spoiled : Dfn P w K mg base T0 (Den tbl n) n "_law_spoiled" 596
  c__law_drawn_text : Dfn P w K mg base T0 (Den tbl n) n "_law_drawn_text" 602
  c__law_place : Dfn P w K mg base T0 (Den tbl n) n "_law_place" 605
  c__law_begins : Dfn P w K mg base T0 (Den tbl n) n "_law_begins" 606
  c_law : Dfn P w K mg base T0 (Den tbl n) n "law" 607
  c_Reader_sign : MthD P w K mg base T0 (Den tbl n) n "Reader" "sign" 572
  c_Reader_take : MthD P w K mg base T0 (Den tbl n) n "Reader" "take" 575
  c_Reader_number : MthD P w K mg base T0 (Den tbl n) n "Reader" "number" 573
  c_Reader_word : MthD P w K mg base T0 (Den tbl n) n "Reader" "word" 578
  c_Reader_mark : MthD P w K mg base T0 (Den tbl n) n "Reader" "mark" 579
  c_Reader_whole : MthD P w K mg base T0 (Den tbl n) n "Reader" "whole" 563
  c_Reader_item : MthD P w K mg base T0 (Den tbl n) n "Reader" "item" 574
  c_Reader_part : MthD P w K mg base T0 (Den tbl n) n "Reader" "part" 576
  c_Reader_body : MthD P w K mg base T0 (Den tbl n) n "Reader" "body" 577
  c_init_Reader : IniD P w K mg base T0 (Den tbl n) n "Reader" 581
  m_Reader : MakD P w K mg base T0 (Den tbl n) n "Reader" 564
section
variable {P : Program} {w : PySem.World} {K : PySem.W.Frag} {mg : Str → Option Value} {base : Heap} {n : Nat}
theorem sc_read : FnScope ["text", "reader", "plan"] ["text"] (defScope (top 7)) := ⟨rfl, rfl, rfl, by decide +kernel, rfl, by decide +kernel, by decide +kernel⟩
theorem fo_read (E : Facts K w mg) (D : Defs P w K mg base n) {f : Addr} {fd : FuncData} (F : FnP K "read" (top 7) f fd) : FnG P w K mg base (L2N.CX P w) (n + 1) f fd ["text"] (spD ⟨K, mg, T0⟩ ((Den tbl (n + 1)).call 524)) := by
  refine def_ok F sc_read (bd := b_read) rfl fun cdv A outer s H E0 hr => ?_
  have nd := (sc_read).nd
  have hu : (A.deeper (envOfC "read" (defScope (top 7)) s.heap.objs.size f cdv)).units + (Den tbl n).room < cLine := by rw [den_room]; have := hr.un; omega
  have tk : L2N.Takes (cxOf (L2N.CX P w) P w K mg base ["text", "reader", "plan"] "read" (defScope (top 7)) f cdv A outer s H E0) (fun cls d _ H => E0 cls d H) := L2N.takes_of rfl rfl rfl rfl
  unfold b_read
  refine jss_cons ?_ ?_
  · refine js_if (jt_not (jt_truth (je_isi rfl E.h_isinstance rfl E.h_str (by decide +kernel) (je_name (pv 0))))) ?_ ?_
    · refine jss_one ?_
      exact (by rw [den_room]; exact js_raiseF E.x_BadText rfl tk hr rfl (ja_cons (je_neg je_int) ja_nil))
    exact jss_nil
  refine jss_cons ?_ ?_
  · exact (js_setO (i := 1) nd rfl (by first | exact .inl rfl | exact .inr rfl) (je_make D.m_Reader hr tk rfl (ja_cons (je_name (pv 0)) ja_nil)))
  refine jss_cons ?_ ?_
  · exact (js_set (i := 2) nd rfl (by first | exact .inl rfl | exact .inr rfl) (je_meth D.c_Reader_whole hr tk (je_name (pv 1)) (ja_cons (je_lst ja_nil) ja_nil)))
  refine jss_cons ?_ ?_
  · refine js_if (jt_cmp (os_lt hu) (je_fld (je_name (pv 1)) E.na_Reader_at) (je_blt cs_len rfl E.h_len boot_len (jr_cons (je_name (pv 0)) jr_nil))) ?_ ?_
    · refine jss_one ?_
      exact (by rw [den_room]; exact js_raiseF E.x_BadText rfl tk hr rfl (ja_cons (je_fld (je_name (pv 1)) E.na_Reader_at) ja_nil))
    exact jss_nil
  refine jss_one ?_
  exact (js_ret (je_name (pv 2)))
theorem ok_read (E : Facts K w mg) (D : Defs P w K mg base n) : Dfn P w K mg base T0 (Den tbl (n + 1)) (n + 1) "read" 524 := by
  obtain ⟨f, fd, hf, F⟩ := E.f_read
  exact ⟨f, fd, ["text"], hf, F.kp, F.bindsN fun _ _ _ _ _ _ us hl => (match us, hl with | [_], _ => rfl), fo_read E D F⟩
theorem sc__law_tape : FnScope ["_law_script"] ["_law_script"] (defScope (top 9)) := ⟨rfl, rfl, rfl, by decide +kernel, rfl, by decide +kernel, by decide +kernel⟩
theorem fo__law_tape (E : Facts K w mg) (D : Defs P w K mg base n) {f : Addr} {fd : FuncData} (F : FnP K "_law_tape" (top 9) f fd) : FnG P w K mg base (L2N.CX P w) (n + 1) f fd ["_law_script"] (spD ⟨K, mg, T0⟩ ((Den tbl (n + 1)).call 22)) := by
  refine def_ok F sc__law_tape (bd := b__law_tape) rfl fun cdv A outer s H E0 hr => ?_
  have nd := (sc__law_tape).nd
  have hu : (A.deeper (envOfC "_law_tape" (defScope (top 9)) s.heap.objs.size f cdv)).units + (Den tbl n).room < cLine := by rw [den_room]; have := hr.un; omega
  have tk : L2N.Takes (cxOf (L2N.CX P w) P w K mg base ["_law_script"] "_law_tape" (defScope (top 9)) f cdv A outer s H E0) (fun cls d _ H => E0 cls d H) := L2N.takes_of rfl rfl rfl rfl
  unfold b__law_tape
  refine jss_one ?_
  exact (js_ret (je_lst (ja_cons (je_bty cs_list rfl E.h_list (by decide +kernel) (jr_cons (je_name (pv 0)) jr_nil)) (ja_cons je_int (ja_cons je_int (ja_cons je_int (ja_cons je_int ja_nil)))))))
theorem ok__law_tape (E : Facts K w mg) (D : Defs P w K mg base n) : Dfn P w K mg base T0 (Den tbl (n + 1)) (n + 1) "_law_tape" 22 := by
  obtain ⟨f, fd, hf, F⟩ := E.f__law_tape
  exact ⟨f, fd, ["_law_script"], hf, F.kp, F.bindsN fun _ _ _ _ _ _ us hl => (match us, hl with | [_], _ => rfl), fo__law_tape E D F⟩
theorem sc__law_pick : FnScope ["_law_tape_here", "_law_many", "_law_digit", "_law_cell", "_law_mixed"] ["_law_tape_here", "_law_many"] (defScope (top 10)) := ⟨rfl, rfl, rfl, by decide +kernel, rfl, by decide +kernel, by decide +kernel⟩
theorem fo__law_pick (E : Facts K w mg) (D : Defs P w K mg base n) {f : Addr} {fd : FuncData} (F : FnP K "_law_pick" (top 10) f fd) : FnG P w K mg base (L2N.CX P w) (n + 1) f fd ["_law_tape_here", "_law_many"] (spD ⟨K, mg, T0⟩ ((Den tbl (n + 1)).call 11)) := by
  refine def_ok F sc__law_pick (bd := b__law_pick) rfl fun cdv A outer s H E0 hr => ?_
  have nd := (sc__law_pick).nd
  have hu : (A.deeper (envOfC "_law_pick" (defScope (top 10)) s.heap.objs.size f cdv)).units + (Den tbl n).room < cLine := by rw [den_room]; have := hr.un; omega
  have tk : L2N.Takes (cxOf (L2N.CX P w) P w K mg base ["_law_tape_here", "_law_many", "_law_digit", "_law_cell", "_law_mixed"] "_law_pick" (defScope (top 10)) f cdv A outer s H E0) (fun cls d _ H => E0 cls d H) := L2N.takes_of rfl rfl rfl rfl
  unfold b__law_pick
  refine jss_cons ?_ ?_
  · refine js_if (jt_cmp (os_gt hu) (je_ixW (pv 0) je_int) je_int) ?_ ?_
    · refine jss_cons ?_ ?_
      · exact (js_set (i := 2) nd rfl (by first | exact .inl rfl | exact .inr rfl) (je_bin os_mod (je_bty cs_int rfl E.h_int (by decide +kernel) (jr_cons (je_ixW (pv 0) je_int) jr_nil)) (je_name (pv 1))))
      refine jss_cons ?_ ?_
      · exact (js_setIx (pv 0) je_int (je_bin os_fdiv (je_ixW (pv 0) je_int) (je_name (pv 1))))
      refine jss_one ?_
      exact (js_ret (je_name (pv 2)))
    exact jss_nil
  refine jss_cons ?_ ?_
  · exact (js_setIx (pv 0) je_int (je_bin os_add (je_ixW (pv 0) je_int) je_int))
  refine jss_cons ?_ ?_
  · exact (js_set (i := 3) nd rfl (by first | exact .inl rfl | exact .inr rfl) je_int)
  refine jss_cons ?_ ?_
  · refine js_if (jt_cmp (os_lt hu) (je_ixW (pv 0) je_int) (je_blt cs_len rfl E.h_len boot_len (jr_cons (je_ixW (pv 0) je_int) jr_nil))) ?_ ?_
    · refine jss_cons ?_ ?_
      · exact (js_set (i := 3) nd rfl (by first | exact .inl rfl | exact .inr rfl) (je_ix (je_ixW (pv 0) je_int) (je_ixW (pv 0) je_int)))
      refine jss_one ?_
      exact (js_setIx (pv 0) je_int (je_bin os_add (je_ixW (pv 0) je_int) je_int))
    exact jss_nil
  refine jss_cons ?_ ?_
  · refine js_if (jt_cmp (os_ge hu) (je_name (pv 3)) (je_bin os_pow je_int je_int)) ?_ ?_
    · refine jss_cons ?_ ?_
      · exact (js_setIx (pv 0) je_int (je_bin os_fdiv (je_name (pv 3)) (je_name (pv 1))))
      refine jss_one ?_
      exact (js_ret (je_bin os_mod (je_bty cs_int rfl E.h_int (by decide +kernel) (jr_cons (je_name (pv 3)) jr_nil)) (je_name (pv 1))))
    exact jss_nil
  refine jss_cons ?_ ?_
  · exact (js_set (i := 4) nd rfl (by first | exact .inl rfl | exact .inr rfl) (je_bin os_mod (je_bty cs_int rfl E.h_int (by decide +kernel) (jr_cons (je_bin os_add (je_bin os_add (je_bin os_mul (je_ixW (pv 0) je_int) je_int) (je_bin os_mod (je_bty cs_int rfl E.h_int (by decide +kernel) (jr_cons (je_name (pv 3)) jr_nil)) je_int)) (je_bin os_mul (je_ixW (pv 0) je_int) je_int)) jr_nil)) je_int))
  refine jss_cons ?_ ?_
  · exact (js_set (i := 4) nd rfl (by first | exact .inl rfl | exact .inr rfl) (je_bin os_mod (je_bty cs_int rfl E.h_int (by decide +kernel) (jr_cons (je_bin os_mul (je_name (pv 4)) (je_bin os_add (je_bin os_fdiv (je_name (pv 4)) je_int) je_int)) jr_nil)) je_int))
  refine jss_cons ?_ ?_
  · exact (js_setIx (pv 0) je_int (je_name (pv 4)))
  refine jss_one ?_
  exact (js_ret (je_bin os_mod (je_bty cs_int rfl E.h_int (by decide +kernel) (jr_cons (je_bin os_fdiv (je_name (pv 4)) je_int) jr_nil)) (je_name (pv 1))))
theorem ok__law_pick (E : Facts K w mg) (D : Defs P w K mg base n) : Dfn P w K mg base T0 (Den tbl (n + 1)) (n + 1) "_law_pick" 11 := by
  obtain ⟨f, fd, hf, F⟩ := E.f__law_pick
  exact ⟨f, fd, ["_law_tape_here", "_law_many"], hf, F.kp, F.bindsN fun _ _ _ _ _ _ us hl => (match us, hl with | [_, _], _ => rfl), fo__law_pick E D F⟩
theorem sc__law_drawn : FnScope ["_law_tape_here", "_law_word", "_law_turn"] ["_law_tape_here"] (defScope (top 11)) := ⟨rfl, rfl, rfl, by decide +kernel, rfl, by decide +kernel, by decide +kernel⟩
theorem fo__law_drawn (E : Facts K w mg) (D : Defs P w K mg base n) {f : Addr} {fd : FuncData} (F : FnP K "_law_drawn" (top 11) f fd) : FnG P w K mg base (L2N.CX P w) (n + 1) f fd ["_law_tape_here"] (spD ⟨K, mg, T0⟩ ((Den tbl (n + 1)).call 566)) := by
  refine def_ok F sc__law_drawn (bd := b__law_drawn) rfl fun cdv A outer s H E0 hr => ?_
  have nd := (sc__law_drawn).nd
  have hu : (A.deeper (envOfC "_law_drawn" (defScope (top 11)) s.heap.objs.size f cdv)).units + (Den tbl n).room < cLine := by rw [den_room]; have := hr.un; omega
  have tk : L2N.Takes (cxOf (L2N.CX P w) P w K mg base ["_law_tape_here", "_law_word", "_law_turn"] "_law_drawn" (defScope (top 11)) f cdv A outer s H E0) (fun cls d _ H => E0 cls d H) := L2N.takes_of rfl rfl rfl rfl
  unfold b__law_drawn
  refine jss_cons ?_ ?_
  · exact (js_set (i := 1) nd rfl (by first | exact .inl rfl | exact .inr rfl) je_str)
  refine jss_cons ?_ ?_
  · refine js_for (passes_of rfl) rfl (ji_range1 rfl E.h_range (jr_cons (je_bin os_add je_int (je_call D.c__law_pick.cal hr tk rfl (ja_cons (je_name (pv 0)) (ja_cons je_int ja_nil)))) jr_nil)) (jg_name (pg_name (i := 2) nd rfl (by first | exact .inl rfl | exact .inr rfl))) ?_
    refine jss_one ?_
    exact (js_set (i := 1) nd rfl (by first | exact .inl rfl | exact .inr rfl) (je_bin os_add (je_name (pv 1)) (je_ix je_str (je_call D.c__law_pick.cal hr tk rfl (ja_cons (je_name (pv 0)) (ja_cons je_int ja_nil))))))
  refine jss_one ?_
  exact (js_ret (je_name (pv 1)))
theorem ok__law_drawn (E : Facts K w mg) (D : Defs P w K mg base n) : Dfn P w K mg base T0 (Den tbl (n + 1)) (n + 1) "_law_drawn" 566 := by
  obtain ⟨f, fd, hf, F⟩ := E.f__law_drawn
  exact ⟨f, fd, ["_law_tape_here"], hf, F.kp, F.bindsN fun _ _ _ _ _ _ us hl => (match us, hl with | [_], _ => rfl), fo__law_drawn E D F⟩
theorem sc__law_tree : FnScope ["_law_tape_here", "_law_left", "_law_words", "_law_items", "_law_turn", "_law_kind", "_law_word", "_law_door", "_law_node"] ["_law_tape_here", "_law_left", "_law_words"] (defScope (top 14)) := ⟨rfl, rfl, rfl, by decide +kernel, rfl, by decide +kernel, by decide +kernel⟩
theorem fo__law_tree (E : Facts K w mg) (D : Defs P w K mg base n) {f : Addr} {fd : FuncData} (F : FnP K "_law_tree" (top 14) f fd) : FnG P w K mg base (L2N.CX P w) (n + 1) f fd ["_law_tape_here", "_law_left", "_law_words"] (spD ⟨K, mg, T0⟩ ((Den tbl (n + 1)).call 591)) := by
  refine def_ok F sc__law_tree (bd := b__law_tree) rfl fun cdv A outer s H E0 hr => ?_
  have nd := (sc__law_tree).nd
  have hu : (A.deeper (envOfC "_law_tree" (defScope (top 14)) s.heap.objs.size f cdv)).units + (Den tbl n).room < cLine := by rw [den_room]; have := hr.un; omega
  have tk : L2N.Takes (cxOf (L2N.CX P w) P w K mg base ["_law_tape_here", "_law_left", "_law_words", "_law_items", "_law_turn", "_law_kind", "_law_word", "_law_door", "_law_node"] "_law_tree" (defScope (top 14)) f cdv A outer s H E0) (fun cls d _ H => E0 cls d H) := L2N.takes_of rfl rfl rfl rfl
  unfold b__law_tree
  refine jss_cons ?_ ?_
  · exact (js_set (i := 3) nd rfl (by first | exact .inl rfl | exact .inr rfl) (je_lst ja_nil))
  refine jss_cons ?_ ?_
  · refine js_for (passes_of rfl) rfl (ji_range1 rfl E.h_range (jr_cons je_int jr_nil)) (jg_name (pg_name (i := 4) nd rfl (by first | exact .inl rfl | exact .inr rfl))) ?_
    refine jss_cons ?_ ?_
    · refine js_if (jt_bool (jw_or (jt_cmp (os_lt hu) (je_name (pv 1)) je_int) (jw_or1 (jt_cmp (os_eq hu) (je_call D.c__law_pick.cal hr tk rfl (ja_cons (je_name (pv 0)) (ja_cons je_int ja_nil))) je_int)))) ?_ ?_
      · refine jss_one ?_
        exact js_break
      exact jss_nil
    refine jss_cons ?_ ?_
    · exact (js_set (i := 5) nd rfl (by first | exact .inl rfl | exact .inr rfl) (je_call D.c__law_pick.cal hr tk rfl (ja_cons (je_name (pv 0)) (ja_cons je_int ja_nil))))
    refine jss_cons ?_ ?_
    · exact (js_set (i := 6) nd rfl (by first | exact .inl rfl | exact .inr rfl) (je_ix (je_name (pv 2)) (je_call D.c__law_pick.cal hr tk rfl (ja_cons (je_name (pv 0)) (ja_cons (je_blt cs_len rfl E.h_len boot_len (jr_cons (je_name (pv 2)) jr_nil)) ja_nil)))))
    refine jss_cons ?_ ?_
    · exact (js_set (i := 7) nd rfl (by first | exact .inl rfl | exact .inr rfl) (je_ix je_str (je_call D.c__law_pick.cal hr tk rfl (ja_cons (je_name (pv 0)) (ja_cons je_int ja_nil)))))
    refine jss_cons ?_ ?_
    · exact (js_set (i := 8) nd rfl (by first | exact .inl rfl | exact .inr rfl) (je_frz (je_lst (ja_cons je_str (ja_cons (je_name (pv 6)) ja_nil)))))
    refine jss_cons ?_ ?_
    · refine js_if (jt_cmp (os_eq hu) (je_name (pv 5)) je_int) ?_ ?_
      · refine jss_one ?_
        exact (js_set (i := 8) nd rfl (by first | exact .inl rfl | exact .inr rfl) (je_frz (je_lst (ja_cons je_str (ja_cons (je_call D.c__law_pick.cal hr tk rfl (ja_cons (je_name (pv 0)) (ja_cons je_int ja_nil))) ja_nil)))))
      exact jss_nil
    refine jss_cons ?_ ?_
    · refine js_if (jt_bool (jw_and (jt_cmp (os_eq hu) (je_name (pv 5)) je_int) (jw_and1 (jt_cmp (os_gt hu) (je_name (pv 1)) je_int)))) ?_ ?_
      · refine jss_one ?_
        exact (js_set (i := 8) nd rfl (by first | exact .inl rfl | exact .inr rfl) (je_frz (je_lst (ja_cons je_str (ja_cons (je_name (pv 7)) (ja_cons (je_call D.c__law_tree.cal hr tk rfl (ja_cons (je_name (pv 0)) (ja_cons (je_bin os_sub (je_name (pv 1)) je_int) (ja_cons (je_name (pv 2)) ja_nil)))) ja_nil))))))
      exact jss_nil
    refine jss_cons ?_ ?_
    · refine js_if (jt_bool (jw_and (jt_cmp (os_gt hu) (je_name (pv 5)) je_int) (jw_and1 (jt_cmp (os_gt hu) (je_name (pv 1)) je_int)))) ?_ ?_
      · refine jss_one ?_
        exact (js_set (i := 8) nd rfl (by first | exact .inl rfl | exact .inr rfl) (je_frz (je_lst (ja_cons je_str (ja_cons (je_name (pv 7)) (ja_cons (je_name (pv 6)) (ja_cons (je_call D.c__law_tree.cal hr tk rfl (ja_cons (je_name (pv 0)) (ja_cons (je_bin os_sub (je_name (pv 1)) je_int) (ja_cons (je_name (pv 2)) ja_nil)))) (ja_cons (je_cmp (os_eq hu) (je_call D.c__law_pick.cal hr tk rfl (ja_cons (je_name (pv 0)) (ja_cons je_int ja_nil))) je_int) ja_nil))))))))
      exact jss_nil
    refine jss_cons ?_ ?_
    · exact (js_append (pv 3) (je_lst (ja_cons (je_ix (je_lst (ja_cons je_int (ja_cons je_int (ja_cons je_int (ja_cons je_int (ja_cons je_int ja_nil)))))) (je_call D.c__law_pick.cal hr tk rfl (ja_cons (je_name (pv 0)) (ja_cons je_int ja_nil)))) (ja_cons (je_name (pv 8)) ja_nil))))
    refine jss_one ?_
    exact (js_set (i := 1) nd rfl (by first | exact .inl rfl | exact .inr rfl) (je_bin os_sub (je_name (pv 1)) je_int))
  refine jss_one ?_
  exact (js_ret (je_name (pv 3)))
theorem ok__law_tree (E : Facts K w mg) (D : Defs P w K mg base n) : Dfn P w K mg base T0 (Den tbl (n + 1)) (n + 1) "_law_tree" 591 := by
  obtain ⟨f, fd, hf, F⟩ := E.f__law_tree
  exact ⟨f, fd, ["_law_tape_here", "_law_left", "_law_words"], hf, F.kp, F.bindsN fun _ _ _ _ _ _ us hl => (match us, hl with | [_, _, _], _ => rfl), fo__law_tree E D F⟩
theorem sc__law_written : FnScope ["_law_items", "_law_texts", "_law_count", "_law_node", "_law_one", "_law_inner"] ["_law_items"] (defScope (top 15)) := ⟨rfl, rfl, rfl, by decide +kernel, rfl, by decide +kernel, by decide +kernel⟩
theorem fo__law_written (E : Facts K w mg) (D : Defs P w K mg base n) {f : Addr} {fd : FuncData} (F : FnP K "_law_written" (top 15) f fd) : FnG P w K mg base (L2N.CX P w) (n + 1) f fd ["_law_items"] (spD ⟨K, mg, T0⟩ ((Den tbl (n + 1)).call 592)) := by
  refine def_ok F sc__law_written (bd := b__law_written) rfl fun cdv A outer s H E0 hr => ?_
  have nd := (sc__law_written).nd
  have hu : (A.deeper (envOfC "_law_written" (defScope (top 15)) s.heap.objs.size f cdv)).units + (Den tbl n).room < cLine := by rw [den_room]; have := hr.un; omega
  have tk : L2N.Takes (cxOf (L2N.CX P w) P w K mg base ["_law_items", "_law_texts", "_law_count", "_law_node", "_law_one", "_law_inner"] "_law_written" (defScope (top 15)) f cdv A outer s H E0) (fun cls d _ H => E0 cls d H) := L2N.takes_of rfl rfl rfl rfl
  unfold b__law_written
  refine jss_cons ?_ ?_
  · exact (js_set (i := 1) nd rfl (by first | exact .inl rfl | exact .inr rfl) (je_lst ja_nil))
  refine jss_cons ?_ ?_
  · refine js_for (passes_of rfl) rfl (ji_seq (je_name (pv 0))) (jg_tup rfl (jgs_cons (jg_name (pg_name (i := 2) nd rfl (by first | exact .inl rfl | exact .inr rfl))) (jgs_cons (jg_name (pg_name (i := 3) nd rfl (by first | exact .inl rfl | exact .inr rfl))) jgs_nil))) ?_
    refine jss_cons ?_ ?_
    · exact (js_set (i := 4) nd rfl (by first | exact .inl rfl | exact .inr rfl) (je_ix (je_name (pv 3)) je_int))
    refine jss_cons ?_ ?_
    · refine js_if (jt_cmp (os_eq hu) (je_ix (je_name (pv 3)) je_int) je_str) ?_ ?_
      · refine jss_one ?_
        exact (js_set (i := 4) nd rfl (by first | exact .inl rfl | exact .inr rfl) (je_bin os_add je_str (je_bty cs_str rfl E.h_str (by decide +kernel) (jr_cons (je_ix (je_name (pv 3)) je_int) jr_nil))))
      exact jss_nil
    refine jss_cons ?_ ?_
    · refine js_if (jt_cmp (os_eq hu) (je_ix (je_name (pv 3)) je_int) je_str) ?_ ?_
      · refine jss_one ?_
        exact (js_set (i := 4) nd rfl (by first | exact .inl rfl | exact .inr rfl) (je_bin os_add (je_bin os_add (je_bin os_add (je_ix (je_name (pv 3)) je_int) je_str) (je_call D.c__law_written.cal hr tk rfl (ja_cons (je_ix (je_name (pv 3)) je_int) ja_nil))) je_str))
      exact jss_nil
    refine jss_cons ?_ ?_
    · refine js_if (jt_cmp (os_eq hu) (je_ix (je_name (pv 3)) je_int) je_str) ?_ ?_
      · refine jss_cons ?_ ?_
        · exact (js_set (i := 5) nd rfl (by first | exact .inl rfl | exact .inr rfl) (je_call D.c__law_written.cal hr tk rfl (ja_cons (je_ix (je_name (pv 3)) je_int) ja_nil)))
        refine jss_cons ?_ ?_
        · refine js_if (jt_bool (jw_or (jt_truth (je_ix (je_name (pv 3)) je_int)) (jw_or (jt_cmp (os_gt hu) (je_blt cs_len rfl E.h_len boot_len (jr_cons (je_ix (je_name (pv 3)) je_int) jr_nil)) je_int) (jw_or1 (jt_bool (jw_and (jt_cmp (os_eq hu) (je_blt cs_len rfl E.h_len boot_len (jr_cons (je_ix (je_name (pv 3)) je_int) jr_nil)) je_int) (jw_and1 (jt_cmp (os_gt hu) (je_ix (je_ix (je_ix (je_name (pv 3)) je_int) je_int) je_int) je_int)))))))) ?_ ?_
          · refine jss_one ?_
            exact (js_set (i := 5) nd rfl (by first | exact .inl rfl | exact .inr rfl) (je_bin os_add (je_bin os_add je_str (je_name (pv 5))) je_str))
          exact jss_nil
        refine jss_one ?_
        exact (js_set (i := 4) nd rfl (by first | exact .inl rfl | exact .inr rfl) (je_bin os_add (je_bin os_add (je_bin os_add (je_bin os_add (je_ix (je_name (pv 3)) je_int) je_str) (je_ix (je_name (pv 3)) je_int)) je_str) (je_name (pv 5))))
      exact jss_nil
    refine jss_cons ?_ ?_
    · refine js_if (jt_cmp (os_gt hu) (je_name (pv 2)) je_int) ?_ ?_
      · refine jss_one ?_
        exact (js_set (i := 4) nd rfl (by first | exact .inl rfl | exact .inr rfl) (je_bin os_add (je_bin os_add (je_bty cs_str rfl E.h_str (by decide +kernel) (jr_cons (je_name (pv 2)) jr_nil)) je_str) (je_name (pv 4))))
      exact jss_nil
    refine jss_one ?_
    exact (js_append (pv 1) (je_name (pv 4)))
  refine jss_cons ?_ ?_
  · refine js_if (jt_cmp (os_eq hu) (je_blt cs_len rfl E.h_len boot_len (jr_cons (je_name (pv 1)) jr_nil)) je_int) ?_ ?_
    · refine jss_one ?_
      exact (js_ret je_str)
    exact jss_nil
  refine jss_one ?_
  exact (js_ret (je_join (je_name (pv 1))))
theorem ok__law_written (E : Facts K w mg) (D : Defs P w K mg base n) : Dfn P w K mg base T0 (Den tbl (n + 1)) (n + 1) "_law_written" 592 := by
  obtain ⟨f, fd, hf, F⟩ := E.f__law_written
  exact ⟨f, fd, ["_law_items"], hf, F.kp, F.bindsN fun _ _ _ _ _ _ us hl => (match us, hl with | [_], _ => rfl), fo__law_written E D F⟩
theorem sc__law_piece : FnScope ["_law_tape_here", "_law_pieces", "_law_signs", "_law_kind"] ["_law_tape_here"] (defScope (top 16)) := ⟨rfl, rfl, rfl, by decide +kernel, rfl, by decide +kernel, by decide +kernel⟩
theorem fo__law_piece (E : Facts K w mg) (D : Defs P w K mg base n) {f : Addr} {fd : FuncData} (F : FnP K "_law_piece" (top 16) f fd) : FnG P w K mg base (L2N.CX P w) (n + 1) f fd ["_law_tape_here"] (spD ⟨K, mg, T0⟩ ((Den tbl (n + 1)).call 595)) := by
  refine def_ok F sc__law_piece (bd := b__law_piece) rfl fun cdv A outer s H E0 hr => ?_
  have nd := (sc__law_piece).nd
  have hu : (A.deeper (envOfC "_law_piece" (defScope (top 16)) s.heap.objs.size f cdv)).units + (Den tbl n).room < cLine := by rw [den_room]; have := hr.un; omega
  have tk : L2N.Takes (cxOf (L2N.CX P w) P w K mg base ["_law_tape_here", "_law_pieces", "_law_signs", "_law_kind"] "_law_piece" (defScope (top 16)) f cdv A outer s H E0) (fun cls d _ H => E0 cls d H) := L2N.takes_of rfl rfl rfl rfl
  unfold b__law_piece
  refine jss_cons ?_ ?_
  · exact (js_set (i := 1) nd rfl (by first | exact .inl rfl | exact .inr rfl) (je_lst (ja_cons je_str (ja_cons je_str (ja_cons je_str (ja_cons je_str (ja_cons je_str (ja_cons je_str (ja_cons je_str (ja_cons je_str (ja_cons je_str (ja_cons je_str (ja_cons je_str (ja_cons je_str (ja_cons je_str (ja_cons je_str (ja_cons je_str (ja_cons je_str (ja_cons je_str (ja_cons je_str (ja_cons je_str ja_nil)))))))))))))))))))))
  refine jss_cons ?_ ?_
  · exact (js_set (i := 1) nd rfl (by first | exact .inl rfl | exact .inr rfl) (je_bin os_add (je_name (pv 1)) (je_lst (ja_cons je_str (ja_cons je_str (ja_cons je_str (ja_cons je_str (ja_cons (je_bin os_mulS je_str je_int) (ja_cons (je_bin os_mulS je_str je_int) (ja_cons je_str (ja_cons je_str (ja_cons je_str (ja_cons je_str (ja_cons je_str ja_nil))))))))))))))
  refine jss_cons ?_ ?_
  · exact (js_set (i := 2) nd rfl (by first | exact .inl rfl | exact .inr rfl) je_str)
  refine jss_cons ?_ ?_
  · exact (js_set (i := 3) nd rfl (by first | exact .inl rfl | exact .inr rfl) (je_call D.c__law_pick.cal hr tk rfl (ja_cons (je_name (pv 0)) (ja_cons (je_bin os_add (je_blt cs_len rfl E.h_len boot_len (jr_cons (je_name (pv 1)) jr_nil)) je_int) ja_nil))))
  refine jss_cons ?_ ?_
  · refine js_if (jt_cmp (os_lt hu) (je_name (pv 3)) (je_blt cs_len rfl E.h_len boot_len (jr_cons (je_name (pv 1)) jr_nil))) ?_ ?_
    · refine jss_one ?_
      exact (js_ret (je_ix (je_name (pv 1)) (je_name (pv 3))))
    exact jss_nil
  refine jss_one ?_
  exact (js_ret (je_ix (je_name (pv 2)) (je_call D.c__law_pick.cal hr tk rfl (ja_cons (je_name (pv 0)) (ja_cons (je_blt cs_len rfl E.h_len boot_len (jr_cons (je_name (pv 2)) jr_nil)) ja_nil)))))
theorem ok__law_piece (E : Facts K w mg) (D : Defs P w K mg base n) : Dfn P w K mg base T0 (Den tbl (n + 1)) (n + 1) "_law_piece" 595 := by
  obtain ⟨f, fd, hf, F⟩ := E.f__law_piece
  exact ⟨f, fd, ["_law_tape_here"], hf, F.kp, F.bindsN fun _ _ _ _ _ _ us hl => (match us, hl with | [_], _ => rfl), fo__law_piece E D F⟩
theorem sc__law_spoiled : FnScope ["_law_tape_here", "_law_signs", "_law_at", "_law_kind"] ["_law_tape_here", "_law_signs"] (defScope (top 17)) := ⟨rfl, rfl, rfl, by decide +kernel, rfl, by decide +kernel, by decide +kernel⟩
theorem fo__law_spoiled (E : Facts K w mg) (D : Defs P w K mg base n) {f : Addr} {fd : FuncData} (F : FnP K "_law_spoiled" (top 17) f fd) : FnG P w K mg base (L2N.CX P w) (n + 1) f fd ["_law_tape_here", "_law_signs"] (spD ⟨K, mg, T0⟩ ((Den tbl (n + 1)).call 596)) := by
  refine def_ok F sc__law_spoiled (bd := b__law_spoiled_596) rfl fun cdv A outer s H E0 hr => ?_
  have nd := (sc__law_spoiled).nd
  have hu : (A.deeper (envOfC "_law_spoiled" (defScope (top 17)) s.heap.objs.size f cdv)).units + (Den tbl n).room < cLine := by rw [den_room]; have := hr.un; omega
  have tk : L2N.Takes (cxOf (L2N.CX P w) P w K mg base ["_law_tape_here", "_law_signs", "_law_at", "_law_kind"] "_law_spoiled" (defScope (top 17)) f cdv A outer s H E0) (fun cls d _ H => E0 cls d H) := L2N.takes_of rfl rfl rfl rfl
  unfold b__law_spoiled_596
  refine jss_cons ?_ ?_
  · exact (js_set (i := 2) nd rfl (by first | exact .inl rfl | exact .inr rfl) (je_call D.c__law_pick.cal hr tk rfl (ja_cons (je_name (pv 0)) (ja_cons (je_bin os_add (je_blt cs_len rfl E.h_len boot_len (jr_cons (je_name (pv 1)) jr_nil)) je_int) ja_nil))))
  refine jss_cons ?_ ?_
  · exact (js_set (i := 3) nd rfl (by first | exact .inl rfl | exact .inr rfl) (je_call D.c__law_pick.cal hr tk rfl (ja_cons (je_name (pv 0)) (ja_cons je_int ja_nil))))
  refine jss_cons ?_ ?_
  · refine js_if (jt_cmp (os_eq hu) (je_name (pv 3)) je_int) ?_ ?_
    · refine jss_one ?_
      exact (js_ret (je_bin os_add (je_slice (je_name (pv 1)) jo_none (jo_some (je_name (pv 2)))) (je_slice (je_name (pv 1)) (jo_some (je_bin os_add (je_bin os_add (je_name (pv 2)) je_int) (je_call D.c__law_pick.cal hr tk rfl (ja_cons (je_name (pv 0)) (ja_cons je_int ja_nil))))) jo_none)))
    exact jss_nil
  refine jss_cons ?_ ?_
  · refine js_if (jt_cmp (os_eq hu) (je_name (pv 3)) je_int) ?_ ?_
    · refine jss_one ?_
      exact (js_ret (je_slice (je_name (pv 1)) jo_none (jo_some (je_name (pv 2)))))
    exact jss_nil
  refine jss_one ?_
  exact (js_ret (je_bin os_add (je_bin os_add (je_slice (je_name (pv 1)) jo_none (jo_some (je_name (pv 2)))) (je_call D.c__law_piece.cal hr tk rfl (ja_cons (je_name (pv 0)) ja_nil))) (je_slice (je_name (pv 1)) (jo_some (je_bin os_add (je_name (pv 2)) (je_bin os_fdiv (je_name (pv 3)) je_int))) jo_none)))
theorem ok__law_spoiled (E : Facts K w mg) (D : Defs P w K mg base n) : Dfn P w K mg base T0 (Den tbl (n + 1)) (n + 1) "_law_spoiled" 596 := by
  obtain ⟨f, fd, hf, F⟩ := E.f__law_spoiled
  exact ⟨f, fd, ["_law_tape_here", "_law_signs"], hf, F.kp, F.bindsN fun _ _ _ _ _ _ us hl => (match us, hl with | [_, _], _ => rfl), fo__law_spoiled E D F⟩
theorem sc__law_drawn_text : FnScope ["_law_tape_here", "_law_words", "_law_signs", "_law_turn"] ["_law_tape_here"] (defScope (top 18)) := ⟨rfl, rfl, rfl, by decide +kernel, rfl, by decide +kernel, by decide +kernel⟩
theorem fo__law_drawn_text (E : Facts K w mg) (D : Defs P w K mg base n) {f : Addr} {fd : FuncData} (F : FnP K "_law_drawn_text" (top 18) f fd) : FnG P w K mg base (L2N.CX P w) (n + 1) f fd ["_law_tape_here"] (spD ⟨K, mg, T0⟩ ((Den tbl (n + 1)).call 602)) := by
  refine def_ok F sc__law_drawn_text (bd := b__law_drawn_text) rfl fun cdv A outer s H E0 hr => ?_
  have nd := (sc__law_drawn_text).nd
  have hu : (A.deeper (envOfC "_law_drawn_text" (defScope (top 18)) s.heap.objs.size f cdv)).units + (Den tbl n).room < cLine := by rw [den_room]; have := hr.un; omega
  have tk : L2N.Takes (cxOf (L2N.CX P w) P w K mg base ["_law_tape_here", "_law_words", "_law_signs", "_law_turn"] "_law_drawn_text" (defScope (top 18)) f cdv A outer s H E0) (fun cls d _ H => E0 cls d H) := L2N.takes_of rfl rfl rfl rfl
  unfold b__law_drawn_text
  refine jss_cons ?_ ?_
  · exact (js_set (i := 1) nd rfl (by first | exact .inl rfl | exact .inr rfl) (je_frz (je_lst (ja_cons je_str (ja_cons je_str (ja_cons (je_call D.c__law_drawn.cal hr tk rfl (ja_cons (je_name (pv 0)) ja_nil)) ja_nil))))))
  refine jss_cons ?_ ?_
  · exact (js_set (i := 2) nd rfl (by first | exact .inl rfl | exact .inr rfl) (je_call D.c__law_written.cal hr tk rfl (ja_cons (je_call D.c__law_tree.cal hr tk rfl (ja_cons (je_name (pv 0)) (ja_cons (je_bin os_add je_int (je_call D.c__law_pick.cal hr tk rfl (ja_cons (je_name (pv 0)) (ja_cons je_int ja_nil)))) (ja_cons (je_name (pv 1)) ja_nil)))) ja_nil)))
  refine jss_cons ?_ ?_
  · refine js_for (passes_of rfl) rfl (ji_range1 rfl E.h_range (jr_cons (je_call D.c__law_pick.cal hr tk rfl (ja_cons (je_name (pv 0)) (ja_cons je_int ja_nil))) jr_nil)) (jg_name (pg_name (i := 3) nd rfl (by first | exact .inl rfl | exact .inr rfl))) ?_
    refine jss_one ?_
    exact (js_set (i := 2) nd rfl (by first | exact .inl rfl | exact .inr rfl) (je_call D.c__law_spoiled.cal hr tk rfl (ja_cons (je_name (pv 0)) (ja_cons (je_name (pv 2)) ja_nil))))
  refine jss_one ?_
  exact (js_ret (je_name (pv 2)))
theorem ok__law_drawn_text (E : Facts K w mg) (D : Defs P w K mg base n) : Dfn P w K mg base T0 (Den tbl (n + 1)) (n + 1) "_law_drawn_text" 602 := by
  obtain ⟨f, fd, hf, F⟩ := E.f__law_drawn_text
  exact ⟨f, fd, ["_law_tape_here"], hf, F.kp, F.bindsN fun _ _ _ _ _ _ us hl => (match us, hl with | [_], _ => rfl), fo__law_drawn_text E D F⟩
theorem sc__law_place : FnScope ["_law_signs", "_law_found", "_law_told", "e"] ["_law_signs"] (defScope (top 19)) := ⟨rfl, rfl, rfl, by decide +kernel, rfl, by decide +kernel, by decide +kernel⟩
theorem fo__law_place (E : Facts K w mg) (D : Defs P w K mg base n) {f : Addr} {fd : FuncData} (F : FnP K "_law_place" (top 19) f fd) : FnG P w K mg base (L2N.CX P w) (n + 1) f fd ["_law_signs"] (spD ⟨K, mg, T0⟩ ((Den tbl (n + 1)).call 605)) := by
  refine def_ok F sc__law_place (bd := b__law_place) rfl fun cdv A outer s H E0 hr => ?_
  have nd := (sc__law_place).nd
  have hu : (A.deeper (envOfC "_law_place" (defScope (top 19)) s.heap.objs.size f cdv)).units + (Den tbl n).room < cLine := by rw [den_room]; have := hr.un; omega
  have tk : L2N.Takes (cxOf (L2N.CX P w) P w K mg base ["_law_signs", "_law_found", "_law_told", "e"] "_law_place" (defScope (top 19)) f cdv A outer s H E0) (fun cls d _ H => E0 cls d H) := L2N.takes_of rfl rfl rfl rfl
  unfold b__law_place
  refine jss_cons ?_ ?_
  · exact (js_set (i := 1) nd rfl (by first | exact .inl rfl | exact .inr rfl) je_non)
  refine jss_cons ?_ ?_
  · exact (js_set (i := 2) nd rfl (by first | exact .inl rfl | exact .inr rfl) (je_tup ja_nil))
  refine jss_cons ?_ ?_
  · obtain ⟨C0, _, _, _, _, _, _, _, _, _, g0, _⟩ := id E.x_BadText.ex
    refine js_tryM (l := [("BadText", .ref C0, (some 3), (sSet 1 (dExF ["BadText"] 3 "place")))]) rfl rfl nd tk (fun W pn xe tk po => ?_) (.named rfl rfl ⟨rfl, by decide, .inl g0⟩ (fun xa xoe xcls xd xpn hz hf => ?_) .nil) (mt_okG E.mts ?_)
    · refine jss_one ?_
      exact (js_set (i := 2) nd rfl (by first | exact .inl rfl | exact .inr rfl) (je_call D.c_read.cal hr tk rfl (ja_cons (je_name (pv 0)) ja_nil)))
    · refine jss_one ?_
      exact (js_set (i := 1) nd rfl (by first | exact .inl rfl | exact .inr rfl) (je_exF (cs := ["BadText"]) rfl (by intro c hc; simp only [List.mem_cons, List.not_mem_nil, or_false] at hc; subst hc; exact E.x_BadText) hz hf (pv 3)))
    · intro p hp
      simp only [List.mem_cons, List.not_mem_nil, or_false] at hp
      rcases hp with rfl <;> assumption
  refine jss_cons ?_ ?_
  · refine js_if (jt_bool (jw_and (jt_cmp os_is (je_name (pv 1)) je_non) (jw_and1 (jt_not (jt_truth (je_isi rfl E.h_isinstance rfl E.h_tuple (by decide +kernel) (je_name (pv 2)))))))) ?_ ?_
    · refine jss_one ?_
      exact (js_set (i := 1) nd rfl (by first | exact .inl rfl | exact .inr rfl) (je_neg je_int))
    exact jss_nil
  refine jss_one ?_
  exact (js_ret (je_name (pv 1)))
theorem ok__law_place (E : Facts K w mg) (D : Defs P w K mg base n) : Dfn P w K mg base T0 (Den tbl (n + 1)) (n + 1) "_law_place" 605 := by
  obtain ⟨f, fd, hf, F⟩ := E.f__law_place
  exact ⟨f, fd, ["_law_signs"], hf, F.kp, F.bindsN fun _ _ _ _ _ _ us hl => (match us, hl with | [_], _ => rfl), fo__law_place E D F⟩
theorem sc__law_begins : FnScope ["_law_signs", "_law_place_here", "_law_on", "_law_sign"] ["_law_signs"] (defScope (top 20)) := ⟨rfl, rfl, rfl, by decide +kernel, rfl, by decide +kernel, by decide +kernel⟩
theorem fo__law_begins (E : Facts K w mg) (D : Defs P w K mg base n) {f : Addr} {fd : FuncData} (F : FnP K "_law_begins" (top 20) f fd) : FnG P w K mg base (L2N.CX P w) (n + 1) f fd ["_law_signs"] (spD ⟨K, mg, T0⟩ ((Den tbl (n + 1)).call 606)) := by
  refine def_ok F sc__law_begins (bd := b__law_begins) rfl fun cdv A outer s H E0 hr => ?_
  have nd := (sc__law_begins).nd
  have hu : (A.deeper (envOfC "_law_begins" (defScope (top 20)) s.heap.objs.size f cdv)).units + (Den tbl n).room < cLine := by rw [den_room]; have := hr.un; omega
  have tk : L2N.Takes (cxOf (L2N.CX P w) P w K mg base ["_law_signs", "_law_place_here", "_law_on", "_law_sign"] "_law_begins" (defScope (top 20)) f cdv A outer s H E0) (fun cls d _ H => E0 cls d H) := L2N.takes_of rfl rfl rfl rfl
  unfold b__law_begins
  refine jss_cons ?_ ?_
  · exact (js_set (i := 1) nd rfl (by first | exact .inl rfl | exact .inr rfl) (je_call D.c__law_place.cal hr tk rfl (ja_cons (je_name (pv 0)) ja_nil)))
  refine jss_cons ?_ ?_
  · refine js_if (jt_cmp os_is (je_name (pv 1)) je_non) ?_ ?_
    · refine jss_one ?_
      exact (js_ret je_bl)
    exact jss_nil
  refine jss_cons ?_ ?_
  · refine js_if (jt_bool (jw_or (jt_cmp (os_ne hu) (je_name (pv 1)) (je_blt cs_len rfl E.h_len boot_len (jr_cons (je_name (pv 0)) jr_nil))) (jw_or1 (jt_truth (je_isi rfl E.h_isinstance rfl E.h_bool (by decide +kernel) (je_name (pv 1))))))) ?_ ?_
    · refine jss_one ?_
      exact (js_ret je_bl)
    exact jss_nil
  refine jss_cons ?_ ?_
  · exact (js_setC (i := 2) rfl nd rfl rfl (sw_true rfl rfl rfl rfl) (ji_txt je_str) (blkOk_by (N := ["_law_signs", "_law_place_here", "_law_on", "_law_sign"]) (sc := defScope (top 20)) (own := [("_law_sign", 3)]) (by decide +kernel)) (us := [3]) rfl (by decide) (fun _ _ _ _ _ => (jg_name (pg_name (i := 3) nd rfl (by first | exact .inl rfl | exact .inr rfl)))) (fun _ _ _ _ _ => (jts_one (jt_cmp (os_in hu) (je_call D.c__law_place.cal hr takesN rfl (ja_cons (je_bin os_add (je_name (pv 0)) (je_name (pv 3))) ja_nil)) (je_lst (ja_cons je_non (ja_cons (je_bin os_add (je_blt cs_len rfl E.h_len boot_len (jr_cons (je_name (pv 0)) jr_nil)) je_int) ja_nil)))))) (fun _ _ _ _ _ => (je_name (pv 3))))
  refine jss_one ?_
  exact (js_ret (je_cmp (os_gt hu) (je_blt cs_len rfl E.h_len boot_len (jr_cons (je_name (pv 2)) jr_nil)) je_int))
theorem ok__law_begins (E : Facts K w mg) (D : Defs P w K mg base n) : Dfn P w K mg base T0 (Den tbl (n + 1)) (n + 1) "_law_begins" 606 := by
  obtain ⟨f, fd, hf, F⟩ := E.f__law_begins
  exact ⟨f, fd, ["_law_signs"], hf, F.kp, F.bindsN fun _ _ _ _ _ _ us hl => (match us, hl with | [_], _ => rfl), fo__law_begins E D F⟩
theorem sc_law : FnScope ["_law_script", "_law_tape_here", "_law_turn", "_law_signs", "_law_place_here", "_law_again", "_law_wrong", "_law_tail"] ["_law_script"] (defScope (top 21)) := ⟨rfl, rfl, rfl, by decide +kernel, rfl, by decide +kernel, by decide +kernel⟩
theorem fo_law (E : Facts K w mg) (D : Defs P w K mg base n) {f : Addr} {fd : FuncData} (F : FnP K "law" (top 21) f fd) : FnG P w K mg base (L2N.CX P w) (n + 1) f fd ["_law_script"] (spD ⟨K, mg, T0⟩ ((Den tbl (n + 1)).call 607)) := by
  refine def_ok F sc_law (bd := b_law_607) rfl fun cdv A outer s H E0 hr => ?_
  have nd := (sc_law).nd
  have hu : (A.deeper (envOfC "law" (defScope (top 21)) s.heap.objs.size f cdv)).units + (Den tbl n).room < cLine := by rw [den_room]; have := hr.un; omega
  have tk : L2N.Takes (cxOf (L2N.CX P w) P w K mg base ["_law_script", "_law_tape_here", "_law_turn", "_law_signs", "_law_place_here", "_law_again", "_law_wrong", "_law_tail"] "law" (defScope (top 21)) f cdv A outer s H E0) (fun cls d _ H => E0 cls d H) := L2N.takes_of rfl rfl rfl rfl
  unfold b_law_607
  refine jss_cons ?_ ?_
  · exact (js_setW (i := 1) nd rfl (by first | exact .inl rfl | exact .inr rfl) (je_call D.c__law_tape.cal hr tk rfl (ja_cons (je_name (pv 0)) ja_nil)))
  refine jss_cons ?_ ?_
  · refine js_for (passes_of rfl) rfl (ji_range1 rfl E.h_range (jr_cons je_int jr_nil)) (jg_name (pg_name (i := 2) nd rfl (by first | exact .inl rfl | exact .inr rfl))) ?_
    refine jss_cons ?_ ?_
    · exact (js_set (i := 3) nd rfl (by first | exact .inl rfl | exact .inr rfl) (je_call D.c__law_drawn_text.cal hr tk rfl (ja_cons (je_name (pv 1)) ja_nil)))
    refine jss_cons ?_ ?_
    · exact (js_set (i := 4) nd rfl (by first | exact .inl rfl | exact .inr rfl) (je_call D.c__law_place.cal hr tk rfl (ja_cons (je_name (pv 3)) ja_nil)))
    refine jss_one ?_
    refine js_if (jt_bool (jw_or (jt_cmp os_is (je_name (pv 4)) je_non) (jw_or1 (jt_cmp (os_eq hu) (je_name (pv 4)) (je_blt cs_len rfl E.h_len boot_len (jr_cons (je_name (pv 3)) jr_nil)))))) ?_ ?_
    · refine jss_cons ?_ ?_
      · refine js_for (passes_of rfl) rfl (ji_range1 rfl E.h_range (jr_cons je_int jr_nil)) (jg_name (pg_name (i := 5) nd rfl (by first | exact .inl rfl | exact .inr rfl))) ?_
        refine jss_one ?_
        refine js_if (jt_not (jt_truth (je_call D.c__law_begins.cal hr tk rfl (ja_cons (je_slice (je_name (pv 3)) jo_none (jo_some (je_call D.c__law_pick.cal hr tk rfl (ja_cons (je_name (pv 1)) (ja_cons (je_bin os_add (je_blt cs_len rfl E.h_len boot_len (jr_cons (je_name (pv 3)) jr_nil)) je_int) ja_nil))))) ja_nil)))) ?_ ?_
        · refine jss_one ?_
          exact (js_ret je_bl)
        exact jss_nil
      refine jss_one ?_
      refine js_if (jt_not (jt_truth (je_call D.c__law_begins.cal hr tk rfl (ja_cons (je_name (pv 3)) ja_nil)))) ?_ ?_
      · refine jss_one ?_
        exact (js_ret je_bl)
      exact jss_nil
    refine jss_cons ?_ ?_
    · refine js_if (jt_bool (jw_or (jt_truth (je_isi rfl E.h_isinstance rfl E.h_bool (by decide +kernel) (je_name (pv 4)))) (jw_or (jt_cmp (os_lt hu) (je_name (pv 4)) je_int) (jw_or (jt_cmp (os_gt hu) (je_name (pv 4)) (je_blt cs_len rfl E.h_len boot_len (jr_cons (je_name (pv 3)) jr_nil))) (jw_or1 (jt_not (jt_truth (je_call D.c__law_begins.cal hr tk rfl (ja_cons (je_slice (je_name (pv 3)) jo_none (jo_some (je_name (pv 4)))) ja_nil))))))))) ?_ ?_
      · refine jss_one ?_
        exact (js_ret je_bl)
      exact jss_nil
    refine jss_cons ?_ ?_
    · exact (js_set (i := 6) nd rfl (by first | exact .inl rfl | exact .inr rfl) (je_slice (je_name (pv 3)) jo_none (jo_some (je_bin os_add (je_name (pv 4)) je_int))))
    refine jss_one ?_
    refine js_for (passes_of rfl) rfl (ji_seq (je_lst (ja_cons je_str (ja_cons je_str (ja_cons je_str (ja_cons je_str (ja_cons je_str (ja_cons (je_call D.c__law_piece.cal hr tk rfl (ja_cons (je_name (pv 1)) ja_nil)) (ja_cons (je_call D.c__law_piece.cal hr tk rfl (ja_cons (je_name (pv 1)) ja_nil)) ja_nil))))))))) (jg_name (pg_name (i := 7) nd rfl (by first | exact .inl rfl | exact .inr rfl))) ?_
    refine jss_one ?_
    refine js_if (jt_cmp (os_ne hu) (je_call D.c__law_place.cal hr tk rfl (ja_cons (je_bin os_add (je_name (pv 6)) (je_name (pv 7))) ja_nil)) (je_name (pv 4))) ?_ ?_
    · refine jss_one ?_
      exact (js_ret je_bl)
    exact jss_nil
  refine jss_one ?_
  exact (js_ret je_bl)
theorem ok_law (E : Facts K w mg) (D : Defs P w K mg base n) : Dfn P w K mg base T0 (Den tbl (n + 1)) (n + 1) "law" 607 := by
  obtain ⟨f, fd, hf, F⟩ := E.f_law
  exact ⟨f, fd, ["_law_script"], hf, F.kp, F.bindsN fun _ _ _ _ _ _ us hl => (match us, hl with | [_], _ => rfl), fo_law E D F⟩
theorem sc_Reader_sign : FnScope ["self"] ["self"] (defScope (clsAt 1 (top 6))) := ⟨rfl, rfl, rfl, by decide +kernel, rfl, by decide +kernel, by decide +kernel⟩
theorem fo_Reader_sign (E : Facts K w mg) (D : Defs P w K mg base n) {f : Addr} {fd : FuncData} (F : FunD K "sign" "Reader.sign" (defArgs (clsAt 1 (top 6))) (defBody (clsAt 1 (top 6))) (defScope (clsAt 1 (top 6))) [] [] f fd) : FnG P w K mg base (L2N.CX P w) (n + 1) f fd ["self"] (spD ⟨K, mg, T0⟩ ((Den tbl (n + 1)).call 572)) := by
  refine def_ok F sc_Reader_sign (bd := b_Reader_sign) rfl fun cdv A outer s H E0 hr => ?_
  have nd := (sc_Reader_sign).nd
  have hu : (A.deeper (envOfC "Reader.sign" (defScope (clsAt 1 (top 6))) s.heap.objs.size f cdv)).units + (Den tbl n).room < cLine := by rw [den_room]; have := hr.un; omega
  have tk : L2N.Takes (cxOf (L2N.CX P w) P w K mg base ["self"] "Reader.sign" (defScope (clsAt 1 (top 6))) f cdv A outer s H E0) (fun cls d _ H => E0 cls d H) := L2N.takes_of rfl rfl rfl rfl
  unfold b_Reader_sign
  refine jss_one ?_
  exact (js_ret (je_slice (je_fld (je_name (pv 0)) E.na_Reader_signs) (jo_some (je_fld (je_name (pv 0)) E.na_Reader_at)) (jo_some (je_bin os_add (je_fld (je_name (pv 0)) E.na_Reader_at) je_int))))
theorem ok_Reader_sign (E : Facts K w mg) (D : Defs P w K mg base n) : MthD P w K mg base T0 (Den tbl (n + 1)) (n + 1) "Reader" "sign" 572 := by
  obtain ⟨C, f, fd, oc, mt, F⟩ := E.f_Reader_sign
  exact ⟨C, f, fd, ["self"], oc, mt, F.bindsN fun _ _ _ _ _ _ us hl => (match us, hl with | [_], _ => rfl), fo_Reader_sign E D F⟩
theorem sc_Reader_take : FnScope ["self", "expected", "sign"] ["self", "expected"] (defScope (clsAt 2 (top 6))) := ⟨rfl, rfl, rfl, by decide +kernel, rfl, by decide +kernel, by decide +kernel⟩
theorem fo_Reader_take (E : Facts K w mg) (D : Defs P w K mg base n) {f : Addr} {fd : FuncData} (F : FunD K "take" "Reader.take" (defArgs (clsAt 2 (top 6))) (defBody (clsAt 2 (top 6))) (defScope (clsAt 2 (top 6))) [] [] f fd) : FnG P w K mg base (L2N.CX P w) (n + 1) f fd ["self", "expected"] (spD ⟨K, mg, T0⟩ ((Den tbl (n + 1)).call 575)) := by
  refine def_ok F sc_Reader_take (bd := b_Reader_take) rfl fun cdv A outer s H E0 hr => ?_
  have nd := (sc_Reader_take).nd
  have hu : (A.deeper (envOfC "Reader.take" (defScope (clsAt 2 (top 6))) s.heap.objs.size f cdv)).units + (Den tbl n).room < cLine := by rw [den_room]; have := hr.un; omega
  have tk : L2N.Takes (cxOf (L2N.CX P w) P w K mg base ["self", "expected", "sign"] "Reader.take" (defScope (clsAt 2 (top 6))) f cdv A outer s H E0) (fun cls d _ H => E0 cls d H) := L2N.takes_of rfl rfl rfl rfl
  unfold b_Reader_take
  refine jss_one ?_
  refine js_for (passes_of rfl) rfl (ji_txt (je_name (pv 1))) (jg_name (pg_name (i := 2) nd rfl (by first | exact .inl rfl | exact .inr rfl))) ?_
  refine jss_cons ?_ ?_
  · refine js_if (jt_cmp (os_ne hu) (je_meth0 D.c_Reader_sign hr tk (je_name (pv 0))) (je_name (pv 2))) ?_ ?_
    · refine jss_one ?_
      exact (by rw [den_room]; exact js_raiseF E.x_BadText rfl tk hr rfl (ja_cons (je_fld (je_name (pv 0)) E.na_Reader_at) ja_nil))
    exact jss_nil
  refine jss_one ?_
  exact (js_fldAug (i := 0) rfl (by first | exact .inl rfl | exact .inr (.inl rfl)) is_addI je_int E.na_Reader_at)
theorem ok_Reader_take (E : Facts K w mg) (D : Defs P w K mg base n) : MthD P w K mg base T0 (Den tbl (n + 1)) (n + 1) "Reader" "take" 575 := by
  obtain ⟨C, f, fd, oc, mt, F⟩ := E.f_Reader_take
  exact ⟨C, f, fd, ["self", "expected"], oc, mt, F.bindsN fun _ _ _ _ _ _ us hl => (match us, hl with | [_, _], _ => rfl), fo_Reader_take E D F⟩
theorem sc_Reader_number : FnScope ["self", "begin"] ["self"] (defScope (clsAt 3 (top 6))) := ⟨rfl, rfl, rfl, by decide +kernel, rfl, by decide +kernel, by decide +kernel⟩
theorem fo_Reader_number (E : Facts K w mg) (D : Defs P w K mg base n) {f : Addr} {fd : FuncData} (F : FunD K "number" "Reader.number" (defArgs (clsAt 3 (top 6))) (defBody (clsAt 3 (top 6))) (defScope (clsAt 3 (top 6))) [] [] f fd) : FnG P w K mg base (L2N.CX P w) (n + 1) f fd ["self"] (spD ⟨K, mg, T0⟩ ((Den tbl (n + 1)).call 573)) := by
  refine def_ok F sc_Reader_number (bd := b_Reader_number) rfl fun cdv A outer s H E0 hr => ?_
  have nd := (sc_Reader_number).nd
  have hu : (A.deeper (envOfC "Reader.number" (defScope (clsAt 3 (top 6))) s.heap.objs.size f cdv)).units + (Den tbl n).room < cLine := by rw [den_room]; have := hr.un; omega
  have tk : L2N.Takes (cxOf (L2N.CX P w) P w K mg base ["self", "begin"] "Reader.number" (defScope (clsAt 3 (top 6))) f cdv A outer s H E0) (fun cls d _ H => E0 cls d H) := L2N.takes_of rfl rfl rfl rfl
  unfold b_Reader_number
  refine jss_cons ?_ ?_
  · exact (js_set (i := 1) nd rfl (by first | exact .inl rfl | exact .inr rfl) (je_fld (je_name (pv 0)) E.na_Reader_at))
  refine jss_cons ?_ ?_
  · refine js_while (passes_of rfl) (jt_bool (jw_and (jt_chain (os_le hu) (os_le hu) je_str (je_meth0 D.c_Reader_sign hr tk (je_name (pv 0))) je_str) (jw_and1 (jt_cmp (os_lt hu) (je_fld (je_name (pv 0)) E.na_Reader_at) (je_bin os_add (je_name (pv 1)) (je_const (pe_globI rfl E.k_MOST_FIGURES) (fun _ => .int _))))))) ?_
    refine jss_one ?_
    exact (js_fldAug (i := 0) rfl (by first | exact .inl rfl | exact .inr (.inl rfl)) is_addI je_int E.na_Reader_at)
  refine jss_one ?_
  exact (js_ret (je_bty cs_intT rfl E.h_int (by decide +kernel) (jr_cons (je_slice (je_fld (je_name (pv 0)) E.na_Reader_signs) (jo_some (je_name (pv 1))) (jo_some (je_fld (je_name (pv 0)) E.na_Reader_at))) jr_nil)))
theorem ok_Reader_number (E : Facts K w mg) (D : Defs P w K mg base n) : MthD P w K mg base T0 (Den tbl (n + 1)) (n + 1) "Reader" "number" 573 := by
  obtain ⟨C, f, fd, oc, mt, F⟩ := E.f_Reader_number
  exact ⟨C, f, fd, ["self"], oc, mt, F.bindsN fun _ _ _ _ _ _ us hl => (match us, hl with | [_], _ => rfl), fo_Reader_number E D F⟩
theorem sc_Reader_word : FnScope ["self", "begin"] ["self"] (defScope (clsAt 4 (top 6))) := ⟨rfl, rfl, rfl, by decide +kernel, rfl, by decide +kernel, by decide +kernel⟩
theorem fo_Reader_word (E : Facts K w mg) (D : Defs P w K mg base n) {f : Addr} {fd : FuncData} (F : FunD K "word" "Reader.word" (defArgs (clsAt 4 (top 6))) (defBody (clsAt 4 (top 6))) (defScope (clsAt 4 (top 6))) [] [] f fd) : FnG P w K mg base (L2N.CX P w) (n + 1) f fd ["self"] (spD ⟨K, mg, T0⟩ ((Den tbl (n + 1)).call 578)) := by
  refine def_ok F sc_Reader_word (bd := b_Reader_word) rfl fun cdv A outer s H E0 hr => ?_
  have nd := (sc_Reader_word).nd
  have hu : (A.deeper (envOfC "Reader.word" (defScope (clsAt 4 (top 6))) s.heap.objs.size f cdv)).units + (Den tbl n).room < cLine := by rw [den_room]; have := hr.un; omega
  have tk : L2N.Takes (cxOf (L2N.CX P w) P w K mg base ["self", "begin"] "Reader.word" (defScope (clsAt 4 (top 6))) f cdv A outer s H E0) (fun cls d _ H => E0 cls d H) := L2N.takes_of rfl rfl rfl rfl
  unfold b_Reader_word
  refine jss_cons ?_ ?_
  · exact (js_set (i := 1) nd rfl (by first | exact .inl rfl | exact .inr rfl) (je_fld (je_name (pv 0)) E.na_Reader_at))
  refine jss_cons ?_ ?_
  · refine js_while (passes_of rfl) (jt_bool (jw_and (jt_chain (os_le hu) (os_le hu) je_str (je_meth0 D.c_Reader_sign hr tk (je_name (pv 0))) je_str) (jw_and1 (jt_cmp (os_lt hu) (je_fld (je_name (pv 0)) E.na_Reader_at) (je_bin os_add (je_name (pv 1)) (je_const (pe_globI rfl E.k_MOST_LETTERS) (fun _ => .int _))))))) ?_
    refine jss_one ?_
    exact (js_fldAug (i := 0) rfl (by first | exact .inl rfl | exact .inr (.inl rfl)) is_addI je_int E.na_Reader_at)
  refine jss_cons ?_ ?_
  · refine js_if (jt_cmp (os_eq hu) (je_fld (je_name (pv 0)) E.na_Reader_at) (je_name (pv 1))) ?_ ?_
    · refine jss_one ?_
      exact (by rw [den_room]; exact js_raiseF E.x_BadText rfl tk hr rfl (ja_cons (je_fld (je_name (pv 0)) E.na_Reader_at) ja_nil))
    exact jss_nil
  refine jss_one ?_
  exact (js_ret (je_slice (je_fld (je_name (pv 0)) E.na_Reader_signs) (jo_some (je_name (pv 1))) (jo_some (je_fld (je_name (pv 0)) E.na_Reader_at))))
theorem ok_Reader_word (E : Facts K w mg) (D : Defs P w K mg base n) : MthD P w K mg base T0 (Den tbl (n + 1)) (n + 1) "Reader" "word" 578 := by
  obtain ⟨C, f, fd, oc, mt, F⟩ := E.f_Reader_word
  exact ⟨C, f, fd, ["self"], oc, mt, F.bindsN fun _ _ _ _ _ _ us hl => (match us, hl with | [_], _ => rfl), fo_Reader_word E D F⟩
theorem sc_Reader_mark : FnScope ["self"] ["self"] (defScope (clsAt 5 (top 6))) := ⟨rfl, rfl, rfl, by decide +kernel, rfl, by decide +kernel, by decide +kernel⟩
theorem fo_Reader_mark (E : Facts K w mg) (D : Defs P w K mg base n) {f : Addr} {fd : FuncData} (F : FunD K "mark" "Reader.mark" (defArgs (clsAt 5 (top 6))) (defBody (clsAt 5 (top 6))) (defScope (clsAt 5 (top 6))) [] [] f fd) : FnG P w K mg base (L2N.CX P w) (n + 1) f fd ["self"] (spD ⟨K, mg, T0⟩ ((Den tbl (n + 1)).call 579)) := by
  refine def_ok F sc_Reader_mark (bd := b_Reader_mark) rfl fun cdv A outer s H E0 hr => ?_
  have nd := (sc_Reader_mark).nd
  have hu : (A.deeper (envOfC "Reader.mark" (defScope (clsAt 5 (top 6))) s.heap.objs.size f cdv)).units + (Den tbl n).room < cLine := by rw [den_room]; have := hr.un; omega
  have tk : L2N.Takes (cxOf (L2N.CX P w) P w K mg base ["self"] "Reader.mark" (defScope (clsAt 5 (top 6))) f cdv A outer s H E0) (fun cls d _ H => E0 cls d H) := L2N.takes_of rfl rfl rfl rfl
  unfold b_Reader_mark
  refine jss_cons ?_ ?_
  · refine js_if (jt_cmp (os_eq hu) (je_meth0 D.c_Reader_sign hr tk (je_name (pv 0))) je_str) ?_ ?_
    · refine jss_cons ?_ ?_
      · exact (js_fldAug (i := 0) rfl (by first | exact .inl rfl | exact .inr (.inl rfl)) is_addI je_int E.na_Reader_at)
      refine jss_one ?_
      exact (js_ret je_int)
    exact jss_nil
  refine jss_cons ?_ ?_
  · refine js_if (jt_not (jt_chain (os_le hu) (os_le hu) je_str (je_meth0 D.c_Reader_sign hr tk (je_name (pv 0))) je_str)) ?_ ?_
    · refine jss_one ?_
      exact (by rw [den_room]; exact js_raiseF E.x_BadText rfl tk hr rfl (ja_cons (je_fld (je_name (pv 0)) E.na_Reader_at) ja_nil))
    exact jss_nil
  refine jss_one ?_
  exact (js_ret (je_meth0 D.c_Reader_number hr tk (je_name (pv 0))))
theorem ok_Reader_mark (E : Facts K w mg) (D : Defs P w K mg base n) : MthD P w K mg base T0 (Den tbl (n + 1)) (n + 1) "Reader" "mark" 579 := by
  obtain ⟨C, f, fd, oc, mt, F⟩ := E.f_Reader_mark
  exact ⟨C, f, fd, ["self"], oc, mt, F.bindsN fun _ _ _ _ _ _ us hl => (match us, hl with | [_], _ => rfl), fo_Reader_mark E D F⟩
theorem sc_Reader_whole : FnScope ["self", "words", "found"] ["self", "words"] (defScope (clsAt 6 (top 6))) := ⟨rfl, rfl, rfl, by decide +kernel, rfl, by decide +kernel, by decide +kernel⟩
theorem fo_Reader_whole (E : Facts K w mg) (D : Defs P w K mg base n) {f : Addr} {fd : FuncData} (F : FunD K "whole" "Reader.whole" (defArgs (clsAt 6 (top 6))) (defBody (clsAt 6 (top 6))) (defScope (clsAt 6 (top 6))) [] [] f fd) : FnG P w K mg base (L2N.CX P w) (n + 1) f fd ["self", "words"] (spD ⟨K, mg, T0⟩ ((Den tbl (n + 1)).call 563)) := by
  refine def_ok F sc_Reader_whole (bd := b_Reader_whole) rfl fun cdv A outer s H E0 hr => ?_
  have nd := (sc_Reader_whole).nd
  have hu : (A.deeper (envOfC "Reader.whole" (defScope (clsAt 6 (top 6))) s.heap.objs.size f cdv)).units + (Den tbl n).room < cLine := by rw [den_room]; have := hr.un; omega
  have tk : L2N.Takes (cxOf (L2N.CX P w) P w K mg base ["self", "words", "found"] "Reader.whole" (defScope (clsAt 6 (top 6))) f cdv A outer s H E0) (fun cls d _ H => E0 cls d H) := L2N.takes_of rfl rfl rfl rfl
  unfold b_Reader_whole
  refine jss_cons ?_ ?_
  · refine js_if (jt_cmp (os_eq hu) (je_meth0 D.c_Reader_sign hr tk (je_name (pv 0))) je_str) ?_ ?_
    · refine jss_cons ?_ ?_
      · exact (js_fldAug (i := 0) rfl (by first | exact .inl rfl | exact .inr (.inl rfl)) is_addI je_int E.na_Reader_at)
      refine jss_one ?_
      exact (js_ret (je_tup ja_nil))
    exact jss_nil
  refine jss_cons ?_ ?_
  · exact (js_set (i := 2) nd rfl (by first | exact .inl rfl | exact .inr rfl) (je_lst (ja_cons (je_meth D.c_Reader_item hr tk (je_name (pv 0)) (ja_cons (je_name (pv 1)) ja_nil)) ja_nil)))
  refine jss_cons ?_ ?_
  · refine js_while (passes_of rfl) (jt_cmp (os_eq hu) (je_meth0 D.c_Reader_sign hr tk (je_name (pv 0))) je_str) ?_
    refine jss_cons ?_ ?_
    · exact (js_expr (je_meth D.c_Reader_take hr tk (je_name (pv 0)) (ja_cons je_str ja_nil)))
    refine jss_one ?_
    exact (js_append (pv 2) (je_meth D.c_Reader_item hr tk (je_name (pv 0)) (ja_cons (je_name (pv 1)) ja_nil)))
  refine jss_one ?_
  exact (js_ret (je_bty cs_tuple rfl E.h_tuple (by decide +kernel) (jr_cons (je_name (pv 2)) jr_nil)))
theorem ok_Reader_whole (E : Facts K w mg) (D : Defs P w K mg base n) : MthD P w K mg base T0 (Den tbl (n + 1)) (n + 1) "Reader" "whole" 563 := by
  obtain ⟨C, f, fd, oc, mt, F⟩ := E.f_Reader_whole
  exact ⟨C, f, fd, ["self", "words"], oc, mt, F.bindsN fun _ _ _ _ _ _ us hl => (match us, hl with | [_, _], _ => rfl), fo_Reader_whole E D F⟩
theorem sc_Reader_item : FnScope ["self", "words", "count"] ["self", "words"] (defScope (clsAt 7 (top 6))) := ⟨rfl, rfl, rfl, by decide +kernel, rfl, by decide +kernel, by decide +kernel⟩
theorem fo_Reader_item (E : Facts K w mg) (D : Defs P w K mg base n) {f : Addr} {fd : FuncData} (F : FunD K "item" "Reader.item" (defArgs (clsAt 7 (top 6))) (defBody (clsAt 7 (top 6))) (defScope (clsAt 7 (top 6))) [] [] f fd) : FnG P w K mg base (L2N.CX P w) (n + 1) f fd ["self", "words"] (spD ⟨K, mg, T0⟩ ((Den tbl (n + 1)).call 574)) := by
  refine def_ok F sc_Reader_item (bd := b_Reader_item) rfl fun cdv A outer s H E0 hr => ?_
  have nd := (sc_Reader_item).nd
  have hu : (A.deeper (envOfC "Reader.item" (defScope (clsAt 7 (top 6))) s.heap.objs.size f cdv)).units + (Den tbl n).room < cLine := by rw [den_room]; have := hr.un; omega
  have tk : L2N.Takes (cxOf (L2N.CX P w) P w K mg base ["self", "words", "count"] "Reader.item" (defScope (clsAt 7 (top 6))) f cdv A outer s H E0) (fun cls d _ H => E0 cls d H) := L2N.takes_of rfl rfl rfl rfl
  unfold b_Reader_item
  refine jss_cons ?_ ?_
  · exact (js_set (i := 2) nd rfl (by first | exact .inl rfl | exact .inr rfl) je_int)
  refine jss_cons ?_ ?_
  · refine js_if (jt_chain (os_le hu) (os_le hu) je_str (je_meth0 D.c_Reader_sign hr tk (je_name (pv 0))) je_str) ?_ ?_
    · refine jss_cons ?_ ?_
      · exact (js_set (i := 2) nd rfl (by first | exact .inl rfl | exact .inr rfl) (je_meth0 D.c_Reader_number hr tk (je_name (pv 0))))
      refine jss_cons ?_ ?_
      · refine js_if (jt_cmp (os_eq hu) (je_name (pv 2)) je_int) ?_ ?_
        · refine jss_one ?_
          exact (by rw [den_room]; exact js_raiseF E.x_BadText rfl tk hr rfl (ja_cons (je_fld (je_name (pv 0)) E.na_Reader_at) ja_nil))
        exact jss_nil
      refine jss_one ?_
      exact (js_expr (je_meth D.c_Reader_take hr tk (je_name (pv 0)) (ja_cons je_str ja_nil)))
    exact jss_nil
  refine jss_one ?_
  exact (js_ret (je_tup (ja_cons (je_name (pv 2)) (ja_cons (je_meth D.c_Reader_part hr tk (je_name (pv 0)) (ja_cons (je_name (pv 1)) ja_nil)) ja_nil))))
theorem ok_Reader_item (E : Facts K w mg) (D : Defs P w K mg base n) : MthD P w K mg base T0 (Den tbl (n + 1)) (n + 1) "Reader" "item" 574 := by
  obtain ⟨C, f, fd, oc, mt, F⟩ := E.f_Reader_item
  exact ⟨C, f, fd, ["self", "words"], oc, mt, F.bindsN fun _ _ _ _ _ _ us hl => (match us, hl with | [_, _], _ => rfl), fo_Reader_item E D F⟩
theorem sc_Reader_part : FnScope ["self", "words", "word", "inner", "bound"] ["self", "words"] (defScope (clsAt 8 (top 6))) := ⟨rfl, rfl, rfl, by decide +kernel, rfl, by decide +kernel, by decide +kernel⟩
theorem fo_Reader_part (E : Facts K w mg) (D : Defs P w K mg base n) {f : Addr} {fd : FuncData} (F : FunD K "part" "Reader.part" (defArgs (clsAt 8 (top 6))) (defBody (clsAt 8 (top 6))) (defScope (clsAt 8 (top 6))) [] [] f fd) : FnG P w K mg base (L2N.CX P w) (n + 1) f fd ["self", "words"] (spD ⟨K, mg, T0⟩ ((Den tbl (n + 1)).call 576)) := by
  refine def_ok F sc_Reader_part (bd := b_Reader_part) rfl fun cdv A outer s H E0 hr => ?_
  have nd := (sc_Reader_part).nd
  have hu : (A.deeper (envOfC "Reader.part" (defScope (clsAt 8 (top 6))) s.heap.objs.size f cdv)).units + (Den tbl n).room < cLine := by rw [den_room]; have := hr.un; omega
  have tk : L2N.Takes (cxOf (L2N.CX P w) P w K mg base ["self", "words", "word", "inner", "bound"] "Reader.part" (defScope (clsAt 8 (top 6))) f cdv A outer s H E0) (fun cls d _ H => E0 cls d H) := L2N.takes_of rfl rfl rfl rfl
  unfold b_Reader_part
  refine jss_cons ?_ ?_
  · refine js_if (jt_cmp (os_eq hu) (je_meth0 D.c_Reader_sign hr tk (je_name (pv 0))) je_str) ?_ ?_
    · refine jss_cons ?_ ?_
      · exact (js_fldAug (i := 0) rfl (by first | exact .inl rfl | exact .inr (.inl rfl)) is_addI je_int E.na_Reader_at)
      refine jss_one ?_
      exact (js_ret (je_tup (ja_cons je_str (ja_cons (je_meth0 D.c_Reader_mark hr tk (je_name (pv 0))) ja_nil))))
    exact jss_nil
  refine jss_cons ?_ ?_
  · exact (js_set (i := 2) nd rfl (by first | exact .inl rfl | exact .inr rfl) (je_meth0 D.c_Reader_word hr tk (je_name (pv 0))))
  refine jss_cons ?_ ?_
  · refine js_if (jt_bool (jw_and (jt_cmp (os_eq hu) (je_blt cs_len rfl E.h_len boot_len (jr_cons (je_name (pv 2)) jr_nil)) je_int) (jw_and1 (jt_cmp (os_eq hu) (je_meth0 D.c_Reader_sign hr tk (je_name (pv 0))) je_str)))) ?_ ?_
    · refine jss_cons ?_ ?_
      · exact (js_fldAug (i := 0) rfl (by first | exact .inl rfl | exact .inr (.inl rfl)) is_addI je_int E.na_Reader_at)
      refine jss_cons ?_ ?_
      · exact (js_set (i := 3) nd rfl (by first | exact .inl rfl | exact .inr rfl) (je_meth D.c_Reader_whole hr tk (je_name (pv 0)) (ja_cons (je_name (pv 1)) ja_nil)))
      refine jss_cons ?_ ?_
      · exact (js_expr (je_meth D.c_Reader_take hr tk (je_name (pv 0)) (ja_cons je_str ja_nil)))
      refine jss_one ?_
      exact (js_ret (je_tup (ja_cons je_str (ja_cons (je_name (pv 2)) (ja_cons (je_name (pv 3)) ja_nil)))))
    exact jss_nil
  refine jss_cons ?_ ?_
  · refine js_if (jt_bool (jw_and (jt_cmp (os_eq hu) (je_blt cs_len rfl E.h_len boot_len (jr_cons (je_name (pv 2)) jr_nil)) je_int) (jw_and1 (jt_cmp (os_eq hu) (je_meth0 D.c_Reader_sign hr tk (je_name (pv 0))) je_str)))) ?_ ?_
    · refine jss_cons ?_ ?_
      · exact (js_fldAug (i := 0) rfl (by first | exact .inl rfl | exact .inr (.inl rfl)) is_addI je_int E.na_Reader_at)
      refine jss_cons ?_ ?_
      · exact (js_set (i := 4) nd rfl (by first | exact .inl rfl | exact .inr rfl) (je_meth0 D.c_Reader_word hr tk (je_name (pv 0))))
      refine jss_cons ?_ ?_
      · exact (js_expr (je_meth D.c_Reader_take hr tk (je_name (pv 0)) (ja_cons je_str ja_nil)))
      refine jss_one ?_
      exact (js_ret (je_tup (ja_cons je_str (ja_cons (je_name (pv 2)) (ja_cons (je_meth D.c_Reader_body hr tk (je_name (pv 0)) (ja_cons (je_bin os_add (je_lst (ja_cons (je_name (pv 4)) ja_nil)) (je_name (pv 1))) ja_nil)) ja_nil)))))
    exact jss_nil
  refine jss_cons ?_ ?_
  · refine js_if (jt_cmp (os_in hu) (je_name (pv 2)) (je_name (pv 1))) ?_ ?_
    · refine jss_one ?_
      exact (js_ret (je_tup (ja_cons je_str (ja_cons (je_indexD hu (by rw [den_room]; omega) (je_name (pv 1)) (je_name (pv 2))) ja_nil))))
    exact jss_nil
  refine jss_one ?_
  exact (js_ret (je_tup (ja_cons je_str (ja_cons (je_name (pv 2)) ja_nil))))
theorem ok_Reader_part (E : Facts K w mg) (D : Defs P w K mg base n) : MthD P w K mg base T0 (Den tbl (n + 1)) (n + 1) "Reader" "part" 576 := by
  obtain ⟨C, f, fd, oc, mt, F⟩ := E.f_Reader_part
  exact ⟨C, f, fd, ["self", "words"], oc, mt, F.bindsN fun _ _ _ _ _ _ us hl => (match us, hl with | [_, _], _ => rfl), fo_Reader_part E D F⟩
theorem sc_Reader_body : FnScope ["self", "words", "inner"] ["self", "words"] (defScope (clsAt 9 (top 6))) := ⟨rfl, rfl, rfl, by decide +kernel, rfl, by decide +kernel, by decide +kernel⟩
theorem fo_Reader_body (E : Facts K w mg) (D : Defs P w K mg base n) {f : Addr} {fd : FuncData} (F : FunD K "body" "Reader.body" (defArgs (clsAt 9 (top 6))) (defBody (clsAt 9 (top 6))) (defScope (clsAt 9 (top 6))) [] [] f fd) : FnG P w K mg base (L2N.CX P w) (n + 1) f fd ["self", "words"] (spD ⟨K, mg, T0⟩ ((Den tbl (n + 1)).call 577)) := by
  refine def_ok F sc_Reader_body (bd := b_Reader_body) rfl fun cdv A outer s H E0 hr => ?_
  have nd := (sc_Reader_body).nd
  have hu : (A.deeper (envOfC "Reader.body" (defScope (clsAt 9 (top 6))) s.heap.objs.size f cdv)).units + (Den tbl n).room < cLine := by rw [den_room]; have := hr.un; omega
  have tk : L2N.Takes (cxOf (L2N.CX P w) P w K mg base ["self", "words", "inner"] "Reader.body" (defScope (clsAt 9 (top 6))) f cdv A outer s H E0) (fun cls d _ H => E0 cls d H) := L2N.takes_of rfl rfl rfl rfl
  unfold b_Reader_body
  refine jss_cons ?_ ?_
  · refine js_if (jt_cmp (os_eq hu) (je_meth0 D.c_Reader_sign hr tk (je_name (pv 0))) je_str) ?_ ?_
    · refine jss_cons ?_ ?_
      · exact (js_fldAug (i := 0) rfl (by first | exact .inl rfl | exact .inr (.inl rfl)) is_addI je_int E.na_Reader_at)
      refine jss_one ?_
      exact (js_ret (je_tup ja_nil))
    exact jss_nil
  refine jss_cons ?_ ?_
  · refine js_if (jt_cmp (os_ne hu) (je_meth0 D.c_Reader_sign hr tk (je_name (pv 0))) je_str) ?_ ?_
    · refine jss_one ?_
      exact (js_ret (je_tup (ja_cons (je_tup (ja_cons je_int (ja_cons (je_meth D.c_Reader_part hr tk (je_name (pv 0)) (ja_cons (je_name (pv 1)) ja_nil)) ja_nil))) ja_nil)))
    exact jss_nil
  refine jss_cons ?_ ?_
  · exact (js_fldAug (i := 0) rfl (by first | exact .inl rfl | exact .inr (.inl rfl)) is_addI je_int E.na_Reader_at)
  refine jss_cons ?_ ?_
  · exact (js_set (i := 2) nd rfl (by first | exact .inl rfl | exact .inr rfl) (je_meth D.c_Reader_whole hr tk (je_name (pv 0)) (ja_cons (je_name (pv 1)) ja_nil)))
  refine jss_cons ?_ ?_
  · exact (js_expr (je_meth D.c_Reader_take hr tk (je_name (pv 0)) (ja_cons je_str ja_nil)))
  refine jss_one ?_
  exact (js_ret (je_name (pv 2)))
theorem ok_Reader_body (E : Facts K w mg) (D : Defs P w K mg base n) : MthD P w K mg base T0 (Den tbl (n + 1)) (n + 1) "Reader" "body" 577 := by
  obtain ⟨C, f, fd, oc, mt, F⟩ := E.f_Reader_body
  exact ⟨C, f, fd, ["self", "words"], oc, mt, F.bindsN fun _ _ _ _ _ _ us hl => (match us, hl with | [_, _], _ => rfl), fo_Reader_body E D F⟩
theorem sc_init_Reader : FnScope ["self", "signs"] ["self", "signs"] (defScope (clsAt 0 (top 6))) := ⟨rfl, rfl, rfl, by decide +kernel, rfl, by decide +kernel, by decide +kernel⟩
theorem fo_init_Reader (E : Facts K w mg) (D : Defs P w K mg base n) {f : Addr} {fd : FuncData} (F : FunD K "__init__" "Reader.__init__" (defArgs (clsAt 0 (top 6))) (defBody (clsAt 0 (top 6))) (defScope (clsAt 0 (top 6))) [] [] f fd) : FnG P w K mg base (L2N.CX P w) (n + 1) f fd ["self", "signs"] (spD ⟨K, mg, T0⟩ ((Den tbl (n + 1)).call 581)) := by
  refine def_ok F sc_init_Reader (bd := b_init_Reader) rfl fun cdv A outer s H E0 hr => ?_
  have nd := (sc_init_Reader).nd
  have hu : (A.deeper (envOfC "Reader.__init__" (defScope (clsAt 0 (top 6))) s.heap.objs.size f cdv)).units + (Den tbl n).room < cLine := by rw [den_room]; have := hr.un; omega
  have tk : L2N.Takes (cxOf (L2N.CX P w) P w K mg base ["self", "signs"] "Reader.__init__" (defScope (clsAt 0 (top 6))) f cdv A outer s H E0) (fun cls d _ H => E0 cls d H) := L2N.takes_of rfl rfl rfl rfl
  unfold b_init_Reader
  refine jss_cons ?_ ?_
  · exact (js_fldO (i := 0) rfl (by first | exact .inl rfl | exact .inr (.inl rfl)) (je_name (pv 1)) E.na_Reader_signs)
  refine jss_one ?_
  exact (js_fldO (i := 0) rfl (by first | exact .inl rfl | exact .inr (.inl rfl)) je_int E.na_Reader_at)
theorem ok_init_Reader (E : Facts K w mg) (D : Defs P w K mg base n) : IniD P w K mg base T0 (Den tbl (n + 1)) (n + 1) "Reader" 581 := by
  obtain ⟨C, f, fd, oc, mk, F⟩ := E.f_init_Reader
  exact ⟨C, f, fd, ["self", "signs"], oc, mk, F.bindsN fun _ _ _ _ _ _ us hl => (match us, hl with | [_, _], _ => rfl), fo_init_Reader E D F⟩
theorem lvl (E : Facts K w mg) : ∀ n, Defs P w K mg base n
  | 0 => ⟨(by obtain ⟨f, fd, hf, F⟩ := E.f_read; exact ⟨f, fd, ["text"], hf, F.kp, F.bindsN fun _ _ _ _ _ _ us hl => (match us, hl with | [_], _ => rfl), def_zero⟩),
    (by obtain ⟨f, fd, hf, F⟩ := E.f__law_tape; exact ⟨f, fd, ["_law_script"], hf, F.kp, F.bindsN fun _ _ _ _ _ _ us hl => (match us, hl with | [_], _ => rfl), def_zero⟩),
    (by obtain ⟨f, fd, hf, F⟩ := E.f__law_pick; exact ⟨f, fd, ["_law_tape_here", "_law_many"], hf, F.kp, F.bindsN fun _ _ _ _ _ _ us hl => (match us, hl with | [_, _], _ => rfl), def_zero⟩),
    (by obtain ⟨f, fd, hf, F⟩ := E.f__law_drawn; exact ⟨f, fd, ["_law_tape_here"], hf, F.kp, F.bindsN fun _ _ _ _ _ _ us hl => (match us, hl with | [_], _ => rfl), def_zero⟩),
    (by obtain ⟨f, fd, hf, F⟩ := E.f__law_tree; exact ⟨f, fd, ["_law_tape_here", "_law_left", "_law_words"], hf, F.kp, F.bindsN fun _ _ _ _ _ _ us hl => (match us, hl with | [_, _, _], _ => rfl), def_zero⟩),
    (by obtain ⟨f, fd, hf, F⟩ := E.f__law_written; exact ⟨f, fd, ["_law_items"], hf, F.kp, F.bindsN fun _ _ _ _ _ _ us hl => (match us, hl with | [_], _ => rfl), def_zero⟩),
    (by obtain ⟨f, fd, hf, F⟩ := E.f__law_piece; exact ⟨f, fd, ["_law_tape_here"], hf, F.kp, F.bindsN fun _ _ _ _ _ _ us hl => (match us, hl with | [_], _ => rfl), def_zero⟩),
    (by obtain ⟨f, fd, hf, F⟩ := E.f__law_spoiled; exact ⟨f, fd, ["_law_tape_here", "_law_signs"], hf, F.kp, F.bindsN fun _ _ _ _ _ _ us hl => (match us, hl with | [_, _], _ => rfl), def_zero⟩),
    (by obtain ⟨f, fd, hf, F⟩ := E.f__law_drawn_text; exact ⟨f, fd, ["_law_tape_here"], hf, F.kp, F.bindsN fun _ _ _ _ _ _ us hl => (match us, hl with | [_], _ => rfl), def_zero⟩),
    (by obtain ⟨f, fd, hf, F⟩ := E.f__law_place; exact ⟨f, fd, ["_law_signs"], hf, F.kp, F.bindsN fun _ _ _ _ _ _ us hl => (match us, hl with | [_], _ => rfl), def_zero⟩),
    (by obtain ⟨f, fd, hf, F⟩ := E.f__law_begins; exact ⟨f, fd, ["_law_signs"], hf, F.kp, F.bindsN fun _ _ _ _ _ _ us hl => (match us, hl with | [_], _ => rfl), def_zero⟩),
    (by obtain ⟨f, fd, hf, F⟩ := E.f_law; exact ⟨f, fd, ["_law_script"], hf, F.kp, F.bindsN fun _ _ _ _ _ _ us hl => (match us, hl with | [_], _ => rfl), def_zero⟩),
    (by obtain ⟨C, f, fd, oc, mt, F⟩ := E.f_Reader_sign; exact mth_zero oc mt (F.bindsN (ps := ["self"]) fun _ _ _ _ _ _ us hl => (match us, hl with | [_], _ => rfl))),
    (by obtain ⟨C, f, fd, oc, mt, F⟩ := E.f_Reader_take; exact mth_zero oc mt (F.bindsN (ps := ["self", "expected"]) fun _ _ _ _ _ _ us hl => (match us, hl with | [_, _], _ => rfl))),
    (by obtain ⟨C, f, fd, oc, mt, F⟩ := E.f_Reader_number; exact mth_zero oc mt (F.bindsN (ps := ["self"]) fun _ _ _ _ _ _ us hl => (match us, hl with | [_], _ => rfl))),
    (by obtain ⟨C, f, fd, oc, mt, F⟩ := E.f_Reader_word; exact mth_zero oc mt (F.bindsN (ps := ["self"]) fun _ _ _ _ _ _ us hl => (match us, hl with | [_], _ => rfl))),
    (by obtain ⟨C, f, fd, oc, mt, F⟩ := E.f_Reader_mark; exact mth_zero oc mt (F.bindsN (ps := ["self"]) fun _ _ _ _ _ _ us hl => (match us, hl with | [_], _ => rfl))),
    (by obtain ⟨C, f, fd, oc, mt, F⟩ := E.f_Reader_whole; exact mth_zero oc mt (F.bindsN (ps := ["self", "words"]) fun _ _ _ _ _ _ us hl => (match us, hl with | [_, _], _ => rfl))),
    (by obtain ⟨C, f, fd, oc, mt, F⟩ := E.f_Reader_item; exact mth_zero oc mt (F.bindsN (ps := ["self", "words"]) fun _ _ _ _ _ _ us hl => (match us, hl with | [_, _], _ => rfl))),
    (by obtain ⟨C, f, fd, oc, mt, F⟩ := E.f_Reader_part; exact mth_zero oc mt (F.bindsN (ps := ["self", "words"]) fun _ _ _ _ _ _ us hl => (match us, hl with | [_, _], _ => rfl))),
    (by obtain ⟨C, f, fd, oc, mt, F⟩ := E.f_Reader_body; exact mth_zero oc mt (F.bindsN (ps := ["self", "words"]) fun _ _ _ _ _ _ us hl => (match us, hl with | [_, _], _ => rfl))),
    (by obtain ⟨C, f, fd, oc, mk, F⟩ := E.f_init_Reader; exact ⟨C, f, fd, ["self", "signs"], oc, mk, F.bindsN fun _ _ _ _ _ _ us hl => (match us, hl with | [_, _], _ => rfl), def_zero⟩),
    (by obtain ⟨C, f, fd, oc, mk, F⟩ := E.f_init_Reader; exact mak_zero oc mk (F.bindsN (ps := ["self", "signs"]) fun _ _ _ _ _ _ us hl => (match us, hl with | [_, _], _ => rfl)))⟩
  | n + 1 => ⟨ok_read E (lvl E n), ok__law_tape E (lvl E n), ok__law_pick E (lvl E n), ok__law_drawn E (lvl E n), ok__law_tree E (lvl E n), ok__law_written E (lvl E n), ok__law_piece E (lvl E n), ok__law_spoiled E (lvl E n), ok__law_drawn_text E (lvl E n), ok__law_place E (lvl E n), ok__law_begins E (lvl E n), ok_law E (lvl E n), ok_Reader_sign E (lvl E n), ok_Reader_take E (lvl E n), ok_Reader_number E (lvl E n), ok_Reader_word E (lvl E n), ok_Reader_mark E (lvl E n), ok_Reader_whole E (lvl E n), ok_Reader_item E (lvl E n), ok_Reader_part E (lvl E n), ok_Reader_body E (lvl E n), ok_init_Reader E (lvl E n), (lvl E n).c_init_Reader.mak rfl⟩
end
end K24
end Dl
namespace Dl
open PySem PySem.Spec PyProof.Rows L2 NdefX
namespace K24
theorem has : Has24 tbl := by
  refine { t11 := rfl, t595 := rfl, t596 := rfl, t591 := rfl, t592 := rfl, t593 := rfl, t566 := rfl, t570 := rfl, t602 := rfl, t572 := rfl, t573 := rfl, t575 := rfl, t578 := rfl, t579 := rfl, t563 := rfl, t574 := rfl, t576 := rfl, t577 := rfl, t564 := rfl, t581 := rfl, t524 := rfl, t605 := rfl, t606 := rfl, t22 := rfl }
theorem law_true (ns : List Int) : ∃ w', (Den tbl 331).call 607 [.dat (.lst (ns.map .int))] [] = .ok (.dat (.bl true)) w' := by
  have e0 : (Den tbl 330).call 22 [.dat (.lst (ns.map .int))] [] = .ok (.fresh [.lst (ns.map .int), .int 0, .int 0, .int 1, .int 0]) [] := by
    rw [den_succ has.t22]
    exact tape_run
  have t0 : TapeOk [] [.lst [.lst (ns.map .int), .int 0, .int 0, .int 1, .int 0]] := ⟨ns, 0, 0, 1, 0, rfl, by decide⟩
  generalize hS : D.lst (ns.map D.int) = S at *
  have ht : tbl 607 = some ⟨1, 8, b_law_607⟩ := rfl
  obtain ⟨w', e⟩ := law24 has (n := 330) (by omega) (S := S) t0
  refine ⟨w', ?_⟩
  rw [show (Den tbl 331).call 607 [.dat S] [] = endR (b_law_607 (Den tbl 330) [.dat S, .un, .un, .un, .un, .un, .un, .un] []) by rw [den_succ ht]; rfl]
  rw [law24_eq]
  have s1 : y24top (Den tbl 330) [.dat S, .un, .un, .un, .un, .un, .un, .un] [] = .ok (.nx [.dat S, .wref 0, .un, .un, .un, .un, .un, .un]) [.lst [S, .int 0, .int 0, .int 1, .int 0]] := by
    simp [e0]
  rw [seqN s1, e]
  rfl
end K24
end Dl
namespace Dl
open PySem PySem.Spec PyProof.Rows L2 NdefX
namespace K24
theorem factsH {w : PySem.World} {K : PySem.W.Frag} {h : Heap} {mg : Str → Option Value} (X : K.In h) (G : h.Ns mainGlobals mg) (c : SaysX faH fnH tsH exH w K) : Facts K w mg where
  f_read := by obtain ⟨fd, F⟩ := c.t.d.def_ 0 (d := ⟨("read", none), "read", "read", defArgs (top 7), defBody (top 7), defScope (top 7), [], []⟩) rfl; exact ⟨_, fd, He.glo_ok X G (c.t.d.fact 0 (f := .glo "read") rfl), F⟩
  f__law_tape := by obtain ⟨fd, F⟩ := c.t.d.def_ 1 (d := ⟨("_law_tape", none), "_law_tape", "_law_tape", defArgs (top 9), defBody (top 9), defScope (top 9), [], []⟩) rfl; exact ⟨_, fd, He.glo_ok X G (c.t.d.fact 1 (f := .glo "_law_tape") rfl), F⟩
  f__law_pick := by obtain ⟨fd, F⟩ := c.t.d.def_ 2 (d := ⟨("_law_pick", none), "_law_pick", "_law_pick", defArgs (top 10), defBody (top 10), defScope (top 10), [], []⟩) rfl; exact ⟨_, fd, He.glo_ok X G (c.t.d.fact 2 (f := .glo "_law_pick") rfl), F⟩
  f__law_drawn := by obtain ⟨fd, F⟩ := c.t.d.def_ 3 (d := ⟨("_law_drawn", none), "_law_drawn", "_law_drawn", defArgs (top 11), defBody (top 11), defScope (top 11), [], []⟩) rfl; exact ⟨_, fd, He.glo_ok X G (c.t.d.fact 3 (f := .glo "_law_drawn") rfl), F⟩
  f__law_tree := by obtain ⟨fd, F⟩ := c.t.d.def_ 4 (d := ⟨("_law_tree", none), "_law_tree", "_law_tree", defArgs (top 14), defBody (top 14), defScope (top 14), [], []⟩) rfl; exact ⟨_, fd, He.glo_ok X G (c.t.d.fact 4 (f := .glo "_law_tree") rfl), F⟩
  f__law_written := by obtain ⟨fd, F⟩ := c.t.d.def_ 5 (d := ⟨("_law_written", none), "_law_written", "_law_written", defArgs (top 15), defBody (top 15), defScope (top 15), [], []⟩) rfl; exact ⟨_, fd, He.glo_ok X G (c.t.d.fact 5 (f := .glo "_law_written") rfl), F⟩
  f__law_piece := by obtain ⟨fd, F⟩ := c.t.d.def_ 6 (d := ⟨("_law_piece", none), "_law_piece", "_law_piece", defArgs (top 16), defBody (top 16), defScope (top 16), [], []⟩) rfl; exact ⟨_, fd, He.glo_ok X G (c.t.d.fact 6 (f := .glo "_law_piece") rfl), F⟩
  f__law_spoiled := by obtain ⟨fd, F⟩ := c.t.d.def_ 7 (d := ⟨("_law_spoiled", none), "_law_spoiled", "_law_spoiled", defArgs (top 17), defBody (top 17), defScope (top 17), [], []⟩) rfl; exact ⟨_, fd, He.glo_ok X G (c.t.d.fact 7 (f := .glo "_law_spoiled") rfl), F⟩
  f__law_drawn_text := by obtain ⟨fd, F⟩ := c.t.d.def_ 8 (d := ⟨("_law_drawn_text", none), "_law_drawn_text", "_law_drawn_text", defArgs (top 18), defBody (top 18), defScope (top 18), [], []⟩) rfl; exact ⟨_, fd, He.glo_ok X G (c.t.d.fact 8 (f := .glo "_law_drawn_text") rfl), F⟩
  f__law_place := by obtain ⟨fd, F⟩ := c.t.d.def_ 9 (d := ⟨("_law_place", none), "_law_place", "_law_place", defArgs (top 19), defBody (top 19), defScope (top 19), [], []⟩) rfl; exact ⟨_, fd, He.glo_ok X G (c.t.d.fact 9 (f := .glo "_law_place") rfl), F⟩
  f__law_begins := by obtain ⟨fd, F⟩ := c.t.d.def_ 10 (d := ⟨("_law_begins", none), "_law_begins", "_law_begins", defArgs (top 20), defBody (top 20), defScope (top 20), [], []⟩) rfl; exact ⟨_, fd, He.glo_ok X G (c.t.d.fact 10 (f := .glo "_law_begins") rfl), F⟩
  f_law := by obtain ⟨fd, F⟩ := c.t.d.def_ 11 (d := ⟨("law", none), "law", "law", defArgs (top 21), defBody (top 21), defScope (top 21), [], []⟩) rfl; exact ⟨_, fd, He.glo_ok X G (c.t.d.fact 11 (f := .glo "law") rfl), F⟩
  f_init_Reader := by obtain ⟨fd, F⟩ := c.t.d.def_ 21 (d := ⟨("Reader", some "__init__"), "__init__", "Reader.__init__", defArgs (clsAt 0 (top 6)), defBody (clsAt 0 (top 6)), defScope (clsAt 0 (top 6)), [], []⟩) rfl; obtain ⟨oc, mk, _⟩ := (ob_of (x := "Reader") (fs := ["signs", "at"]) (He.glo_ok X G (c.t.d.fact 12 (f := .glo "Reader") rfl)) (by have e := c.x; simp only [exH, Bool.and_eq_true] at e; first | exact e | (repeat (first | exact e.2 | exact e.1 | (replace e := e.1))))); exact ⟨_, _, fd, oc, mk, F⟩
  na_Reader_signs := (ob_of (x := "Reader") (fs := ["signs", "at"]) (He.glo_ok X G (c.t.d.fact 12 (f := .glo "Reader") rfl)) (by have e := c.x; simp only [exH, Bool.and_eq_true] at e; first | exact e | (repeat (first | exact e.2 | exact e.1 | (replace e := e.1))))).2.2 "signs" (by simp)
  na_Reader_at := (ob_of (x := "Reader") (fs := ["signs", "at"]) (He.glo_ok X G (c.t.d.fact 12 (f := .glo "Reader") rfl)) (by have e := c.x; simp only [exH, Bool.and_eq_true] at e; first | exact e | (repeat (first | exact e.2 | exact e.1 | (replace e := e.1))))).2.2 "at" (by simp)
  f_Reader_sign := by obtain ⟨fd, F⟩ := c.t.d.def_ 12 (d := ⟨("Reader", some "sign"), "sign", "Reader.sign", defArgs (clsAt 1 (top 6)), defBody (clsAt 1 (top 6)), defScope (clsAt 1 (top 6)), [], []⟩) rfl; exact ⟨_, _, fd, (ob_of (x := "Reader") (fs := ["signs", "at"]) (He.glo_ok X G (c.t.d.fact 12 (f := .glo "Reader") rfl)) (by have e := c.x; simp only [exH, Bool.and_eq_true] at e; first | exact e | (repeat (first | exact e.2 | exact e.1 | (replace e := e.1))))).1, He.meth_ok (c.t.d.fact 13 (f := .meth "Reader" "sign") rfl), F⟩
  f_Reader_take := by obtain ⟨fd, F⟩ := c.t.d.def_ 13 (d := ⟨("Reader", some "take"), "take", "Reader.take", defArgs (clsAt 2 (top 6)), defBody (clsAt 2 (top 6)), defScope (clsAt 2 (top 6)), [], []⟩) rfl; exact ⟨_, _, fd, (ob_of (x := "Reader") (fs := ["signs", "at"]) (He.glo_ok X G (c.t.d.fact 12 (f := .glo "Reader") rfl)) (by have e := c.x; simp only [exH, Bool.and_eq_true] at e; first | exact e | (repeat (first | exact e.2 | exact e.1 | (replace e := e.1))))).1, He.meth_ok (c.t.d.fact 14 (f := .meth "Reader" "take") rfl), F⟩
  f_Reader_number := by obtain ⟨fd, F⟩ := c.t.d.def_ 14 (d := ⟨("Reader", some "number"), "number", "Reader.number", defArgs (clsAt 3 (top 6)), defBody (clsAt 3 (top 6)), defScope (clsAt 3 (top 6)), [], []⟩) rfl; exact ⟨_, _, fd, (ob_of (x := "Reader") (fs := ["signs", "at"]) (He.glo_ok X G (c.t.d.fact 12 (f := .glo "Reader") rfl)) (by have e := c.x; simp only [exH, Bool.and_eq_true] at e; first | exact e | (repeat (first | exact e.2 | exact e.1 | (replace e := e.1))))).1, He.meth_ok (c.t.d.fact 15 (f := .meth "Reader" "number") rfl), F⟩
  f_Reader_word := by obtain ⟨fd, F⟩ := c.t.d.def_ 15 (d := ⟨("Reader", some "word"), "word", "Reader.word", defArgs (clsAt 4 (top 6)), defBody (clsAt 4 (top 6)), defScope (clsAt 4 (top 6)), [], []⟩) rfl; exact ⟨_, _, fd, (ob_of (x := "Reader") (fs := ["signs", "at"]) (He.glo_ok X G (c.t.d.fact 12 (f := .glo "Reader") rfl)) (by have e := c.x; simp only [exH, Bool.and_eq_true] at e; first | exact e | (repeat (first | exact e.2 | exact e.1 | (replace e := e.1))))).1, He.meth_ok (c.t.d.fact 16 (f := .meth "Reader" "word") rfl), F⟩
  f_Reader_mark := by obtain ⟨fd, F⟩ := c.t.d.def_ 16 (d := ⟨("Reader", some "mark"), "mark", "Reader.mark", defArgs (clsAt 5 (top 6)), defBody (clsAt 5 (top 6)), defScope (clsAt 5 (top 6)), [], []⟩) rfl; exact ⟨_, _, fd, (ob_of (x := "Reader") (fs := ["signs", "at"]) (He.glo_ok X G (c.t.d.fact 12 (f := .glo "Reader") rfl)) (by have e := c.x; simp only [exH, Bool.and_eq_true] at e; first | exact e | (repeat (first | exact e.2 | exact e.1 | (replace e := e.1))))).1, He.meth_ok (c.t.d.fact 17 (f := .meth "Reader" "mark") rfl), F⟩
  f_Reader_whole := by obtain ⟨fd, F⟩ := c.t.d.def_ 17 (d := ⟨("Reader", some "whole"), "whole", "Reader.whole", defArgs (clsAt 6 (top 6)), defBody (clsAt 6 (top 6)), defScope (clsAt 6 (top 6)), [], []⟩) rfl; exact ⟨_, _, fd, (ob_of (x := "Reader") (fs := ["signs", "at"]) (He.glo_ok X G (c.t.d.fact 12 (f := .glo "Reader") rfl)) (by have e := c.x; simp only [exH, Bool.and_eq_true] at e; first | exact e | (repeat (first | exact e.2 | exact e.1 | (replace e := e.1))))).1, He.meth_ok (c.t.d.fact 18 (f := .meth "Reader" "whole") rfl), F⟩
  f_Reader_item := by obtain ⟨fd, F⟩ := c.t.d.def_ 18 (d := ⟨("Reader", some "item"), "item", "Reader.item", defArgs (clsAt 7 (top 6)), defBody (clsAt 7 (top 6)), defScope (clsAt 7 (top 6)), [], []⟩) rfl; exact ⟨_, _, fd, (ob_of (x := "Reader") (fs := ["signs", "at"]) (He.glo_ok X G (c.t.d.fact 12 (f := .glo "Reader") rfl)) (by have e := c.x; simp only [exH, Bool.and_eq_true] at e; first | exact e | (repeat (first | exact e.2 | exact e.1 | (replace e := e.1))))).1, He.meth_ok (c.t.d.fact 19 (f := .meth "Reader" "item") rfl), F⟩
  f_Reader_part := by obtain ⟨fd, F⟩ := c.t.d.def_ 19 (d := ⟨("Reader", some "part"), "part", "Reader.part", defArgs (clsAt 8 (top 6)), defBody (clsAt 8 (top 6)), defScope (clsAt 8 (top 6)), [], []⟩) rfl; exact ⟨_, _, fd, (ob_of (x := "Reader") (fs := ["signs", "at"]) (He.glo_ok X G (c.t.d.fact 12 (f := .glo "Reader") rfl)) (by have e := c.x; simp only [exH, Bool.and_eq_true] at e; first | exact e | (repeat (first | exact e.2 | exact e.1 | (replace e := e.1))))).1, He.meth_ok (c.t.d.fact 20 (f := .meth "Reader" "part") rfl), F⟩
  f_Reader_body := by obtain ⟨fd, F⟩ := c.t.d.def_ 20 (d := ⟨("Reader", some "body"), "body", "Reader.body", defArgs (clsAt 9 (top 6)), defBody (clsAt 9 (top 6)), defScope (clsAt 9 (top 6)), [], []⟩) rfl; exact ⟨_, _, fd, (ob_of (x := "Reader") (fs := ["signs", "at"]) (He.glo_ok X G (c.t.d.fact 12 (f := .glo "Reader") rfl)) (by have e := c.x; simp only [exH, Bool.and_eq_true] at e; first | exact e | (repeat (first | exact e.2 | exact e.1 | (replace e := e.1))))).1, He.meth_ok (c.t.d.fact 21 (f := .meth "Reader" "body") rfl), F⟩
  h_bool := He.free_ok X G (c.t.d.fact 22 (f := .free "bool") rfl)
  h_int := He.free_ok X G (c.t.d.fact 23 (f := .free "int") rfl)
  h_isinstance := He.free_ok X G (c.t.d.fact 24 (f := .free "isinstance") rfl)
  h_len := He.free_ok X G (c.t.d.fact 25 (f := .free "len") rfl)
  h_list := He.free_ok X G (c.t.d.fact 26 (f := .free "list") rfl)
  h_range := He.free_ok X G (c.t.d.fact 27 (f := .free "range") rfl)
  h_str := He.free_ok X G (c.t.d.fact 28 (f := .free "str") rfl)
  h_tuple := He.free_ok X G (c.t.d.fact 29 (f := .free "tuple") rfl)
  k_MOST_FIGURES := He.int_ok X G (c.t.d.fact 30 (f := .int "MOST_FIGURES" 60) rfl)
  k_MOST_LETTERS := He.int_ok X G (c.t.d.fact 31 (f := .int "MOST_LETTERS" 8) rfl)
  x_BadText := by obtain ⟨fd, F⟩ := c.t.d.def_ 22 (d := ⟨("BadText", some "__init__"), "__init__", "BadText.__init__", defArgs (clsAt 0 (top 2)), defBody (clsAt 0 (top 2)), defScope (clsAt 0 (top 2)), [], []⟩) rfl; exact xo_of (h := h) (He.glo_ok X G (c.t.d.fact 32 (f := .glo "BadText") rfl)) (by have e := c.x; simp only [exH, Bool.and_eq_true] at e; first | exact e | (repeat (first | exact e.2 | exact e.1 | (replace e := e.1)))) F ⟨rfl, rfl, rfl, by decide +kernel, rfl, by decide +kernel, by decide +kernel⟩ (F.bindsN fun _ _ _ _ _ _ us hl => (match us, hl with | [_, _], _ => rfl))
  y_BadText_BadText := ⟨_, _, He.glo_ok X G (c.t.d.fact 32 (f := .glo "BadText") rfl), He.glo_ok X G (c.t.d.fact 32 (f := .glo "BadText") rfl), He.exm_ok (c.t.d.fact 33 (f := .exm "BadText" "BadText" true) rfl)⟩
end K24
end Dl
open PySem PySem.W PySem.Calls PyProof.Rows
theorem PySem.Challenge.cw_sealedplans_k24_whole_places_of_wrong_si_holds : PySem.Challenge.rw_sealedplans_k24_whole_places_of_wrong_si.Holds := by
  w_on; o_law
  refine HandSHeadRun.head_any (r := OpenLaw.row PySem.Challenge.rw_sealedplans_k24_whole_places_of_wrong_si) (q := view (OpenLaw.row PySem.Challenge.rw_sealedplans_k24_whole_places_of_wrong_si).prog [21]) (H := Dl.K24.hkH) (ob := Dl.K24.obH) (M := 6000) (loose := Dl.K24.looseH) (d := HandSHeadRun.topDef (OpenLaw.row PySem.Challenge.rw_sealedplans_k24_whole_places_of_wrong_si).prog 21) (kwd := []) Dl.K24.obH_eq
    (by kernel_rfl) (fun s => by kernel_rfl) Dl.K24.runH (by kernel_rfl) (by kernel_rfl) (by kernel_rfl) (by rfl) (by first | assumption | decide +kernel) (by decide +kernel) ⟨rfl, rfl, rfl, rfl, rfl, by decide +kernel⟩ ?hw ?hc
  case hw => w_witness2
  case hc =>
    refine Dl.walk_ofW (l := PySem.Challenge.rw_sealedplans_k24_whole_places_of_wrong_si) (n := 63) (k := 331) (x := "_law_script") rfl (by decide) (by kernel_rfl) ⟨rfl, by decide, by decide⟩ ?F
    intro w mg fa h Y G hmg0
    obtain ⟨K, KX, c⟩ := Y
    have hmg : mg ("law" : PySem.Str) = some (.ref fa) := by
      have e : (HandSHeadRun.topDef (OpenLaw.row PySem.Challenge.rw_sealedplans_k24_whole_places_of_wrong_si).prog 21).name = ("law" : PySem.Str) := by kernel_rfl
      rw [← e]
      exact hmg0
    have E := Dl.K24.factsH KX G c
    obtain ⟨f, fd, hf, F⟩ := E.f_law
    have ef : f = fa := Dl.ref_inj (hf.symm.trans hmg)
    subst ef
    have b := L2.FunD.bindsA (ps := ["_law_script"]) F fun _ _ _ _ _ _ us hl => match us, hl with | [_], _ => rfl
    refine ⟨K, fd, Dl.spD ⟨K, mg, Dl.K24.T0⟩ ((Dl.Den Dl.K24.tbl 331).call 607), KX, fun s v => b s [v] rfl, fun H a ns hl hO hS => ?_, fun base _ _ => ?_⟩
    · obtain ⟨w', e⟩ := Dl.K24.law_true ns
      exact Dl.law_sp hO hS (Nat.le_trans hl (by decide)) e
    · exact Dl.K24.fo_law (P := (PySem.Challenge.rw_sealedplans_k24_whole_places_of_wrong_si).prog) (base := base) E (Dl.K24.lvl E 330) F
