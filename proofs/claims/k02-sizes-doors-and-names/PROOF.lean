import PyProof.Rows.All
import Wide.All
import OpenK.AllK
import Wide.FinOn
import HandS.ForMost
import HandS.ForExc
import HandS.Nested
import HandS.IsInst
import HandS.Flow
import HandS.Style
import HandS.TupAny
import HandS.Wide
import HandS.Defaults
import KE.DataCmp
import PyProof.FactsAll.dict
import PyProof.FactsAll.subtypes
import PyProof.NeKinds
import PyProof.NeData
import PyProof.P3In
import HandS.ExcCtx
import HandS.TryOnly
import HandS.HeadEnd
import HandS.HeadHook3
import HandS.Comp
import HandS.Iter
import HandS.List
import HandS.DictComp
import HandS.Conv
import HandS.HeadHook4
import HandS.HeadWalk
import HandS.Head0
import HandS.Head1
import HandS.Head2
import HandS.HeadHook1
import HandS.HeadHook2
import HandS.EndTab
import HandS.ExcInit
import HandS.ExcField
import KE.DataMinMax
import PyProof.ReprRoads
import PyProof.ReprLen
import HandS.SortKw
import HandS.TupMul
import HandS.TryMany
import HandS.ExcOwn
import HandS.Deep
import HandS.ExcIs
import HandS.HotCalls
import HandS.SetKeys
import KE.GoesEnum
import HandS.Zip
import HandS.Keys
import HandS.Rev
import HandS.MapJoin
import HandS.StrMore
import HandS.WideBits
import KE.KIntText
import PySem.Challenge.RW_sealedplans_k02_whole_sizes_doors_and_na
set_option Elab.async false
set_option linter.all false
set_option maxRecDepth 100000
set_option maxHeartbeats 4000000
namespace Dl
abbrev St := L2.St
open PySem PySem.Spec PyProof.Rows L2 NdefX
inductive D where
  | non | bl (b : Bool) | int (i : Int) | str (s : Str) | lst (l : List D) | tup (l : List D) | dic (kvs : List (Str × Str))
mutual
def D.py : D → PyData
  | .non => .none
  | .bl b => .bool b
  | .int i => .int i
  | .str s => .str s
  | .lst l => .list (D.pyAll l)
  | .tup l => .tuple (D.pyAll l)
  | .dic kvs => .dict (kvs.map fun kv => (.str kv.1, .str kv.2))
def D.pyAll : List D → List PyData
  | [] => []
  | d :: l => d.py :: D.pyAll l
end
def noTxt : Str := ⟨#[0x110000]⟩
mutual
def D.pq : D → PyData
  | .non => .none
  | .bl b => .bool b
  | .int i => .int i
  | .str s => .str s
  | .lst l => .list (D.pqAll l)
  | .tup l => .tuple (D.pqAll l)
  | .dic _ => .str noTxt
def D.pqAll : List D → List PyData
  | [] => []
  | d :: l => d.pq :: D.pqAll l
end
def bigD : Nat := 100000
mutual
def D.dep : D → Nat
  | .lst l => D.depL l + 1
  | .tup l => D.depL l + 1
  | .dic _ => bigD
  | .non => 0
  | .bl _ => 0
  | .int _ => 0
  | .str _ => 0
def D.depL : List D → Nat
  | [] => 0
  | d :: l => max d.dep (D.depL l)
end
theorem depthKv_str : ∀ kvs : List (Str × Str), PyData.depthKv (kvs.map fun kv => (PyData.str kv.1, PyData.str kv.2)) = 0
  | [] => rfl
  | kv :: r => by
    have := depthKv_str r
    show max (max 0 0) (PyData.depthKv (r.map fun kv => (PyData.str kv.1, PyData.str kv.2))) = 0
    omega
mutual
theorem D.dep_py : ∀ d : D, d.py.depth ≤ d.dep
  | .non => Nat.le_refl _
  | .bl _ => Nat.le_refl _
  | .int _ => Nat.le_refl _
  | .str _ => Nat.le_refl _
  | .dic kvs => by
    show PyData.depthKv (kvs.map fun kv => (PyData.str kv.1, PyData.str kv.2)) + 1 ≤ bigD
    rw [depthKv_str]
    decide
  | .lst l => Nat.succ_le_succ (D.dep_pyL l)
  | .tup l => Nat.succ_le_succ (D.dep_pyL l)
theorem D.dep_pyL : ∀ l : List D, PyData.depthAll (D.pyAll l) ≤ D.depL l
  | [] => Nat.le_refl _
  | d :: l => by
    have h1 := D.dep_py d
    have h2 := D.dep_pyL l
    show max d.py.depth (PyData.depthAll (D.pyAll l)) ≤ max d.dep (D.depL l)
    omega
end
mutual
def D.okS : D → Bool
  | .str s => PyData.strOk s
  | .lst l => D.okSL l
  | .tup l => D.okSL l
  | .dic kvs => kvs.all fun kv => PyData.strOk kv.1 && PyData.strOk kv.2
  | .non => true
  | .bl _ => true
  | .int _ => true
def D.okSL : List D → Bool
  | [] => true
  | d :: l => d.okS && D.okSL l
end
inductive RV where
  | dat (d : D) | fresh (l : List D) | bor (i : Nat) (l : List D) | wref (k : Nat)
structure Exn where
  cls : Str
  fld : Option (Str × D)
inductive Sl where
  | un | dat (d : D) | own (l : List D) | wref (k : Nat) | exn (x : Exn)
inductive FV where
  | un | dat (d : D) | ref (k : Nat)
inductive WO where
  | lst (l : List D) | clo (i : Nat) (caps : List D) | obj (x : Str) (fs : List (Str × FV)) | dic (kvs : List (Key × FV)) | fls (es : List FV)
abbrev World := List WO
abbrev Ev := List Sl
inductive Out (α : Type) where
  | ok (a : α) (w : World) | exc (x : Exn) (env : Ev) (w : World) | stuck
def Out.bind {α β : Type} (o : Out α) (f : α → World → Out β) : Out β := match o with
  | .ok a w => f a w
  | .exc x e w => .exc x e w
  | .stuck => .stuck
@[simp] theorem bind_ok {α β : Type} (a : α) (w : World) (f : α → World → Out β) : (Out.ok a w).bind f = f a w := rfl
@[simp] theorem bind_exc {α β : Type} (x : Exn) (e : Ev) (w : World) (f : α → World → Out β) : (Out.exc x e w : Out α).bind f = .exc x e w := rfl
@[simp] theorem bind_stuck {α β : Type} (f : α → World → Out β) : (Out.stuck : Out α).bind f = .stuck := rfl
abbrev Ex := Ev → World → Out RV
def SOk (s : Str) : Prop := PyData.strOk s = true ∧ s.length ≤ sizeLine
def mapK (kvs : List (Str × Str)) : List (Key × V) := kvs.map fun kv => (.inr kv.1, .str kv.2)
inductive Rp (K : PySem.W.Frag) (F : Hp) : V → D → Prop
  | non : Rp K F .non .non
  | bl (b : Bool) : Rp K F (.bl b) (.bl b)
  | int (i : Int) : Rp K F (.int i) (.int i)
  | str (s : Str) (h : SOk s) : Rp K F (.str s) (.str s)
  | lst {a : Addr} {vs : List V} {l : List D} (hz : l.length ≤ sizeLine) : SqL K F a vs → Paired (Rp K F) vs l → Rp K F (.ref a) (.lst l)
  | tup {a : Addr} {vs : List V} {l : List D} (hz : l.length ≤ sizeLine) : SqT K F a vs → Paired (Rp K F) vs l → Rp K F (.ref a) (.tup l)
  | dic {a : Addr} {kvs : List (Str × Str)} (hk : ∀ kv ∈ kvs, SOk kv.1 ∧ SOk kv.2) : F a = some (.dK (mapK kvs)) → Rp K F (.ref a) (.dic kvs)
theorem sqT_mono {K : PySem.W.Frag} {H H' : Hp} {a : Addr} {xs : List V} (e : Same H H') (h : SqT K H a xs) : SqT K H' a xs := by
  rcases h with (h | ⟨o, h⟩) | h
  · exact .inl (.inl (e _ _ h))
  · exact .inl (.inr ⟨o, e _ _ h⟩)
  · exact .inr h
mutual
theorem Rp.mono {K : PySem.W.Frag} {F F' : Hp} (e : Same F F') : ∀ (d : D) (v : V), Rp K F v d → Rp K F' v d
  | .non, _, h => by cases h; exact .non
  | .bl b, _, h => by cases h; exact .bl b
  | .int i, _, h => by cases h; exact .int i
  | .str s, _, h => by cases h with | str _ q => exact .str s q
  | .lst l, _, h => by
    cases h with
    | lst hz hs hp => exact .lst hz (e.seq hs) (Rp.monoAll e l _ hp)
  | .tup l, _, h => by
    cases h with
    | tup hz hs hp => exact .tup hz (sqT_mono e hs) (Rp.monoAll e l _ hp)
  | .dic _, _, h => by
    cases h with
    | dic hk q => exact .dic hk (e _ _ q)
theorem Rp.monoAll {K : PySem.W.Frag} {F F' : Hp} (e : Same F F') : ∀ (l : List D) (vs : List V), Paired (Rp K F) vs l → Paired (Rp K F') vs l
  | [], _, h => by cases h; exact .nil
  | d :: l, _, h => by
    cases h with
    | cons h1 h2 => exact .cons (Rp.mono e d _ h1) (Rp.monoAll e l _ h2)
end
mutual
theorem Rp.okS {K : PySem.W.Frag} {F : Hp} : ∀ (d : D) (v : V), Rp K F v d → d.okS = true
  | .non, _, _ => rfl
  | .bl _, _, _ => rfl
  | .int _, _, _ => rfl
  | .dic kvs, _, h => by
    cases h with
    | dic hk q =>
      show (kvs.all fun kv => PyData.strOk kv.1 && PyData.strOk kv.2) = true
      rw [List.all_eq_true]
      intro kv hm
      obtain ⟨h1, h2⟩ := hk kv hm
      rw [h1.1, h2.1]
      rfl
  | .str _, _, h => by cases h with | str _ q => exact q.1
  | .lst l, _, h => by
    cases h with
    | lst hz hs hp => exact Rp.okSL l _ hp
  | .tup l, _, h => by
    cases h with
    | tup hz hs hp => exact Rp.okSL l _ hp
theorem Rp.okSL {K : PySem.W.Frag} {F : Hp} : ∀ (l : List D) (vs : List V), Paired (Rp K F) vs l → D.okSL l = true
  | [], _, _ => rfl
  | d :: l, _, h => by
    cases h with
    | cons h1 h2 =>
      show (d.okS && D.okSL l) = true
      rw [Rp.okS d _ h1, Rp.okSL l _ h2]
      rfl
end
section
variable {X : Cx} {pins : List (Addr × Obj)} {σ : St} {H : Hp} {s : Shared}
theorem pairs_map {h : Heap} : ∀ {kvs : List (Str × Str)} {vs : List (Key × Value)}, KV (mapK kvs) vs → ∃ bs, bs = [] ∧ PyProof.V.PairsRead h (fun k : Key => match k with | .inl i => PyData.int i | .inr x => .str x) vs (kvs.map fun kv => (PyData.str kv.1, PyData.str kv.2)) bs
  | [], _, h => by cases h; exact ⟨[], rfl, .nil⟩
  | kv :: r, _, h => by
    cases h with
    | @cons _ q _ _ h1 h2 =>
      obtain ⟨bs, e, p⟩ := pairs_map h2
      subst e
      obtain ⟨k, v⟩ := q
      obtain ⟨e1, t, e2⟩ := h1
      simp only at e1 e2
      subst e1 e2
      exact ⟨[], rfl, PyProof.V.PairsRead.cons (as := []) (Reads.str kv.2 t) p⟩
theorem reads_dicK (I : Inv X pins σ H s) {a : Addr} {kvs : List (Str × Str)} (q : H a = some (.dK (mapK kvs))) : ∃ as, Reads s.heap (.ref a) (D.dic kvs).py as ∧ sysModules ∉ as := by
  obtain ⟨_, hs, vs, kv, dd⟩ := I.hok _ _ q
  obtain ⟨bs, e, p⟩ := pairs_map (h := s.heap) kv
  subst e
  refine ⟨_, PyProof.V.reads_dictOf (fun k key hk => ?_) dd p, fun z => ?_⟩
  · rcases keyIs_shape hk with ⟨i, t, rfl, rfl⟩ | ⟨x, t, rfl, rfl⟩
    · exact Reads.int i t
    · exact Reads.str x t
  · simp only [List.append_nil, List.mem_cons, List.not_mem_nil, or_false] at z
    rw [← z] at hs
    simp at hs
mutual
theorem Rp.reads (I : Inv X pins σ H s) : ∀ (d : D) (v : V) (u : Value), Rp X.K H v d → RelV v u → ∃ as, Reads s.heap u d.py as
  | .non, _, _, h, r => by
    cases h
    cases r
    exact ⟨_, Reads.none⟩
  | .bl b, _, _, h, r => by
    cases h
    cases r
    exact ⟨_, Reads.bool b⟩
  | .int i, _, _, h, r => by
    cases h
    obtain ⟨t, e⟩ := r
    subst e
    exact ⟨_, Reads.int i t⟩
  | .str x, _, _, h, r => by
    cases h
    obtain ⟨t, e⟩ := r
    subst e
    exact ⟨_, Reads.str x t⟩
  | .dic kvs, _, _, h, r => by
    cases h with
    | dic hk q =>
      cases r
      obtain ⟨as, e, _⟩ := reads_dicK I q
      exact ⟨_, e⟩
  | .lst l, _, _, h, r => by
    cases h with
    | lst hz hs hp =>
      cases r
      obtain ⟨its, rv, ⟨o, n, e1, e2, _, e3⟩, _⟩ := I.list hs
      obtain ⟨as, q⟩ := Rp.readsL I l _ its hp rv
      exact ⟨_, Reads.list e1 e2 e3 q⟩
  | .tup l, _, _, h, r => by
    cases h with
    | tup hz hs hp =>
      cases r
      obtain ⟨its, rv, ⟨o, e1, e2, n, e3⟩, _⟩ := I.tuple hs
      obtain ⟨as, q⟩ := Rp.readsL I l _ its hp rv
      exact ⟨_, Reads.tuple e1 e2 e3 q⟩
theorem Rp.readsL (I : Inv X pins σ H s) : ∀ (l : List D) (vs : List V) (us : List Value), Paired (Rp X.K H) vs l → Vals vs us → ∃ as, ReadsAll s.heap us (D.pyAll l) as
  | [], _, _, h, r => by
    cases h
    cases r
    exact ⟨_, ReadsAll.nil⟩
  | d :: l, _, _, h, r => by
    cases h with
    | cons h1 h2 =>
      cases r with
      | cons r1 r2 =>
        obtain ⟨as, q1⟩ := Rp.reads I d _ _ h1 r1
        obtain ⟨bs, q2⟩ := Rp.readsL I l _ _ h2 r2
        exact ⟨_, ReadsAll.cons q1 q2⟩
end
end
namespace Pr
variable {α β : Type} {F : α → β → Prop}
theorem get : ∀ {l₁ : List α} {l₂ : List β} {i : Nat} {b : β}, Paired F l₁ l₂ → l₂[i]? = some b → ∃ a, l₁[i]? = some a ∧ F a b
  | _, _, _, _, .nil, e => by simp at e
  | _, _, 0, _, .cons r _, e => by simp at e; subst e; exact ⟨_, rfl, r⟩
  | _, _, i + 1, b, .cons _ t, e => by
    obtain ⟨u, h1, h2⟩ := get (i := i) (b := b) t (by simpa using e)
    exact ⟨u, by simpa using h1, h2⟩
theorem getL : ∀ {l₁ : List α} {l₂ : List β} {i : Nat} {a : α}, Paired F l₁ l₂ → l₁[i]? = some a → ∃ b, l₂[i]? = some b ∧ F a b
  | _, _, _, _, .nil, e => by simp at e
  | _, _, 0, _, .cons r _, e => by simp at e; subst e; exact ⟨_, rfl, r⟩
  | _, _, i + 1, b, .cons _ t, e => by
    obtain ⟨u, h1, h2⟩ := getL (i := i) (a := b) t (by simpa using e)
    exact ⟨u, by simpa using h1, h2⟩
theorem append : ∀ {xs ys : List α} {us ws : List β}, Paired F xs us → Paired F ys ws → Paired F (xs ++ ys) (us ++ ws)
  | _, _, _, _, .nil, s => s
  | _, _, _, _, .cons r t, s => .cons r (append t s)
theorem take : ∀ {xs : List α} {us : List β} (n : Nat), Paired F xs us → Paired F (xs.take n) (us.take n)
  | _, _, 0, _ => .nil
  | _, _, _ + 1, .nil => .nil
  | _, _, n + 1, .cons r t => .cons r (take n t)
theorem drop : ∀ {xs : List α} {us : List β} (n : Nat), Paired F xs us → Paired F (xs.drop n) (us.drop n)
  | _, _, 0, r => r
  | _, _, _ + 1, .nil => .nil
  | _, _, n + 1, .cons _ t => drop n t
theorem set {x : α} {u : β} (r : F x u) : ∀ {xs : List α} {us : List β} (i : Nat), Paired F xs us → Paired F (xs.set i x) (us.set i u)
  | _, _, _, .nil => .nil
  | _, _, 0, .cons _ t => .cons r t
  | _, _, i + 1, .cons q t => .cons q (set r i t)
end Pr
structure ND where
  name : Str
  qual : Str
  params : Arguments
  body : List Stmt ⊕ Expr
  scope : Scope
  ps : List Str
  fr : List Str
structure Tbs where
  tabs : List NTab
  nd : Nat → Option ND
  ea : Option (Addr × Value × Option Addr) := none
structure Tx where
  K : PySem.W.Frag
  mg : Str → Option Value
  T : Tbs
def CellO (c : Addr) (o : Obj) : HO := .ext fun h => h.get? c = some o
def LamO (f : Addr) (nd : ND) (e : Expr) (cl : List (Str × Addr)) (c' : Addr) : HO := .ext fun h => ∃ pm ctv : Value, h.get? f = some (PySem.W.kla_obj nd.name nd.qual nd.params e nd.scope cl pm c' ctv)
def ND.nf (nd : ND) (b : List Stmt) (cl : List (Str × Addr)) (c' : Addr) : NF := ⟨nd.name, nd.qual, nd.params, b, nd.scope, cl, c'⟩
def CloO (f : Addr) (nd : ND) (cl : List (Str × Addr)) (c' : Addr) : HO := match nd.body with
  | .inl b => FnO f (nd.nf b cl c')
  | .inr e => LamO f nd e cl c'
theorem cloO_ext (f : Addr) (nd : ND) (cl : List (Str × Addr)) (c' : Addr) : ∃ φ, CloO f nd cl c' = .ext φ := by
  unfold CloO
  split
  · exact ⟨_, rfl⟩
  · exact ⟨_, rfl⟩
structure CapA (K : PySem.W.Frag) (F H : Hp) (cl : List (Str × Addr)) (fr : List Str) (caps : List D) : Prop where
  len : caps.length = fr.length
  keys : ∀ y c, cl.lookup y = some c → y ∈ fr
  inj : ∀ x y c, cl.lookup x = some c → cl.lookup y = some c → x = y
  at_ : ∀ (j : Nat) (y : Str) (d : D), fr[j]? = some y → caps[j]? = some d → ∃ c o u v, cl.lookup y = some c ∧ F c = none ∧ H c = some (CellO c o) ∧ o.data = .cell (some u) ∧ RelV v u ∧ Rp K F v d
structure CloAt (X : Tx) (F H : Hp) (m : Addr) (i : Nat) (caps : List D) : Prop where
  ex : ∃ (nd : ND) (cl : List (Str × Addr)) (c' : Addr), X.T.nd i = some nd ∧ H m = some (CloO m nd cl c') ∧ H c' = some (LamX.CodeO c' nd.qual) ∧ CapA X.K F H cl nd.fr caps
def KeepE (H H' : Hp) : Prop := ∀ a φ, H a = some (.ext φ) → H' a = some (.ext φ)
theorem KeepE.of (h : Same H H') : KeepE H H' := fun a φ e => h a _ e
theorem keepE_upd {H : Hp} {p : Addr} {vs ws : List V} (e : H p = some (.lst vs)) : KeepE H (upd H p (.lst ws)) := fun a φ q => by
  rw [upd_ne (fun z => by rw [z, e] at q; cases q)]
  exact q
theorem CloAt.keep {X : Tx} {F F' H H' : Hp} {m : Addr} {i : Nat} {caps : List D} (h : CloAt X F H m i caps) (k : KeepE H H') (f : Same F F') (nf : ∀ a, H a ≠ none → F a = none → F' a = none) : CloAt X F' H' m i caps := by
  obtain ⟨nd, cl, c', e1, e2, e3, cp⟩ := h.ex
  obtain ⟨φ, eφ⟩ := cloO_ext m nd cl c'
  refine ⟨nd, cl, c', e1, by rw [eφ]; exact k _ _ (by rw [← eφ]; exact e2), k _ _ e3, cp.len, cp.keys, cp.inj, fun j y d h1 h2 => ?_⟩
  obtain ⟨c, o, u, v, q1, q0, q2, q3, q4, q5⟩ := cp.at_ j y d h1 h2
  exact ⟨c, o, u, v, q1, nf c (by rw [q2]; simp) q0, k _ _ q2, q3, q4, q5.mono f⟩
theorem CloAt.keep' {X : Tx} {F F' H : Hp} {m : Addr} {i : Nat} {caps : List D} (h : CloAt X F H m i caps) (f : Same F F') (nf : ∀ c o, H c = some (CellO c o) → F' c = F c) : CloAt X F' H m i caps := by
  obtain ⟨nd, cl, c', e1, e2, e3, cp⟩ := h.ex
  refine ⟨nd, cl, c', e1, e2, e3, cp.len, cp.keys, cp.inj, fun j y d h1 h2 => ?_⟩
  obtain ⟨c, o, u, v, q1, q0, q2, q3, q4, q5⟩ := cp.at_ j y d h1 h2
  exact ⟨c, o, u, v, q1, by rw [nf c o q2]; exact q0, q2, q3, q4, q5.mono f⟩
theorem CloAt.there {X : Tx} {F H : Hp} {m : Addr} {i : Nat} {caps : List D} (h : CloAt X F H m i caps) : H m ≠ none := by
  obtain ⟨nd, cl, c', e1, e2, e3, cp⟩ := h.ex
  rw [e2]
  simp
structure ObjC (K : PySem.W.Frag) (mg : Str → Option Value) (x : Str) (C : Addr) : Prop where
  gl : mg x = some (.ref C)
  cls : Cls K C
  ha : PySem.W.findIn K (.ref C) "__class__" = some (some (.builtin "object.__class__"))
  hn : PySem.W.specialIn K (.builtin "object.__class__") "__get__" = some (some (.builtin "getset_descriptor.__get__"))
  htk : PySem.W.takesIn K (.builtin "object.__class__") = some true
  hm : PySem.W.mroIn K C (.type "object") = some true
  kit : ∀ t ∈ ["int", "bool", "str", "tuple", "list", "dict"], PySem.W.kitOne K (.ref C) (.type t) = some false
def FV.isAt (K : PySem.W.Frag) (F : Hp) (M : List Addr) (v : V) : FV → Prop
  | .un => True
  | .dat d => Rp K F v d
  | .ref k => ∃ m, M[k]? = some m ∧ v = .ref m
def MIn (n : Nat) (M M' : List Addr) : Prop := ∀ (k : Nat) (m : Addr), k < n → M[k]? = some m → M'[k]? = some m
def FV.low (n : Nat) : FV → Bool
  | .ref k => decide (k < n)
  | _ => true
theorem FV.keep {K : PySem.W.Frag} {F F' : Hp} {M M' : List Addr} {v : V} {x : FV} (h : x.isAt K F M v) (f : Same F F') (k : ∀ (k : Nat) (m : Addr), M[k]? = some m → M'[k]? = some m) : x.isAt K F' M' v := by
  cases x with
  | un => trivial
  | dat d => exact Rp.mono f _ _ h
  | ref j => obtain ⟨m, e1, e2⟩ := h; exact ⟨m, k _ _ e1, e2⟩
theorem FV.keepN {K : PySem.W.Frag} {F F' : Hp} {M M' : List Addr} {v : V} {x : FV} {n : Nat} (h : x.isAt K F M v) (hn : x.low n = true) (f : Same F F') (k : MIn n M M') : x.isAt K F' M' v := by
  cases x with
  | un => trivial
  | dat d => exact Rp.mono f _ _ h
  | ref j => obtain ⟨m, e1, e2⟩ := h; exact ⟨m, k _ _ (by simpa [FV.low] using hn) e1, e2⟩
structure ObjAt (X : Tx) (F H : Hp) (M : List Addr) (m : Addr) (x : Str) (fs : List (Str × FV)) : Prop where
  ex : ∃ (C dx : Addr) (gs : List (Str × V)), ObjC X.K X.mg x C ∧ H m = some (.ins C dx gs) ∧ Paired (fun g f => g.1 = f.1 ∧ f.2.isAt X.K F M g.2) gs fs
theorem ObjAt.keep {X : Tx} {F F' H H' : Hp} {M M' : List Addr} {m : Addr} {x : Str} {fs : List (Str × FV)} (h : ObjAt X F H M m x fs) (f : Same F F') (k : ∀ C dx gs, H m = some (.ins C dx gs) → H' m = some (.ins C dx gs)) (km : ∀ (k : Nat) (m : Addr), M[k]? = some m → M'[k]? = some m := by exact fun _ _ h => h) : ObjAt X F' H' M' m x fs := by
  obtain ⟨C, dx, gs, c, e, p⟩ := h.ex
  exact ⟨C, dx, gs, c, k _ _ _ e, Paired.mapP p fun g q z => ⟨z.1, FV.keep z.2 f km⟩⟩
theorem ObjAt.there {X : Tx} {F H : Hp} {M : List Addr} {m : Addr} {x : Str} {fs : List (Str × FV)} (h : ObjAt X F H M m x fs) : H m ≠ none := by
  obtain ⟨C, dx, gs, c, e, p⟩ := h.ex
  rw [e]
  simp
structure DicAt (X : Tx) (F H : Hp) (M : List Addr) (m : Addr) (kvs : List (Key × FV)) : Prop where
  ex : ∃ gs : List (Key × V), H m = some (.dK gs) ∧ Paired (fun g f => g.1 = f.1 ∧ f.2.isAt X.K F M g.2) gs kvs
theorem DicAt.keep {X : Tx} {F F' H H' : Hp} {M M' : List Addr} {m : Addr} {kvs : List (Key × FV)} (h : DicAt X F H M m kvs) (f : Same F F') (k : ∀ gs, H m = some (.dK gs) → H' m = some (.dK gs)) (km : ∀ (k : Nat) (m : Addr), M[k]? = some m → M'[k]? = some m := by exact fun _ _ h => h) : DicAt X F' H' M' m kvs := by
  obtain ⟨gs, e, p⟩ := h.ex
  exact ⟨gs, k _ e, Paired.mapP p fun g q z => ⟨z.1, FV.keep z.2 f km⟩⟩
theorem DicAt.there {X : Tx} {F H : Hp} {M : List Addr} {m : Addr} {kvs : List (Key × FV)} (h : DicAt X F H M m kvs) : H m ≠ none := by
  obtain ⟨gs, e, p⟩ := h.ex
  rw [e]
  simp
structure FlsAt (X : Tx) (F H : Hp) (M : List Addr) (m : Addr) (es : List FV) : Prop where
  ex : es.length ≤ sizeLine ∧ ∃ vs : List V, H m = some (.lst vs) ∧ Paired (fun v f => f.isAt X.K F M v) vs es
theorem FlsAt.keep {X : Tx} {F F' H H' : Hp} {M M' : List Addr} {m : Addr} {es : List FV} (h : FlsAt X F H M m es) (f : Same F F') (k : ∀ vs, H m = some (.lst vs) → H' m = some (.lst vs)) (km : ∀ (k : Nat) (m : Addr), M[k]? = some m → M'[k]? = some m := by exact fun _ _ h => h) : FlsAt X F' H' M' m es := by
  obtain ⟨z, vs, e, p⟩ := h.ex
  exact ⟨z, vs, k _ e, Paired.mapP p fun v q z => FV.keep z f km⟩
theorem FlsAt.there {X : Tx} {F H : Hp} {M : List Addr} {m : Addr} {es : List FV} (h : FlsAt X F H M m es) : H m ≠ none := by
  obtain ⟨z, vs, e, p⟩ := h.ex
  rw [e]
  simp
def WO.isAt (X : Tx) (F H : Hp) (M : List Addr) (m : Addr) : WO → Prop
  | .lst l => l.length ≤ sizeLine ∧ ∃ vs, H m = some (.lst vs) ∧ Paired (Rp X.K F) vs l
  | .clo i caps => CloAt X F H m i caps
  | .obj x fs => ObjAt X F H M m x fs
  | .dic kvs => DicAt X F H M m kvs
  | .fls es => FlsAt X F H M m es
theorem WO.more {X : Tx} {F H : Hp} {M M' : List Addr} {m : Addr} {o : WO} (h : o.isAt X F H M m) (km : ∀ (k : Nat) (m : Addr), M[k]? = some m → M'[k]? = some m) : o.isAt X F H M' m := by
  cases o with
  | lst l => exact h
  | clo i caps => exact h
  | obj x fs => exact ObjAt.keep h (Same.refl _) (fun _ _ _ e => e) km
  | fls es => exact FlsAt.keep h (Same.refl _) (fun _ e => e) km
  | dic kvs => exact DicAt.keep h (Same.refl _) (fun _ e => e) km
structure WRel (X : Tx) (F H : Hp) (M : List Addr) (w : World) : Prop where
  nd : M.Nodup
  at_ : Paired (fun m o => F m = none ∧ WO.isAt X F H M m o) M w
def IsE (o : HO) : Prop := ∃ φ, o = .ext φ
def NoTbl (F : Hp) : Prop := ∀ a ps, F a ≠ some (.tbl ps)
structure Stp (H F : Hp) (M : List Addr) (H' F' : Hp) (M' : List Addr) : Prop where
  fg : Same F F'
  fr : ∀ a o, (a ∈ M → IsE o) → (∀ ps, o ≠ .tbl ps) → H a = some o → H' a = some o
  th : ∀ a, H a ≠ none → H' a ≠ none
  nf : ∀ a, H a ≠ none → F a = none → F' a = none
  mw : ∃ nw, M' = M ++ nw ∧ ∀ m ∈ nw, H m = none
theorem Stp.refl {H F : Hp} {M : List Addr} : Stp H F M H F M := ⟨Same.refl _, fun _ _ _ _ h => h, fun _ h => h, fun _ _ h => h, [], by simp, by simp⟩
theorem Stp.trans {H F H1 F1 H2 F2 : Hp} {M M1 M2 : List Addr} (a : Stp H F M H1 F1 M1) (b : Stp H1 F1 M1 H2 F2 M2) : Stp H F M H2 F2 M2 where
  fg := a.fg.trans b.fg
  fr := fun c o hM ht h => by
    obtain ⟨nw, e, hn⟩ := a.mw
    refine b.fr c o ?_ ht (a.fr c o hM ht h)
    intro z
    rw [e, List.mem_append] at z
    rcases z with z | z
    · exact hM z
    · rw [hn c z] at h; cases h
  th := fun c h => b.th c (a.th c h)
  nf := fun c h hF => b.nf c (a.th c h) (a.nf c h hF)
  mw := by
    obtain ⟨n1, e1, h1⟩ := a.mw
    obtain ⟨n2, e2, h2⟩ := b.mw
    refine ⟨n1 ++ n2, by rw [e2, e1, List.append_assoc], fun m hm => ?_⟩
    rcases List.mem_append.mp hm with z | z
    · exact h1 m z
    · cases q : H m with
      | none => rfl
      | some o => exact absurd (h2 m z) (a.th m (by rw [q]; simp))
def Exn.isAt (X : Tx) (F H : Hp) (cls : Value) (d : Option Addr) (x : Exn) : Prop :=
  ∃ C, X.mg x.cls = some (.ref C) ∧ cls = .ref C ∧ match x.fld with
    | none => d = none
    | some (f, dv) => ∃ dx v, d = some dx ∧ H dx = some (.xd [(f, v)]) ∧ Rp X.K F v dv
theorem WRel.notM {X : Tx} {F H : Hp} {M : List Addr} {w : World} {a : Addr} {fs : List (Str × V)} (wr : WRel X F H M w) (e : H a = some (.xd fs)) : a ∉ M := by
  have go : ∀ {N M : List Addr} {w : World}, Paired (fun m o => F m = none ∧ WO.isAt X F H N m o) M w → a ∉ M := by
    intro N M w h
    induction h with
    | nil => exact fun h => nomatch h
    | @cons m o _ _ h1 _ ih =>
      intro hm
      rcases List.mem_cons.mp hm with rfl | hm
      · cases o with
        | lst l => obtain ⟨_, _, vs, e1, _⟩ := h1; rw [e1] at e; cases e
        | clo i caps =>
          obtain ⟨nd, cl, c', _, e2, _⟩ := h1.2.ex
          obtain ⟨φ, eφ⟩ := cloO_ext a nd cl c'
          rw [e2, eφ] at e
          cases e
        | obj y gs =>
          obtain ⟨C, dx, _, _, e2, _⟩ := ObjAt.ex h1.2
          rw [e2] at e
          cases e
        | dic kvs =>
          obtain ⟨_, e2, _⟩ := DicAt.ex h1.2
          rw [e2] at e
          cases e
        | fls es =>
          obtain ⟨_, _, e2, _⟩ := FlsAt.ex h1.2
          rw [e2] at e
          cases e
      · exact ih hm
  exact go wr.at_
theorem Exn.keep {X : Tx} {F F' H H' : Hp} {cls : Value} {d : Option Addr} {x : Exn} (h : x.isAt X F H cls d) (f : Same F F') (k : ∀ a fs, H a = some (.xd fs) → H' a = some (.xd fs)) : x.isAt X F' H' cls d := by
  obtain ⟨C, h1, h2, h3⟩ := h
  refine ⟨C, h1, h2, ?_⟩
  revert h3
  cases x.fld with
  | none => exact fun h => h
  | some p =>
    rintro ⟨dx, v, e1, e2, e3⟩
    exact ⟨dx, v, e1, k _ _ e2, e3.mono f⟩
theorem keepX_upd {H : Hp} {p : Addr} {o : HO} (hp : ∀ fs, H p ≠ some (.xd fs)) : ∀ a fs, H a = some (.xd fs) → upd H p o a = some (.xd fs) := fun a fs e => by
  rw [upd_ne fun z => hp fs (by rw [← z]; exact e)]
  exact e
structure Base where
  H : Hp
  F : Hp
  M : List Addr
def Sl.isAt (X : Tx) (B : Base) (H F : Hp) (M : List Addr) (O : Nat → Addr) (i : Nat) (x : Option (Option V)) : Sl → Prop
  | .un => True
  | .dat d => ∃ v, x = some (some v) ∧ Rp X.K F v d
  | .own l => x = some (some (.ref (O i))) ∧ B.H (O i) = none ∧ F (O i) = none ∧ O i ∉ M ∧ l.length ≤ sizeLine ∧ ∃ vs, H (O i) = some (.lst vs) ∧ Paired (Rp X.K F) vs l
  | .wref k => ∃ m, M[k]? = some m ∧ x = some (some (.ref m))
  | .exn e => ∃ a cls d, X.T.ea = some (a, cls, d) ∧ x = some (some (.ref a)) ∧ e.isAt X F H cls d
structure SR (X : Tx) (B : Base) (env : Ev) (w : World) (σ : St) (H F : Hp) (O : Nat → Addr) (M : List Addr) : Prop where
  len : σ.length = env.length
  fh : Same F H
  nt : NoTbl F
  st : Stp B.H B.F B.M H F M
  wr : WRel X F H M w
  tb : TabsN X.T.tabs H
  sl : ∀ (i : Nat) (s : Sl), env[i]? = some s → s.isAt X B H F M O i σ[i]?
  inj : ∀ (i j : Nat) (li lj : List D), env[i]? = some (.own li) → env[j]? = some (.own lj) → O i = O j → i = j
def RV.isAt (X : Tx) (Hs : Hp) (env : Ev) (O : Nat → Addr) (H F : Hp) (M : List Addr) (v : V) : RV → Prop
  | .dat d => Rp X.K F v d
  | .fresh l => l.length ≤ sizeLine ∧ ∃ p vs, v = .ref p ∧ Hs p = none ∧ F p = none ∧ p ∉ M ∧ H p = some (.lst vs) ∧ Paired (Rp X.K F) vs l
  | .bor i l => env[i]? = some (.own l) ∧ v = .ref (O i)
  | .wref k => ∃ m, M[k]? = some m ∧ v = .ref m
theorem mem_of_pfx {M M' nw : List Addr} {k : Nat} {m : Addr} (e : M' = M ++ nw) (h : M[k]? = some m) : M'[k]? = some m := by
  rw [e, List.getElem?_append_left]
  · exact h
  · exact (List.getElem?_eq_some_iff.mp h).1
section
variable {X : Tx} {B : Base} {env : Ev} {w w' : World} {σ : St} {H F H' F' Hs : Hp} {O : Nat → Addr} {M M' : List Addr} {v : V} {r : RV}
theorem notM' (st : Stp H F M H' F' M') {p : Addr} (hM : p ∉ M) (hH : H p ≠ none) : p ∉ M' := by
  obtain ⟨nw, e, hn⟩ := st.mw
  rw [e, List.mem_append]
  rintro (z | z)
  · exact hM z
  · exact hH (hn p z)
theorem SR.step (s : SR X B env w σ H F O M) (st : Stp H F M H' F' M') (sm : Same F' H') (nt : NoTbl F') (wr : WRel X F' H' M' w') (tb : TabsN X.T.tabs H') : SR X B env w' σ H' F' O M' := by
  refine ⟨s.len, sm, nt, s.st.trans st, wr, tb, fun i sl e => ?_, s.inj⟩
  have h := s.sl i sl e
  obtain ⟨nw, em, _⟩ := id st.mw
  cases sl with
  | un => trivial
  | dat d => obtain ⟨v, e1, e2⟩ := h; exact ⟨v, e1, e2.mono st.fg⟩
  | own l =>
    obtain ⟨e1, e2, e3, e4, ez, vs, e5, e6⟩ := h
    have hn : H (O i) ≠ none := by rw [e5]; simp
    exact ⟨e1, e2, st.nf _ hn e3, notM' st e4 hn, ez, vs, st.fr _ _ (fun z => absurd z e4) (fun _ z => by cases z) e5, Rp.monoAll st.fg _ _ e6⟩
  | wref k => obtain ⟨m, e1, e2⟩ := h; exact ⟨m, mem_of_pfx em e1, e2⟩
  | exn e =>
    obtain ⟨a, cls, d, e1, e2, e3⟩ := h
    exact ⟨a, cls, d, e1, e2, Exn.keep e3 st.fg fun b fs q => st.fr _ _ (fun z => absurd z (s.wr.notM q)) (fun _ z => by cases z) q⟩
theorem RV.step (h : r.isAt X Hs env O H F M v) (st : Stp H F M H' F' M') : r.isAt X Hs env O H' F' M' v := by
  obtain ⟨nw, em, _⟩ := id st.mw
  cases r with
  | dat d => exact Rp.mono st.fg _ _ h
  | fresh l =>
    obtain ⟨ez, p, vs, e1, e2, e3, e4, e5, e6⟩ := h
    have hn : H p ≠ none := by rw [e5]; simp
    exact ⟨ez, p, vs, e1, e2, st.nf _ hn e3, notM' st e4 hn, st.fr _ _ (fun z => absurd z e4) (fun _ z => by cases z) e5, Rp.monoAll st.fg _ _ e6⟩
  | bor i l => exact h
  | wref k => obtain ⟨m, e1, e2⟩ := h; exact ⟨m, mem_of_pfx em e1, e2⟩
theorem RV.since {H0 : Hp} (h : r.isAt X Hs env O H F M v) (e : ∀ a, H0 a ≠ none → Hs a ≠ none) : r.isAt X H0 env O H F M v := by
  cases r with
  | fresh l =>
    obtain ⟨ez, p, vs, e1, e2, e3⟩ := h
    refine ⟨ez, p, vs, e1, ?_, e3⟩
    cases q : H0 p with
    | none => rfl
    | some o => exact absurd e2 (e p (by rw [q]; simp))
  | dat d => exact h
  | bor i l => exact h
  | wref k => exact h
end
structure Xt (H F H' F' : Hp) : Prop where
  hh : Same H H'
  ff : Same F F'
  fh : Same F' H'
  nf : ∀ a, H a ≠ none → F a = none → F' a = none
  nt : NoTbl F'
section
variable {X : Tx} {H F H' F' : Hp} {M : List Addr} {w : World} {p : Addr}
theorem Xt.refl (h : Same F H) (nt : NoTbl F) : Xt H F H F := ⟨Same.refl _, Same.refl _, h, fun _ _ e => e, nt⟩
theorem Xt.trans {H2 F2 : Hp} (a : Xt H F H' F') (b : Xt H' F' H2 F2) : Xt H F H2 F2 :=
  ⟨a.hh.trans b.hh, a.ff.trans b.ff, b.fh, fun c h e => b.nf c (fun z => h (a.hh.free z)) (a.nf c h e), b.nt⟩
theorem Xt.stp (x : Xt H F H' F') : Stp H F M H' F' M :=
  ⟨x.ff, fun a o _ _ h => x.hh a o h, fun a h z => h (x.hh.free z), x.nf, [], by simp, by simp⟩
theorem same_upd {o : HO} (h : H p = none) : Same H (upd H p o) := fun b u q => by rw [upd_ne (ne_of_none q h)]; exact q
theorem Xt.newL {vs : List V} (h : Same F H) (nt : NoTbl F) (hp : H p = none) : Xt H F (upd H p (.lst vs)) F :=
  ⟨same_upd hp, Same.refl _, h.trans (same_upd hp), fun _ _ e => e, nt⟩
theorem Xt.newF {o : HO} (h : Same F H) (nt : NoTbl F) (hp : H p = none) (ho : ∀ ps, o ≠ .tbl ps) : Xt H F (upd H p o) (upd F p o) := by
  have hF : F p = none := h.free hp
  refine ⟨same_upd hp, same_upd hF, fun b u q => ?_, fun a hn e => ?_, fun a ps q => ?_⟩
  · by_cases e : b = p
    · subst e; rw [upd_same] at q ⊢; exact q
    · rw [upd_ne e] at q ⊢; exact h _ _ q
  · by_cases z : a = p
    · subst z; exact absurd hp hn
    · rw [upd_ne z]; exact e
  · by_cases z : a = p
    · subst z; rw [upd_same] at q; exact ho ps (Option.some.inj q)
    · rw [upd_ne z] at q; exact nt a ps q
theorem WRel.keep (wr : WRel X F H M w) (x : Xt H F H' F') : WRel X F' H' M w := by
  refine ⟨wr.nd, Paired.mapP wr.at_ fun m o h => ?_⟩
  obtain ⟨h1, h2⟩ := h
  cases o with
  | lst l =>
    obtain ⟨ez, vs, e1, e2⟩ := h2
    exact ⟨x.nf m (by rw [e1]; simp) h1, ez, vs, x.hh _ _ e1, Rp.monoAll x.ff _ _ e2⟩
  | clo i caps => exact ⟨x.nf m (CloAt.there h2) h1, CloAt.keep h2 (KeepE.of x.hh) x.ff x.nf⟩
  | obj y gs => exact ⟨x.nf m (ObjAt.there h2) h1, ObjAt.keep h2 x.ff fun _ _ _ e => x.hh _ _ e⟩
  | fls es => exact ⟨x.nf m (FlsAt.there h2) h1, FlsAt.keep h2 x.ff fun _ e => x.hh _ _ e⟩
  | dic kvs => exact ⟨x.nf m (DicAt.there h2) h1, DicAt.keep h2 x.ff fun _ e => x.hh _ _ e⟩
theorem SR.xt {B : Base} {env : Ev} {σ : St} {O : Nat → Addr} (s : SR X B env w σ H F O M) (x : Xt H F H' F') : SR X B env w σ H' F' O M :=
  s.step x.stp x.fh x.nt (s.wr.keep x) (s.tb.ext x.hh)
theorem SR.freeze {B : Base} {env : Ev} {σ : St} {O : Nat → Addr} {vs : List V} (s : SR X B env w σ H F O M) (hB : B.H p = none) (hM : p ∉ M) (hO : ∀ i l, env[i]? = some (.own l) → O i ≠ p) (hp : H p = some (.lst vs)) (hF : F p = none) : SR X B env w σ H (upd F p (.lst vs)) O M := by
  have fg : Same F (upd F p (.lst vs)) := same_upd hF
  refine ⟨s.len, fun b u q => ?_, fun a ps q => ?_, ⟨s.st.fg.trans fg, s.st.fr, s.st.th, fun a hn e => ?_, s.st.mw⟩, ⟨s.wr.nd, ?_⟩, s.tb, fun i sl e => ?_, s.inj⟩
  · by_cases e : b = p
    · subst e; rw [upd_same] at q; rw [hp]; exact q
    · rw [upd_ne e] at q; exact s.fh _ _ q
  · by_cases z : a = p
    · subst z; rw [upd_same] at q; cases q
    · rw [upd_ne z] at q; exact s.nt a ps q
  · by_cases z : a = p
    · subst z; exact absurd hB hn
    · rw [upd_ne z]; exact s.st.nf a hn e
  · have go : ∀ {N M : List Addr} {w : World}, p ∉ M → Paired (fun m o => F m = none ∧ WO.isAt X F H N m o) M w → Paired (fun m o => upd F p (.lst vs) m = none ∧ WO.isAt X (upd F p (.lst vs)) H N m o) M w := by
      intro N M w hM h
      induction h with
      | nil => exact .nil
      | @cons m o _ _ h1 _ ih =>
        refine .cons ⟨?_, ?_⟩ (ih fun z => hM (List.mem_cons_of_mem _ z))
        · rw [upd_ne (fun z => hM (by rw [← z]; exact List.mem_cons_self))]; exact h1.1
        · cases o with
          | lst l => obtain ⟨_, ez, ws, e1, e2⟩ := h1; exact ⟨ez, ws, e1, Rp.monoAll fg _ _ e2⟩
          | clo i caps => exact CloAt.keep' h1.2 fg (fun c o e => by rw [upd_ne (fun z => by rw [z, hp] at e; cases e)])
          | obj y gs => exact ObjAt.keep h1.2 fg fun _ _ _ e => e
          | fls es => exact FlsAt.keep h1.2 fg fun _ e => e
          | dic kvs => exact DicAt.keep h1.2 fg fun _ e => e
    exact go hM s.wr.at_
  · have h := s.sl i sl e
    cases sl with
    | un => trivial
    | dat d => obtain ⟨v, e1, e2⟩ := h; exact ⟨v, e1, e2.mono fg⟩
    | own l =>
      obtain ⟨e1, e2, e3, e4, ez, ws, e5, e6⟩ := h
      exact ⟨e1, e2, by rw [upd_ne (hO i l e)]; exact e3, e4, ez, ws, e5, Rp.monoAll fg _ _ e6⟩
    | wref k => exact h
    | exn e => obtain ⟨a, cls, d, e1, e2, e3⟩ := h; exact ⟨a, cls, d, e1, e2, Exn.keep e3 fg fun _ _ q => q⟩
end
end Dl
namespace Dl
open PySem PySem.Spec PyProof.Rows L2 NdefX
def Pst {α : Type} (o : Out α) (g : α → World → Prop) (b : Exn → Ev → World → Prop) : Prop := match o with
  | .ok a w => g a w
  | .exc x e w => b x e w
  | .stuck => False
theorem Pst.bind {α β : Type} {o : Out α} {f : α → World → Out β} {g : β → World → Prop} {b : Exn → Ev → World → Prop} (h : Pst (o.bind f) g b) : Pst o (fun a w => Pst (f a w) g b) b := by cases o <;> exact h
theorem Pst.mono {α : Type} {o : Out α} {g g' : α → World → Prop} {b b' : Exn → Ev → World → Prop} (h : Pst o g b) (hg : ∀ a w, g a w → g' a w) (hb : ∀ x e w, b x e w → b' x e w) : Pst o g' b' := by
  cases o with
  | ok a w => exact hg a w h
  | exc x e w => exact hb x e w h
  | stuck => exact h
theorem Pst.imp {α : Type} {o : Out α} {g g' : α → World → Prop} {b : Exn → Ev → World → Prop} (h : Pst o g b) (hg : ∀ a w, g a w → g' a w) : Pst o g' b := h.mono hg fun _ _ _ z => z
def badX (X : Tx) (B : Base) (Wi : WX) : Exn → Ev → World → Prop := fun x env w => ∀ cls d σ H F O M, SR X B env w σ H F O M → x.isAt X F H cls d → Wi cls d σ H
def tD (X : Tx) (Wi : WX) (e : Ex) : TE := fun σ H Q => ∃ B env w F O M, SR X B env w σ H F O M ∧
  Pst (e env w) (fun r w' => ∀ v H' F' M', SR X B env w' σ H' F' O M' → Stp H F M H' F' M' → r.isAt X H env O H' F' M' v → Q v H') (badX X B Wi)
def tT (X : Tx) (Wi : WX) (e : Ev → World → Out Bool) : TT := fun σ H Q => ∃ B env w F O M, SR X B env w σ H F O M ∧
  Pst (e env w) (fun b w' => ∀ H' F' M', SR X B env w' σ H' F' O M' → Stp H F M H' F' M' → Q b H') (badX X B Wi)
def tR (X : Tx) (Wi : WX) (e : Ev → World → Out (List RV)) : TA := fun σ H Q => ∃ B env w F O M, SR X B env w σ H F O M ∧
  Pst (e env w) (fun rs w' => ∀ vs H' F' M', SR X B env w' σ H' F' O M' → Stp H F M H' F' M' → Paired (fun v r => RV.isAt X H env O H' F' M' v r) vs rs → Q vs H') (badX X B Wi)
theorem _root_.L2.PE.impD {X : Cx} {e : Expr} {t t' : TE} (h : PE X e t) (k : ∀ σ H Q, t' σ H Q → t σ H Q) : PE X e t' := ⟨fun pins s σ H Q I q => h.run pins s σ H Q I (k σ H Q q)⟩
theorem _root_.L2.PT.impD {X : Cx} {e : Expr} {t t' : TT} (h : PT X e t) (k : ∀ σ H Q, t' σ H Q → t σ H Q) : PT X e t' := ⟨fun pins s σ H Q I q => h.run pins s σ H Q I (k σ H Q q)⟩
theorem _root_.L2.PW.impD {X : Cx} {e : Expr} {t t' : TT} (h : PW X e t) (k : ∀ σ H Q, t' σ H Q → t σ H Q) : PW X e t' := ⟨fun wh pins s σ H Q I q => h.run wh pins s σ H Q I (k σ H Q q)⟩
theorem _root_.L2.PA.impD {X : Cx} {e : List Expr} {t t' : TA} (h : PA X e t) (k : ∀ σ H Q, t' σ H Q → t σ H Q) : PA X e t' := ⟨fun pos pins s σ H Q I q => h.run pos pins s σ H Q I (k σ H Q q)⟩
theorem _root_.L2.PS.impD {X : Cx} {e : Stmt} {t t' : TS} (h : PS X e t) (k : ∀ D σ H, t' D σ H → t D σ H) : PS X e t' := ⟨fun pins s σ H D I q => h.run pins s σ H D I (k D σ H q)⟩
theorem _root_.L2.PSs.impD {X : Cx} {e : List Stmt} {t t' : TS} (h : PSs X e t) (k : ∀ D σ H, t' D σ H → t D σ H) : PSs X e t' := ⟨fun pins s σ H D I q => h.run pins s σ H D I (k D σ H q)⟩
abbrev Cx.tx (X : Cx) (T : Tbs) : Tx := ⟨X.K, X.mg, T⟩
abbrev JE (X : Cx) (T : Tbs) (Wi : WX) (e : Expr) (d : Ex) : Prop := PE X e (tD (Cx.tx X T) Wi d)
abbrev JT (X : Cx) (T : Tbs) (Wi : WX) (e : Expr) (d : Ev → World → Out Bool) : Prop := PT X e (tT (Cx.tx X T) Wi d)
abbrev JW (X : Cx) (T : Tbs) (Wi : WX) (e : Expr) (d : Ev → World → Out Bool) : Prop := PW X e (tT (Cx.tx X T) Wi d)
abbrev JR (X : Cx) (T : Tbs) (Wi : WX) (es : List Expr) (d : Ev → World → Out (List RV)) : Prop := PA X es (tR (Cx.tx X T) Wi d)
def RV.val : RV → Option D
  | .dat d => some d
  | .fresh l => some (.lst l)
  | .bor _ l => some (.lst l)
  | .wref _ => none
def Rv (K : PySem.W.Frag) (F H : Hp) (v : V) : D → Prop
  | .lst l => l.length ≤ sizeLine ∧ ∃ p vs, v = .ref p ∧ SqL K H p vs ∧ Paired (Rp K F) vs l
  | d => Rp K F v d
section
variable {X : Tx} {B : Base} {env : Ev} {w w' : World} {σ : St} {H F H' F' Hs : Hp} {O : Nat → Addr} {M M' : List Addr} {v : V} {r : RV} {K : PySem.W.Frag} {d : D}
theorem Rp.rv (h : Rp K F v d) (fh : Same F H) : Rv K F H v d := by
  cases d with
  | lst l => cases h with | lst hz hs hp => exact ⟨hz, _, _, rfl, fh.seq hs, hp⟩
  | _ => exact h
theorem Rv.rp (h : Rv K F H v d) (fh : Same F H) : Rp K H v d := by
  cases d with
  | lst l => obtain ⟨hz, p, vs, rfl, hs, hp⟩ := h; exact .lst hz hs (Rp.monoAll fh _ _ hp)
  | _ => exact Rp.mono fh _ _ h
theorem RV.rv (s : SR X B env w σ H F O M) (h : r.isAt X Hs env O H F M v) (e : r.val = some d) : Rv X.K F H v d := by
  cases r with
  | dat d' => cases e; exact Rp.rv h s.fh
  | fresh l => cases e; obtain ⟨ez, p, vs, e1, _, _, _, e5, e6⟩ := h; exact ⟨ez, p, vs, e1, SqL.of e5, e6⟩
  | bor i l =>
    cases e
    obtain ⟨e1, e2⟩ := h
    obtain ⟨_, _, _, _, ez, vs, e5, e6⟩ := s.sl i _ e1
    exact ⟨ez, _, vs, e2, SqL.of e5, e6⟩
  | wref k => cases e
theorem WRel.there (wr : WRel X F H M w) {m : Addr} (hm : m ∈ M) : H m ≠ none := by
  have go : ∀ {N M : List Addr} {w : World}, Paired (fun m o => F m = none ∧ WO.isAt X F H N m o) M w → m ∈ M → H m ≠ none := by
    intro N M w h hm
    induction h with
    | nil => cases hm
    | @cons a o _ _ h1 _ ih =>
      rcases List.mem_cons.mp hm with rfl | hm
      · cases o with
        | lst l => obtain ⟨_, _, vs, e1, _⟩ := h1; rw [e1]; simp
        | clo i caps => exact CloAt.there h1.2
        | obj y gs => exact ObjAt.there h1.2
        | fls es => exact FlsAt.there h1.2
        | dic kvs => exact DicAt.there h1.2
      · exact ih hm
  exact go wr.at_ hm
def RV.newAt (K : PySem.W.Frag) (H H' F' : Hp) (v : V) : RV → Prop
  | .dat d => Rp K F' v d
  | .fresh l => l.length ≤ sizeLine ∧ ∃ p vs, v = .ref p ∧ H p = none ∧ F' p = none ∧ H' p = some (.lst vs) ∧ Paired (Rp K F') vs l
  | _ => False
theorem RV.of_new (h : r.newAt X.K H H' F' v) (s : SR X B env w σ H F O M) (e0 : ∀ a, Hs a ≠ none → H a ≠ none) : r.isAt X Hs env O H' F' M v := by
  cases r with
  | dat d => exact h
  | fresh l =>
    obtain ⟨ez, p, vs, e1, e2, e3, e4, e5⟩ := h
    refine ⟨ez, p, vs, e1, ?_, e3, fun hm => s.wr.there hm e2, e4, e5⟩
    cases q : Hs p with
    | none => rfl
    | some o => exact absurd e2 (e0 p (by rw [q]; simp))
  | bor i l => exact h.elim
  | wref k => exact h.elim
end
def lift (o : Option RV) (w : World) : Out RV := match o with
  | some r => .ok r w
  | none => .stuck
@[simp] theorem lift_some (r : RV) (w : World) : lift (some r) w = .ok r w := rfl
theorem Pst.lift {o : Option RV} {w : World} {g : RV → World → Prop} {b : Exn → Ev → World → Prop} (h : Pst (Dl.lift o w) g b) : ∃ r, o = some r ∧ g r w := by
  cases o with
  | none => exact h.elim
  | some r => exact ⟨r, rfl, h⟩
def dName (i : Nat) : Ex := fun env w => match env[i]? with
  | some (.dat d) => .ok (.dat d) w
  | some (.own l) => .ok (.bor i l) w
  | some (.wref k) => .ok (.wref k) w
  | _ => .stuck
def dC (d : D) : Ex := fun _ w => .ok (.dat d) w
section
variable {X : Cx} {T : Tbs} {Wi : WX} {pos : Pos}
theorem je_name {i : Nat} {x : Str} (h : PE X (.Name x pos) (tVar i)) : JE X T Wi (.Name x pos) (dName i) := by
  refine h.impD fun σ H Q q => ?_
  obtain ⟨B, env, w, F, O, M, s, q⟩ := q
  unfold dName at q
  cases e : env[i]? with
  | none => rw [e] at q; exact q.elim
  | some sl =>
    rw [e] at q
    have a := s.sl i sl e
    cases sl with
    | un => exact q.elim
    | dat d => obtain ⟨v, e1, e2⟩ := a; exact ⟨v, e1, q v H F M s .refl e2⟩
    | own l => obtain ⟨e1, e2⟩ := a; exact ⟨_, e1, q _ H F M s .refl ⟨e, rfl⟩⟩
    | wref k => obtain ⟨m, e1, e2⟩ := a; exact ⟨_, e2, q _ H F M s .refl ⟨m, e1, rfl⟩⟩
    | exn x => exact q.elim
theorem je_const {e : Expr} {v : V} {d : D} (h : PE X e (tC v)) (r : ∀ F, Rp X.K F v d) : JE X T Wi e (dC d) := by
  refine h.impD fun σ H Q q => ?_
  obtain ⟨B, env, w, F, O, M, s, q⟩ := q
  exact q v H F M s .refl (r F)
theorem je_int {i j} : JE X T Wi (.Constant (.int i) j pos) (dC (.int i)) := je_const pe_int fun _ => .int i
theorem je_bl {b j} : JE X T Wi (.Constant (.bool b) j pos) (dC (.bl b)) := je_const pe_bl fun _ => .bl b
theorem je_non {j} : JE X T Wi (.Constant .none j pos) (dC .non) := je_const pe_non fun _ => .non
theorem je_str {x j} (h : SOk x := by exact ⟨by decide +kernel, by decide +kernel⟩) : JE X T Wi (.Constant (.str x) j pos) (dC (.str x)) := je_const pe_str fun _ => .str x h
end
def OpS (X : Cx) (f : Value → Value → Sem Value) (g : D → D → Option RV) : Prop :=
  ∃ r : R2, OpR X f r ∧ ∀ x y d e rv H F, Same F H → NoTbl F → Rv X.K F H x d → Rv X.K F H y e → g d e = some rv → ∀ Q : VK, (∀ v H' F', Xt H F H' F' → rv.newAt X.K H H' F' v → Q v H') → r x y H Q
def vals2 (g : D → D → Option RV) (a b : RV) : Option RV := match a.val, b.val with
  | some x, some y => g x y
  | _, _ => none
def dBin (g : D → D → Option RV) (a b : Ex) : Ex := fun env w => (a env w).bind fun ra w1 => (b env w1).bind fun rb w2 => lift (vals2 g ra rb) w2
theorem vals2_some {g : D → D → Option RV} {a b : RV} {r : RV} (h : vals2 g a b = some r) : ∃ x y, a.val = some x ∧ b.val = some y ∧ g x y = some r := by
  unfold vals2 at h
  cases ea : a.val with
  | none => rw [ea] at h; cases h
  | some x =>
    cases eb : b.val with
    | none => rw [ea, eb] at h; cases h
    | some y => rw [ea, eb] at h; exact ⟨x, y, rfl, rfl, h⟩
section
variable {X : Cx} {T : Tbs} {Wi : WX} {pos : Pos} {a b : Expr} {da db : Ex}
theorem op_read {f : Value → Value → Sem Value} {g : D → D → Option RV} {r : R2} (hr : ∀ x y d e rv H F, Same F H → NoTbl F → Rv X.K F H x d → Rv X.K F H y e → g d e = some rv → ∀ Q : VK, (∀ v H' F', Xt H F H' F' → rv.newAt X.K H H' F' v → Q v H') → r x y H Q)
    {σ : St} {H : Hp} {Q : VK} (q : tD (Cx.tx X T) Wi (dBin g da db) σ H Q) : tOp r (tD (Cx.tx X T) Wi da) (tD (Cx.tx X T) Wi db) σ H Q := by
  obtain ⟨B, env, w, F, O, M, s, q⟩ := q
  refine ⟨B, env, w, F, O, M, s, q.bind.imp fun ra w1 q1 x H1 F1 M1 s1 st1 r1 => ?_⟩
  refine ⟨B, env, w1, F1, O, M1, s1, q1.bind.imp fun rb w2 q2 y H2 F2 M2 s2 st2 r2 => ?_⟩
  obtain ⟨rv, e, q3⟩ := q2.lift
  obtain ⟨d, e', ea, eb, eg⟩ := vals2_some e
  refine hr x y d e' rv H2 F2 s2.fh s2.nt (RV.rv s2 (RV.step r1 st2) ea) (RV.rv s2 r2 eb) eg Q fun v H' F' xt nw => ?_
  exact q3 v H' F' M2 (s2.xt xt) ((st1.trans st2).trans xt.stp) (RV.of_new nw s2 (st1.trans st2).th)
theorem je_bin {op : Operator} {g : D → D → Option RV} (h : OpS X (binaryOp op) g) (ha : JE X T Wi a da) (hb : JE X T Wi b db) : JE X T Wi (.BinOp a op b pos) (dBin g da db) := by
  obtain ⟨r, ho, hr⟩ := h
  exact (pe_op ho ha hb).impD fun σ H Q q => op_read (f := binaryOp op) hr q
theorem je_cmp {op : CmpOp} {g : D → D → Option RV} (h : OpS X (compareOp op) g) (ha : JE X T Wi a da) (hb : JE X T Wi b db) (hm : behindInMarks op b = false := by first | exact nomark _ | rfl) : JE X T Wi (.Compare a [op] [b] pos) (dBin g da db) := by
  obtain ⟨r, ho, hr⟩ := h
  exact (pe_cmpR ho ha hb hm).impD fun σ H Q q => op_read (f := compareOp op) hr q
end
theorem new_val {K : PySem.W.Frag} {F H : Hp} {v : V} {d : D} {Q : VK} (fh : Same F H) (nt : NoTbl F) (q : ∀ v H' F', Xt H F H' F' → (RV.dat d).newAt K H H' F' v → Q v H') (h : Rp K F v d) : Q v H := q v H F (Xt.refl fh nt) h
theorem new_lst {K : PySem.W.Frag} {F H : Hp} {l : List D} {vs : List V} {p : Addr} {Q : VK} (fh : Same F H) (nt : NoTbl F) (q : ∀ v H' F', Xt H F H' F' → (RV.fresh l).newAt K H H' F' v → Q v H') (hp : H p = none) (hz : l.length ≤ sizeLine) (h : Paired (Rp K F) vs l) : Q (.ref p) (upd H p (.lst vs)) :=
  q _ _ F (Xt.newL fh nt hp) ⟨hz, p, vs, rfl, hp, fh.free hp, upd_same, h⟩
theorem new_tup {K : PySem.W.Frag} {F H : Hp} {l : List D} {vs : List V} {p : Addr} {Q : VK} (fh : Same F H) (nt : NoTbl F) (q : ∀ v H' F', Xt H F H' F' → (RV.dat (.tup l)).newAt K H H' F' v → Q v H') (hp : H p = none) (hz : l.length ≤ sizeLine) (h : Paired (Rp K F) vs l) : Q (.ref p) (upd H p (.tup vs)) := by
  have x : Xt H F (upd H p (.tup vs)) (upd F p (.tup vs)) := Xt.newF fh nt hp (fun _ z => by cases z)
  exact q _ _ _ x (Rp.tup hz (SqT.of upd_same) (Rp.monoAll x.ff _ _ h))
def mulOk (i j : Int) : Bool := (decide (i.natAbs < 2 ^ 64) || decide (j.natAbs < 2 ^ 64)) || decide (i.natAbs.log2 + j.natAbs.log2 < 900000)
def gAdd : D → D → Option RV
  | .int i, .int j => some (.dat (.int (i + j)))
  | .str s, .str t => if s.length + t.length ≤ sizeLine then some (.dat (.str (s ++ t))) else none
  | .tup k, .tup l => if k.length + l.length ≤ sizeLine then some (.dat (.tup (k ++ l))) else none
  | .lst k, .lst l => if k.length + l.length ≤ sizeLine then some (.fresh (k ++ l)) else none
  | _, _ => none
def gSub : D → D → Option RV
  | .int i, .int j => some (.dat (.int (i - j)))
  | _, _ => none
def gMul : D → D → Option RV
  | .int i, .int j => if mulOk i j then some (.dat (.int (i * j))) else none
  | _, _ => none
def gFdiv : D → D → Option RV
  | .int i, .int j => if 0 < j ∧ (j < 1073741824 ∨ j.natAbs.log2 < 8990) then some (.dat (.int (i / j))) else none
  | _, _ => none
def gMod : D → D → Option RV
  | .int i, .int j => if 0 < j then some (.dat (.int (i % j))) else none
  | _, _ => none
def gPow : D → D → Option RV
  | .int i, .int j => if 0 ≤ j ∧ j ≤ 1000000 ∧ i.natAbs < 2 ^ 64 then some (.dat (.int (i ^ j.toNat))) else none
  | _, _ => none
theorem str_len_app (s t : Str) : (s ++ t).length = s.length + t.length := by
  show (s.cps ++ t.cps).size = _
  rw [Array.size_append]
  rfl
theorem sOk_app {s t : Str} (h1 : SOk s) (h2 : SOk t) (hz : s.length + t.length ≤ sizeLine) : SOk (s ++ t) := by
  refine ⟨?_, by rw [str_len_app]; exact hz⟩
  obtain ⟨h1, _⟩ := h1
  obtain ⟨h2, _⟩ := h2
  unfold PyData.strOk at *
  show (Array.all (s.cps ++ t.cps) fun c => decide (c < 0x110000)) = true
  rw [Array.all_append, h1, h2]
  rfl
section
variable {X : Cx}
theorem os_sub : OpS X (binaryOp .Sub) gSub := by
  refine ⟨_, op_sub, fun x y d e rv H F fh nt rx ry h Q q => ?_⟩
  cases d <;> cases e <;> first | (simp only [gSub] at h; cases h; done) | skip
  simp only [gSub, Option.some.injEq] at h; subst h
  cases rx; cases ry
  exact ⟨_, _, rfl, rfl, new_val fh nt q (.int _)⟩
theorem os_mod : OpS X (binaryOp .Mod) gMod := by
  refine ⟨_, op_mod, fun x y d e rv H F fh nt rx ry h Q q => ?_⟩
  cases d <;> cases e <;> first | (simp only [gMod] at h; cases h; done) | skip
  simp only [gMod] at h
  split at h
  · rename_i hc
    simp only [Option.some.injEq] at h; subst h
    cases rx; cases ry
    exact ⟨_, _, rfl, rfl, hc, new_val fh nt q (.int _)⟩
  · cases h
theorem os_pow : OpS X (binaryOp .Pow) gPow := by
  refine ⟨_, op_pow, fun x y d e rv H F fh nt rx ry h Q q => ?_⟩
  cases d <;> cases e <;> first | (simp only [gPow] at h; cases h; done) | skip
  simp only [gPow] at h
  split at h
  · rename_i hc
    simp only [Option.some.injEq] at h; subst h
    cases rx; cases ry
    exact ⟨_, _, rfl, rfl, hc, new_val fh nt q (.int _)⟩
  · cases h
theorem os_fdiv : OpS X (binaryOp .FloorDiv) gFdiv := by
  refine ⟨_, op_fdiv.or op_fdivW, fun x y d e rv H F fh nt rx ry h Q q => ?_⟩
  cases d <;> cases e <;> first | (simp only [gFdiv] at h; cases h; done) | skip
  simp only [gFdiv] at h
  split at h
  · rename_i hc
    simp only [Option.some.injEq] at h; subst h
    cases rx; cases ry
    obtain ⟨h0, h1 | h1⟩ := hc
    · exact .inl ⟨_, _, rfl, rfl, ⟨h0, h1⟩, new_val fh nt q (.int _)⟩
    · exact .inr ⟨_, _, rfl, rfl, ⟨h0, by omega⟩, new_val fh nt q (.int _)⟩
  · cases h
theorem os_mul : OpS X (binaryOp .Mult) gMul := by
  refine ⟨_, op_mul.or op_mulW, fun x y d e rv H F fh nt rx ry h Q q => ?_⟩
  cases d <;> cases e <;> first | (simp only [gMul] at h; cases h; done) | skip
  simp only [gMul] at h
  split at h
  · rename_i hc
    simp only [Option.some.injEq] at h; subst h
    cases rx; cases ry
    unfold mulOk at hc
    simp only [Bool.or_eq_true, decide_eq_true_eq] at hc
    rcases hc with (hc | hc) | hc
    · exact .inl ⟨_, _, rfl, rfl, .inl (by omega), new_val fh nt q (.int _)⟩
    · exact .inl ⟨_, _, rfl, rfl, .inr (by omega), new_val fh nt q (.int _)⟩
    · exact .inr ⟨_, _, rfl, rfl, (by unfold CMulW; omega), new_val fh nt q (.int _)⟩
  · cases h
end
end Dl
namespace Dl
open PySem PySem.Spec PyProof.Rows L2 NdefX
namespace Em
open PySem.SeqAt MeetsSeq AutoSeq1
abbrev dO (dd : Option Addr) (es : Array DictEntry) (n : Nat) (sl : Array (Option Value)) : Obj := { cls := .type "dict", dict := dd, data := .dict es n, slots := sl }
abbrev sO (t : String) (de : Option Addr) (zs : Array Value) (m : Nat) (sm : Array (Option Value)) : Obj := { cls := .type t, dict := de, data := .seq zs m, slots := sm }
theorem deq_none (p : Addr) (es : Array DictEntry) (n : Nat) (dd : Option Addr) (sl : Array (Option Value)) :
    Meets (Builtin.«dict.__eq__» ⟨[.ref p, .none], []⟩) (fun _ R s => s.heap.get? p = some (dO dd es n sl) ∧ R (.ok (.ret .notImplemented)) s) :=
  .of_wp fun prog w A R s h => by obtain ⟨hp, g, d, tk, os⟩ := s; obtain ⟨h1, h⟩ := h; have f1 := F.sub_NoneType_dict; wp_walk using wpAny_loadPart' h1; exact ⟨_, rfl, h⟩
theorem noneeq_d (p : Addr) (es : Array DictEntry) (n : Nat) (dd : Option Addr) (sl : Array (Option Value)) :
    Meets (Builtin.«NoneType.__eq__» ⟨[.none, .ref p], []⟩) (fun _ R s => s.heap.get? p = some (dO dd es n sl) ∧ R (.ok (.ret .notImplemented)) s) :=
  .of_wp fun prog w A R s h => by obtain ⟨hp, g, d, tk, os⟩ := s; obtain ⟨h1, h⟩ := h; wp_walk using wpAny_loadPart' h1, wpAny_load h1; exact ⟨_, rfl, h⟩
theorem deq_bool (p : Addr) (es : Array DictEntry) (n : Nat) (dd : Option Addr) (sl : Array (Option Value)) (y : Bool) :
    Meets (Builtin.«dict.__eq__» ⟨[.ref p, .bool y], []⟩) (fun _ R s => s.heap.get? p = some (dO dd es n sl) ∧ R (.ok (.ret .notImplemented)) s) :=
  .of_wp fun prog w A R s h => by obtain ⟨hp, g, d, tk, os⟩ := s; obtain ⟨h1, h⟩ := h; have f1 := F.sub_bool_dict; wp_walk using wpAny_loadPart' h1; exact ⟨_, rfl, h⟩
theorem booleq_d (p : Addr) (es : Array DictEntry) (n : Nat) (dd : Option Addr) (sl : Array (Option Value)) (y : Bool) :
    Meets (Builtin.«int.__eq__» ⟨[.bool y, .ref p], []⟩) (fun _ R s => s.heap.get? p = some (dO dd es n sl) ∧ R (.ok (.ret .notImplemented)) s) :=
  .of_wp fun prog w A R s h => by obtain ⟨hp, g, d, tk, os⟩ := s; obtain ⟨h1, h⟩ := h; wp_walk using wpAny_loadPart' h1, wpAny_load h1; exact ⟨_, rfl, h⟩
theorem deq_int (p : Addr) (es : Array DictEntry) (n : Nat) (dd : Option Addr) (sl : Array (Option Value)) (y : Int) (yt : Tok) :
    Meets (Builtin.«dict.__eq__» ⟨[.ref p, .int y yt], []⟩) (fun _ R s => s.heap.get? p = some (dO dd es n sl) ∧ R (.ok (.ret .notImplemented)) s) :=
  .of_wp fun prog w A R s h => by obtain ⟨hp, g, d, tk, os⟩ := s; obtain ⟨h1, h⟩ := h; have f1 := F.sub_int_dict; wp_walk using wpAny_loadPart' h1; exact ⟨_, rfl, h⟩
theorem inteq_d (p : Addr) (es : Array DictEntry) (n : Nat) (dd : Option Addr) (sl : Array (Option Value)) (y : Int) (yt : Tok) :
    Meets (Builtin.«int.__eq__» ⟨[.int y yt, .ref p], []⟩) (fun _ R s => s.heap.get? p = some (dO dd es n sl) ∧ R (.ok (.ret .notImplemented)) s) :=
  .of_wp fun prog w A R s h => by obtain ⟨hp, g, d, tk, os⟩ := s; obtain ⟨h1, h⟩ := h; wp_walk using wpAny_loadPart' h1, wpAny_load h1; exact ⟨_, rfl, h⟩
theorem deq_str (p : Addr) (es : Array DictEntry) (n : Nat) (dd : Option Addr) (sl : Array (Option Value)) (y : Str) (yt : Tok) :
    Meets (Builtin.«dict.__eq__» ⟨[.ref p, .str y yt], []⟩) (fun _ R s => s.heap.get? p = some (dO dd es n sl) ∧ R (.ok (.ret .notImplemented)) s) :=
  .of_wp fun prog w A R s h => by obtain ⟨hp, g, d, tk, os⟩ := s; obtain ⟨h1, h⟩ := h; have f1 := F.sub_str_dict; wp_walk using wpAny_loadPart' h1; exact ⟨_, rfl, h⟩
theorem streq_d (p : Addr) (es : Array DictEntry) (n : Nat) (dd : Option Addr) (sl : Array (Option Value)) (y : Str) (yt : Tok) :
    Meets (Builtin.«str.__eq__» ⟨[.str y yt, .ref p], []⟩) (fun _ R s => s.heap.get? p = some (dO dd es n sl) ∧ R (.ok (.ret .notImplemented)) s) :=
  .of_wp fun prog w A R s h => by obtain ⟨hp, g, d, tk, os⟩ := s; obtain ⟨h1, h⟩ := h; wp_walk using wpAny_loadPart' h1, wpAny_load h1; exact ⟨_, rfl, h⟩
theorem deq_list (p : Addr) (es : Array DictEntry) (n : Nat) (dd : Option Addr) (sl : Array (Option Value)) (q : Addr) (zs : Array Value) (m : Nat) (de : Option Addr) (sm : Array (Option Value)) :
    Meets (Builtin.«dict.__eq__» ⟨[.ref p, .ref q], []⟩) (fun _ R s => s.heap.get? p = some (dO dd es n sl) ∧ s.heap.get? q = some (sO "list" de zs m sm) ∧ R (.ok (.ret .notImplemented)) s) :=
  .of_wp fun prog w A R s h => by obtain ⟨hp, g, d, tk, os⟩ := s; obtain ⟨h1, h2, h⟩ := h; have f1 := F.sub_list_dict; wp_walk using wpAny_loadPart' h1, wpAny_loadPart' h2; exact ⟨_, rfl, h⟩
theorem listeq_d (p : Addr) (es : Array DictEntry) (n : Nat) (dd : Option Addr) (sl : Array (Option Value)) (q : Addr) (zs : Array Value) (m : Nat) (de : Option Addr) (sm : Array (Option Value)) :
    Meets (Builtin.«list.__eq__» ⟨[.ref q, .ref p], []⟩) (fun _ R s => s.heap.get? p = some (dO dd es n sl) ∧ s.heap.get? q = some (sO "list" de zs m sm) ∧ R (.ok (.ret .notImplemented)) s) :=
  .of_wp fun prog w A R s h => by obtain ⟨hp, g, d, tk, os⟩ := s; obtain ⟨h1, h2, h⟩ := h; have f1 := F.sub_dict_list; wp_walk using wpAny_loadPart' h1, wpAny_load h1, wpAny_loadPart' h2; exact ⟨_, rfl, h⟩
theorem deq_tuple (p : Addr) (es : Array DictEntry) (n : Nat) (dd : Option Addr) (sl : Array (Option Value)) (q : Addr) (zs : Array Value) (m : Nat) (de : Option Addr) (sm : Array (Option Value)) :
    Meets (Builtin.«dict.__eq__» ⟨[.ref p, .ref q], []⟩) (fun _ R s => s.heap.get? p = some (dO dd es n sl) ∧ s.heap.get? q = some (sO "tuple" de zs m sm) ∧ R (.ok (.ret .notImplemented)) s) :=
  .of_wp fun prog w A R s h => by obtain ⟨hp, g, d, tk, os⟩ := s; obtain ⟨h1, h2, h⟩ := h; have f1 := F.sub_tuple_dict; wp_walk using wpAny_loadPart' h1, wpAny_loadPart' h2; exact ⟨_, rfl, h⟩
theorem tupleeq_d (p : Addr) (es : Array DictEntry) (n : Nat) (dd : Option Addr) (sl : Array (Option Value)) (q : Addr) (zs : Array Value) (m : Nat) (de : Option Addr) (sm : Array (Option Value)) :
    Meets (Builtin.«tuple.__eq__» ⟨[.ref q, .ref p], []⟩) (fun _ R s => s.heap.get? p = some (dO dd es n sl) ∧ s.heap.get? q = some (sO "tuple" de zs m sm) ∧ R (.ok (.ret .notImplemented)) s) :=
  .of_wp fun prog w A R s h => by obtain ⟨hp, g, d, tk, os⟩ := s; obtain ⟨h1, h2, h⟩ := h; have f1 := F.sub_dict_tuple; wp_walk using wpAny_loadPart' h1, wpAny_load h1, wpAny_loadPart' h2; exact ⟨_, rfl, h⟩
theorem dne_none (p : Addr) (es : Array DictEntry) (n : Nat) (dd : Option Addr) (sl : Array (Option Value)) :
    Meets (Builtin.«dict.__ne__» ⟨[.ref p, .none], []⟩) (fun _ R s => s.heap.get? p = some (dO dd es n sl) ∧ R (.ok (.ret .notImplemented)) s) :=
  .of_wp fun prog w A R s h => by obtain ⟨hp, g, d, tk, os⟩ := s; obtain ⟨h1, h⟩ := h; have f1 := F.sub_NoneType_dict; wp_walk using wpAny_loadPart' h1; exact ⟨_, rfl, h⟩
theorem nonene_d (p : Addr) (es : Array DictEntry) (n : Nat) (dd : Option Addr) (sl : Array (Option Value)) :
    Meets (Builtin.«NoneType.__ne__» ⟨[.none, .ref p], []⟩) (fun _ R s => s.heap.get? p = some (dO dd es n sl) ∧ R (.ok (.ret .notImplemented)) s) :=
  .of_wp fun prog w A R s h => by obtain ⟨hp, g, d, tk, os⟩ := s; obtain ⟨h1, h⟩ := h; wp_walk using wpAny_loadPart' h1, wpAny_load h1; exact ⟨_, rfl, h⟩
theorem dne_bool (p : Addr) (es : Array DictEntry) (n : Nat) (dd : Option Addr) (sl : Array (Option Value)) (y : Bool) :
    Meets (Builtin.«dict.__ne__» ⟨[.ref p, .bool y], []⟩) (fun _ R s => s.heap.get? p = some (dO dd es n sl) ∧ R (.ok (.ret .notImplemented)) s) :=
  .of_wp fun prog w A R s h => by obtain ⟨hp, g, d, tk, os⟩ := s; obtain ⟨h1, h⟩ := h; have f1 := F.sub_bool_dict; wp_walk using wpAny_loadPart' h1; exact ⟨_, rfl, h⟩
theorem boolne_d (p : Addr) (es : Array DictEntry) (n : Nat) (dd : Option Addr) (sl : Array (Option Value)) (y : Bool) :
    Meets (Builtin.«int.__ne__» ⟨[.bool y, .ref p], []⟩) (fun _ R s => s.heap.get? p = some (dO dd es n sl) ∧ R (.ok (.ret .notImplemented)) s) :=
  .of_wp fun prog w A R s h => by obtain ⟨hp, g, d, tk, os⟩ := s; obtain ⟨h1, h⟩ := h; wp_walk using wpAny_loadPart' h1, wpAny_load h1; exact ⟨_, rfl, h⟩
theorem dne_int (p : Addr) (es : Array DictEntry) (n : Nat) (dd : Option Addr) (sl : Array (Option Value)) (y : Int) (yt : Tok) :
    Meets (Builtin.«dict.__ne__» ⟨[.ref p, .int y yt], []⟩) (fun _ R s => s.heap.get? p = some (dO dd es n sl) ∧ R (.ok (.ret .notImplemented)) s) :=
  .of_wp fun prog w A R s h => by obtain ⟨hp, g, d, tk, os⟩ := s; obtain ⟨h1, h⟩ := h; have f1 := F.sub_int_dict; wp_walk using wpAny_loadPart' h1; exact ⟨_, rfl, h⟩
theorem intne_d (p : Addr) (es : Array DictEntry) (n : Nat) (dd : Option Addr) (sl : Array (Option Value)) (y : Int) (yt : Tok) :
    Meets (Builtin.«int.__ne__» ⟨[.int y yt, .ref p], []⟩) (fun _ R s => s.heap.get? p = some (dO dd es n sl) ∧ R (.ok (.ret .notImplemented)) s) :=
  .of_wp fun prog w A R s h => by obtain ⟨hp, g, d, tk, os⟩ := s; obtain ⟨h1, h⟩ := h; wp_walk using wpAny_loadPart' h1, wpAny_load h1; exact ⟨_, rfl, h⟩
theorem dne_str (p : Addr) (es : Array DictEntry) (n : Nat) (dd : Option Addr) (sl : Array (Option Value)) (y : Str) (yt : Tok) :
    Meets (Builtin.«dict.__ne__» ⟨[.ref p, .str y yt], []⟩) (fun _ R s => s.heap.get? p = some (dO dd es n sl) ∧ R (.ok (.ret .notImplemented)) s) :=
  .of_wp fun prog w A R s h => by obtain ⟨hp, g, d, tk, os⟩ := s; obtain ⟨h1, h⟩ := h; have f1 := F.sub_str_dict; wp_walk using wpAny_loadPart' h1; exact ⟨_, rfl, h⟩
theorem strne_d (p : Addr) (es : Array DictEntry) (n : Nat) (dd : Option Addr) (sl : Array (Option Value)) (y : Str) (yt : Tok) :
    Meets (Builtin.«str.__ne__» ⟨[.str y yt, .ref p], []⟩) (fun _ R s => s.heap.get? p = some (dO dd es n sl) ∧ R (.ok (.ret .notImplemented)) s) :=
  .of_wp fun prog w A R s h => by obtain ⟨hp, g, d, tk, os⟩ := s; obtain ⟨h1, h⟩ := h; wp_walk using wpAny_loadPart' h1, wpAny_load h1; exact ⟨_, rfl, h⟩
theorem dne_list (p : Addr) (es : Array DictEntry) (n : Nat) (dd : Option Addr) (sl : Array (Option Value)) (q : Addr) (zs : Array Value) (m : Nat) (de : Option Addr) (sm : Array (Option Value)) :
    Meets (Builtin.«dict.__ne__» ⟨[.ref p, .ref q], []⟩) (fun _ R s => s.heap.get? p = some (dO dd es n sl) ∧ s.heap.get? q = some (sO "list" de zs m sm) ∧ R (.ok (.ret .notImplemented)) s) :=
  .of_wp fun prog w A R s h => by obtain ⟨hp, g, d, tk, os⟩ := s; obtain ⟨h1, h2, h⟩ := h; have f1 := F.sub_list_dict; wp_walk using wpAny_loadPart' h1, wpAny_loadPart' h2; exact ⟨_, rfl, h⟩
theorem listne_d (p : Addr) (es : Array DictEntry) (n : Nat) (dd : Option Addr) (sl : Array (Option Value)) (q : Addr) (zs : Array Value) (m : Nat) (de : Option Addr) (sm : Array (Option Value)) :
    Meets (Builtin.«list.__ne__» ⟨[.ref q, .ref p], []⟩) (fun _ R s => s.heap.get? p = some (dO dd es n sl) ∧ s.heap.get? q = some (sO "list" de zs m sm) ∧ R (.ok (.ret .notImplemented)) s) :=
  .of_wp fun prog w A R s h => by obtain ⟨hp, g, d, tk, os⟩ := s; obtain ⟨h1, h2, h⟩ := h; have f1 := F.sub_dict_list; wp_walk using wpAny_loadPart' h1, wpAny_load h1, wpAny_loadPart' h2; exact ⟨_, rfl, h⟩
theorem dne_tuple (p : Addr) (es : Array DictEntry) (n : Nat) (dd : Option Addr) (sl : Array (Option Value)) (q : Addr) (zs : Array Value) (m : Nat) (de : Option Addr) (sm : Array (Option Value)) :
    Meets (Builtin.«dict.__ne__» ⟨[.ref p, .ref q], []⟩) (fun _ R s => s.heap.get? p = some (dO dd es n sl) ∧ s.heap.get? q = some (sO "tuple" de zs m sm) ∧ R (.ok (.ret .notImplemented)) s) :=
  .of_wp fun prog w A R s h => by obtain ⟨hp, g, d, tk, os⟩ := s; obtain ⟨h1, h2, h⟩ := h; have f1 := F.sub_tuple_dict; wp_walk using wpAny_loadPart' h1, wpAny_loadPart' h2; exact ⟨_, rfl, h⟩
theorem tuplene_d (p : Addr) (es : Array DictEntry) (n : Nat) (dd : Option Addr) (sl : Array (Option Value)) (q : Addr) (zs : Array Value) (m : Nat) (de : Option Addr) (sm : Array (Option Value)) :
    Meets (Builtin.«tuple.__ne__» ⟨[.ref q, .ref p], []⟩) (fun _ R s => s.heap.get? p = some (dO dd es n sl) ∧ s.heap.get? q = some (sO "tuple" de zs m sm) ∧ R (.ok (.ret .notImplemented)) s) :=
  .of_wp fun prog w A R s h => by obtain ⟨hp, g, d, tk, os⟩ := s; obtain ⟨h1, h2, h⟩ := h; have f1 := F.sub_dict_tuple; wp_walk using wpAny_loadPart' h1, wpAny_load h1, wpAny_loadPart' h2; exact ⟨_, rfl, h⟩
def IsD (h : Heap) (p : Addr) : Prop := ∃ dd es n sl, h.get? p = some (dO dd es n sl)
section
variable {A : Around} {s : Shared}
theorem RcAt_d_none {p : Addr} (hp : IsD s.heap p) (hu : A.units < cLine) : RcAt A s (.ref p) (.none) false := fun prog w E Q h => by
  obtain ⟨dd, es, n, sl, hd⟩ := hp
  exact rc_eq_decline_or (k := false) ⟨_, hd, rfl⟩ rfl (by decide) F.sub_NoneType_dict F.slot_dict_eq F.slot_NoneType_eq_refl
    (fun _ h5 => call_meets F.slot_dict_eq ⟨_, hd, rfl⟩ F.entry_dict_eq (F.args_dict_eq_2 _ _) (deq_none p es n dd sl) ⟨hd, h5⟩)
    (fun _ h5 => call_meets F.slot_NoneType_eq_refl rfl F.entry_NoneType_eq (F.args_NoneType_eq_2 _ _) (noneeq_d p es n dd sl) ⟨hd, h5⟩)
    (fun _ h5 => wpAny_of_eq (rfl : isSame (.ref p) (.none) = pure false) h5) (.inr hu) h
theorem RcAt_none_d {p : Addr} (hp : IsD s.heap p) (hu : A.units < cLine) : RcAt A s (.none) (.ref p) false := fun prog w E Q h => by
  obtain ⟨dd, es, n, sl, hd⟩ := hp
  exact rc_eq_decline_or (k := false) rfl ⟨_, hd, rfl⟩ (by decide) F.sub_dict_NoneType F.slot_NoneType_eq F.slot_dict_eq_refl
    (fun _ h5 => call_meets F.slot_NoneType_eq rfl F.entry_NoneType_eq (F.args_NoneType_eq_2 _ _) (noneeq_d p es n dd sl) ⟨hd, h5⟩)
    (fun _ h5 => call_meets F.slot_dict_eq_refl ⟨_, hd, rfl⟩ F.entry_dict_eq (F.args_dict_eq_2 _ _) (deq_none p es n dd sl) ⟨hd, h5⟩)
    (fun _ h5 => wpAny_of_eq (rfl : isSame (.none) (.ref p) = pure false) h5) (.inr hu) h
theorem RcAt_d_bool {p : Addr} (y : Bool) (hp : IsD s.heap p) (hu : A.units < cLine) : RcAt A s (.ref p) (.bool y) false := fun prog w E Q h => by
  obtain ⟨dd, es, n, sl, hd⟩ := hp
  exact rc_eq_decline_or (k := false) ⟨_, hd, rfl⟩ rfl (by decide) F.sub_bool_dict F.slot_dict_eq F.slot_bool_eq_refl
    (fun _ h5 => call_meets F.slot_dict_eq ⟨_, hd, rfl⟩ F.entry_dict_eq (F.args_dict_eq_2 _ _) (deq_bool p es n dd sl y) ⟨hd, h5⟩)
    (fun _ h5 => call_meets F.slot_bool_eq_refl rfl F.entry_int_eq (F.args_int_eq_2 _ _) (booleq_d p es n dd sl y) ⟨hd, h5⟩)
    (fun _ h5 => wpAny_of_eq (rfl : isSame (.ref p) (.bool y) = pure false) h5) (.inr hu) h
theorem RcAt_bool_d {p : Addr} (y : Bool) (hp : IsD s.heap p) (hu : A.units < cLine) : RcAt A s (.bool y) (.ref p) false := fun prog w E Q h => by
  obtain ⟨dd, es, n, sl, hd⟩ := hp
  exact rc_eq_decline_or (k := false) rfl ⟨_, hd, rfl⟩ (by decide) F.sub_dict_bool F.slot_bool_eq F.slot_dict_eq_refl
    (fun _ h5 => call_meets F.slot_bool_eq rfl F.entry_int_eq (F.args_int_eq_2 _ _) (booleq_d p es n dd sl y) ⟨hd, h5⟩)
    (fun _ h5 => call_meets F.slot_dict_eq_refl ⟨_, hd, rfl⟩ F.entry_dict_eq (F.args_dict_eq_2 _ _) (deq_bool p es n dd sl y) ⟨hd, h5⟩)
    (fun _ h5 => wpAny_of_eq (rfl : isSame (.bool y) (.ref p) = pure false) h5) (.inr hu) h
theorem RcAt_d_int {p : Addr} (y : Int) (yt : Tok) (hp : IsD s.heap p) (hu : A.units < cLine) : RcAt A s (.ref p) (.int y yt) false := fun prog w E Q h => by
  obtain ⟨dd, es, n, sl, hd⟩ := hp
  exact rc_eq_decline_or (k := false) ⟨_, hd, rfl⟩ (typeIs_int s y yt) (by decide) F.sub_int_dict F.slot_dict_eq F.slot_int_eq_refl
    (fun _ h5 => call_meets F.slot_dict_eq ⟨_, hd, rfl⟩ F.entry_dict_eq (F.args_dict_eq_2 _ _) (deq_int p es n dd sl y yt) ⟨hd, h5⟩)
    (fun _ h5 => call_meets F.slot_int_eq_refl (typeIs_int s y yt) F.entry_int_eq (F.args_int_eq_2 _ _) (inteq_d p es n dd sl y yt) ⟨hd, h5⟩)
    (fun _ h5 => wpAny_of_eq (rfl : isSame (.ref p) (.int y yt) = pure false) h5) (.inr hu) h
theorem RcAt_int_d {p : Addr} (y : Int) (yt : Tok) (hp : IsD s.heap p) (hu : A.units < cLine) : RcAt A s (.int y yt) (.ref p) false := fun prog w E Q h => by
  obtain ⟨dd, es, n, sl, hd⟩ := hp
  exact rc_eq_decline_or (k := false) (typeIs_int s y yt) ⟨_, hd, rfl⟩ (by decide) F.sub_dict_int F.slot_int_eq F.slot_dict_eq_refl
    (fun _ h5 => call_meets F.slot_int_eq (typeIs_int s y yt) F.entry_int_eq (F.args_int_eq_2 _ _) (inteq_d p es n dd sl y yt) ⟨hd, h5⟩)
    (fun _ h5 => call_meets F.slot_dict_eq_refl ⟨_, hd, rfl⟩ F.entry_dict_eq (F.args_dict_eq_2 _ _) (deq_int p es n dd sl y yt) ⟨hd, h5⟩)
    (fun _ h5 => wpAny_of_eq (rfl : isSame (.int y yt) (.ref p) = pure false) h5) (.inr hu) h
theorem RcAt_d_str {p : Addr} (y : Str) (yt : Tok) (hp : IsD s.heap p) (hu : A.units < cLine) : RcAt A s (.ref p) (.str y yt) false := fun prog w E Q h => by
  obtain ⟨dd, es, n, sl, hd⟩ := hp
  exact rc_eq_decline_or (k := false) ⟨_, hd, rfl⟩ (typeIs_str s y yt) (by decide) F.sub_str_dict F.slot_dict_eq F.slot_str_eq_refl
    (fun _ h5 => call_meets F.slot_dict_eq ⟨_, hd, rfl⟩ F.entry_dict_eq (F.args_dict_eq_2 _ _) (deq_str p es n dd sl y yt) ⟨hd, h5⟩)
    (fun _ h5 => call_meets F.slot_str_eq_refl (typeIs_str s y yt) F.entry_str_eq (F.args_str_eq_2 _ _) (streq_d p es n dd sl y yt) ⟨hd, h5⟩)
    (fun _ h5 => wpAny_of_eq (rfl : isSame (.ref p) (.str y yt) = pure false) h5) (.inr hu) h
theorem RcAt_str_d {p : Addr} (y : Str) (yt : Tok) (hp : IsD s.heap p) (hu : A.units < cLine) : RcAt A s (.str y yt) (.ref p) false := fun prog w E Q h => by
  obtain ⟨dd, es, n, sl, hd⟩ := hp
  exact rc_eq_decline_or (k := false) (typeIs_str s y yt) ⟨_, hd, rfl⟩ (by decide) F.sub_dict_str F.slot_str_eq F.slot_dict_eq_refl
    (fun _ h5 => call_meets F.slot_str_eq (typeIs_str s y yt) F.entry_str_eq (F.args_str_eq_2 _ _) (streq_d p es n dd sl y yt) ⟨hd, h5⟩)
    (fun _ h5 => call_meets F.slot_dict_eq_refl ⟨_, hd, rfl⟩ F.entry_dict_eq (F.args_dict_eq_2 _ _) (deq_str p es n dd sl y yt) ⟨hd, h5⟩)
    (fun _ h5 => wpAny_of_eq (rfl : isSame (.str y yt) (.ref p) = pure false) h5) (.inr hu) h
theorem RcAt_d_list {p : Addr} {q : Addr} {zs : Array Value} (hz : s.heap.IsList q zs) (hp : IsD s.heap p) (hu : A.units < cLine) : RcAt A s (.ref p) (.ref q) false := fun prog w E Q h => by
  obtain ⟨dd, es, n, sl, hd⟩ := hp
  have hpq : p ≠ q := fun e => by
    subst e
    obtain ⟨ob, e1, e2, _⟩ := hz
    rw [hd] at e1
    cases e1
    exact absurd (show (Value.type "dict") = .type "list" from e2) (by simp)
  obtain ⟨⟨cl, de, da, sm⟩, hq, hc, m, hm⟩ := id hz
  simp only at hc hm
  subst hc hm
  exact rc_eq_decline_or (k := false) ⟨_, hd, rfl⟩ ⟨_, hq, rfl⟩ (by decide) F.sub_list_dict F.slot_dict_eq F.slot_list_eq_refl
    (fun _ h5 => call_meets F.slot_dict_eq ⟨_, hd, rfl⟩ F.entry_dict_eq (F.args_dict_eq_2 _ _) (deq_list p es n dd sl q zs m de sm) ⟨hd, hq, h5⟩)
    (fun _ h5 => call_meets F.slot_list_eq_refl ⟨_, hq, rfl⟩ F.entry_list_eq (F.args_list_eq_2 _ _) (listeq_d p es n dd sl q zs m de sm) ⟨hd, hq, h5⟩)
    (fun _ h5 => wpAny_isSame_ref_other' hpq hd hq (by simp) h5) (.inr hu) h
theorem RcAt_list_d {p : Addr} {q : Addr} {zs : Array Value} (hz : s.heap.IsList q zs) (hp : IsD s.heap p) (hu : A.units < cLine) : RcAt A s (.ref q) (.ref p) false := fun prog w E Q h => by
  obtain ⟨dd, es, n, sl, hd⟩ := hp
  have hpq : p ≠ q := fun e => by
    subst e
    obtain ⟨ob, e1, e2, _⟩ := hz
    rw [hd] at e1
    cases e1
    exact absurd (show (Value.type "dict") = .type "list" from e2) (by simp)
  obtain ⟨⟨cl, de, da, sm⟩, hq, hc, m, hm⟩ := id hz
  simp only at hc hm
  subst hc hm
  exact rc_eq_decline_or (k := false) ⟨_, hq, rfl⟩ ⟨_, hd, rfl⟩ (by decide) F.sub_dict_list F.slot_list_eq F.slot_dict_eq_refl
    (fun _ h5 => call_meets F.slot_list_eq ⟨_, hq, rfl⟩ F.entry_list_eq (F.args_list_eq_2 _ _) (listeq_d p es n dd sl q zs m de sm) ⟨hd, hq, h5⟩)
    (fun _ h5 => call_meets F.slot_dict_eq_refl ⟨_, hd, rfl⟩ F.entry_dict_eq (F.args_dict_eq_2 _ _) (deq_list p es n dd sl q zs m de sm) ⟨hd, hq, h5⟩)
    (fun _ h5 => wpAny_isSame_ref_other' (Ne.symm hpq) hq hd (by simp) h5) (.inr hu) h
theorem RcAt_d_tuple {p : Addr} {q : Addr} {zs : Array Value} (hz : s.heap.IsTuple q zs) (hp : IsD s.heap p) (hu : A.units < cLine) : RcAt A s (.ref p) (.ref q) false := fun prog w E Q h => by
  obtain ⟨dd, es, n, sl, hd⟩ := hp
  have hpq : p ≠ q := fun e => by
    subst e
    obtain ⟨ob, e1, e2, _⟩ := hz
    rw [hd] at e1
    cases e1
    exact absurd (show (Value.type "dict") = .type "tuple" from e2) (by simp)
  obtain ⟨⟨cl, de, da, sm⟩, hq, hc, m, hm⟩ := id hz
  simp only at hc hm
  subst hc hm
  exact rc_eq_decline_or (k := false) ⟨_, hd, rfl⟩ ⟨_, hq, rfl⟩ (by decide) F.sub_tuple_dict F.slot_dict_eq F.slot_tuple_eq_refl
    (fun _ h5 => call_meets F.slot_dict_eq ⟨_, hd, rfl⟩ F.entry_dict_eq (F.args_dict_eq_2 _ _) (deq_tuple p es n dd sl q zs m de sm) ⟨hd, hq, h5⟩)
    (fun _ h5 => call_meets F.slot_tuple_eq_refl ⟨_, hq, rfl⟩ F.entry_tuple_eq (F.args_tuple_eq_2 _ _) (tupleeq_d p es n dd sl q zs m de sm) ⟨hd, hq, h5⟩)
    (fun _ h5 => wpAny_isSame_ref_other hpq hd hq (by simp) h5) (.inr hu) h
theorem RcAt_tuple_d {p : Addr} {q : Addr} {zs : Array Value} (hz : s.heap.IsTuple q zs) (hp : IsD s.heap p) (hu : A.units < cLine) : RcAt A s (.ref q) (.ref p) false := fun prog w E Q h => by
  obtain ⟨dd, es, n, sl, hd⟩ := hp
  have hpq : p ≠ q := fun e => by
    subst e
    obtain ⟨ob, e1, e2, _⟩ := hz
    rw [hd] at e1
    cases e1
    exact absurd (show (Value.type "dict") = .type "tuple" from e2) (by simp)
  obtain ⟨⟨cl, de, da, sm⟩, hq, hc, m, hm⟩ := id hz
  simp only at hc hm
  subst hc hm
  exact rc_eq_decline_or (k := false) ⟨_, hq, rfl⟩ ⟨_, hd, rfl⟩ (by decide) F.sub_dict_tuple F.slot_tuple_eq F.slot_dict_eq_refl
    (fun _ h5 => call_meets F.slot_tuple_eq ⟨_, hq, rfl⟩ F.entry_tuple_eq (F.args_tuple_eq_2 _ _) (tupleeq_d p es n dd sl q zs m de sm) ⟨hd, hq, h5⟩)
    (fun _ h5 => call_meets F.slot_dict_eq_refl ⟨_, hd, rfl⟩ F.entry_dict_eq (F.args_dict_eq_2 _ _) (deq_tuple p es n dd sl q zs m de sm) ⟨hd, hq, h5⟩)
    (fun _ h5 => wpAny_isSame_ref_other' (Ne.symm hpq) hq hd (by simp) h5) (.inr hu) h
theorem RcNeAt_d_none {p : Addr} (hp : IsD s.heap p) (hu : A.units < cLine) : RcNeAt A s (.ref p) (.none) true := fun prog w E Q h => by
  obtain ⟨dd, es, n, sl, hd⟩ := hp
  exact rc_ne_decline_or (k := false) ⟨_, hd, rfl⟩ rfl (by decide) F.sub_NoneType_dict F.slot_dict_ne F.slot_NoneType_ne_refl
    (fun _ h5 => call_meets F.slot_dict_ne ⟨_, hd, rfl⟩ F.entry_dict_ne (F.args_dict_ne_2 _ _) (dne_none p es n dd sl) ⟨hd, h5⟩)
    (fun _ h5 => call_meets F.slot_NoneType_ne_refl rfl F.entry_NoneType_ne (F.args_NoneType_ne_2 _ _) (nonene_d p es n dd sl) ⟨hd, h5⟩)
    (fun _ h5 => wpAny_of_eq (rfl : isSame (.ref p) (.none) = pure false) h5) (.inr hu) h
theorem RcNeAt_none_d {p : Addr} (hp : IsD s.heap p) (hu : A.units < cLine) : RcNeAt A s (.none) (.ref p) true := fun prog w E Q h => by
  obtain ⟨dd, es, n, sl, hd⟩ := hp
  exact rc_ne_decline_or (k := false) rfl ⟨_, hd, rfl⟩ (by decide) F.sub_dict_NoneType F.slot_NoneType_ne F.slot_dict_ne_refl
    (fun _ h5 => call_meets F.slot_NoneType_ne rfl F.entry_NoneType_ne (F.args_NoneType_ne_2 _ _) (nonene_d p es n dd sl) ⟨hd, h5⟩)
    (fun _ h5 => call_meets F.slot_dict_ne_refl ⟨_, hd, rfl⟩ F.entry_dict_ne (F.args_dict_ne_2 _ _) (dne_none p es n dd sl) ⟨hd, h5⟩)
    (fun _ h5 => wpAny_of_eq (rfl : isSame (.none) (.ref p) = pure false) h5) (.inr hu) h
theorem RcNeAt_d_bool {p : Addr} (y : Bool) (hp : IsD s.heap p) (hu : A.units < cLine) : RcNeAt A s (.ref p) (.bool y) true := fun prog w E Q h => by
  obtain ⟨dd, es, n, sl, hd⟩ := hp
  exact rc_ne_decline_or (k := false) ⟨_, hd, rfl⟩ rfl (by decide) F.sub_bool_dict F.slot_dict_ne F.slot_bool_ne_refl
    (fun _ h5 => call_meets F.slot_dict_ne ⟨_, hd, rfl⟩ F.entry_dict_ne (F.args_dict_ne_2 _ _) (dne_bool p es n dd sl y) ⟨hd, h5⟩)
    (fun _ h5 => call_meets F.slot_bool_ne_refl rfl F.entry_int_ne (F.args_int_ne_2 _ _) (boolne_d p es n dd sl y) ⟨hd, h5⟩)
    (fun _ h5 => wpAny_of_eq (rfl : isSame (.ref p) (.bool y) = pure false) h5) (.inr hu) h
theorem RcNeAt_bool_d {p : Addr} (y : Bool) (hp : IsD s.heap p) (hu : A.units < cLine) : RcNeAt A s (.bool y) (.ref p) true := fun prog w E Q h => by
  obtain ⟨dd, es, n, sl, hd⟩ := hp
  exact rc_ne_decline_or (k := false) rfl ⟨_, hd, rfl⟩ (by decide) F.sub_dict_bool F.slot_bool_ne F.slot_dict_ne_refl
    (fun _ h5 => call_meets F.slot_bool_ne rfl F.entry_int_ne (F.args_int_ne_2 _ _) (boolne_d p es n dd sl y) ⟨hd, h5⟩)
    (fun _ h5 => call_meets F.slot_dict_ne_refl ⟨_, hd, rfl⟩ F.entry_dict_ne (F.args_dict_ne_2 _ _) (dne_bool p es n dd sl y) ⟨hd, h5⟩)
    (fun _ h5 => wpAny_of_eq (rfl : isSame (.bool y) (.ref p) = pure false) h5) (.inr hu) h
theorem RcNeAt_d_int {p : Addr} (y : Int) (yt : Tok) (hp : IsD s.heap p) (hu : A.units < cLine) : RcNeAt A s (.ref p) (.int y yt) true := fun prog w E Q h => by
  obtain ⟨dd, es, n, sl, hd⟩ := hp
  exact rc_ne_decline_or (k := false) ⟨_, hd, rfl⟩ (typeIs_int s y yt) (by decide) F.sub_int_dict F.slot_dict_ne F.slot_int_ne_refl
    (fun _ h5 => call_meets F.slot_dict_ne ⟨_, hd, rfl⟩ F.entry_dict_ne (F.args_dict_ne_2 _ _) (dne_int p es n dd sl y yt) ⟨hd, h5⟩)
    (fun _ h5 => call_meets F.slot_int_ne_refl (typeIs_int s y yt) F.entry_int_ne (F.args_int_ne_2 _ _) (intne_d p es n dd sl y yt) ⟨hd, h5⟩)
    (fun _ h5 => wpAny_of_eq (rfl : isSame (.ref p) (.int y yt) = pure false) h5) (.inr hu) h
theorem RcNeAt_int_d {p : Addr} (y : Int) (yt : Tok) (hp : IsD s.heap p) (hu : A.units < cLine) : RcNeAt A s (.int y yt) (.ref p) true := fun prog w E Q h => by
  obtain ⟨dd, es, n, sl, hd⟩ := hp
  exact rc_ne_decline_or (k := false) (typeIs_int s y yt) ⟨_, hd, rfl⟩ (by decide) F.sub_dict_int F.slot_int_ne F.slot_dict_ne_refl
    (fun _ h5 => call_meets F.slot_int_ne (typeIs_int s y yt) F.entry_int_ne (F.args_int_ne_2 _ _) (intne_d p es n dd sl y yt) ⟨hd, h5⟩)
    (fun _ h5 => call_meets F.slot_dict_ne_refl ⟨_, hd, rfl⟩ F.entry_dict_ne (F.args_dict_ne_2 _ _) (dne_int p es n dd sl y yt) ⟨hd, h5⟩)
    (fun _ h5 => wpAny_of_eq (rfl : isSame (.int y yt) (.ref p) = pure false) h5) (.inr hu) h
theorem RcNeAt_d_str {p : Addr} (y : Str) (yt : Tok) (hp : IsD s.heap p) (hu : A.units < cLine) : RcNeAt A s (.ref p) (.str y yt) true := fun prog w E Q h => by
  obtain ⟨dd, es, n, sl, hd⟩ := hp
  exact rc_ne_decline_or (k := false) ⟨_, hd, rfl⟩ (typeIs_str s y yt) (by decide) F.sub_str_dict F.slot_dict_ne F.slot_str_ne_refl
    (fun _ h5 => call_meets F.slot_dict_ne ⟨_, hd, rfl⟩ F.entry_dict_ne (F.args_dict_ne_2 _ _) (dne_str p es n dd sl y yt) ⟨hd, h5⟩)
    (fun _ h5 => call_meets F.slot_str_ne_refl (typeIs_str s y yt) F.entry_str_ne (F.args_str_ne_2 _ _) (strne_d p es n dd sl y yt) ⟨hd, h5⟩)
    (fun _ h5 => wpAny_of_eq (rfl : isSame (.ref p) (.str y yt) = pure false) h5) (.inr hu) h
theorem RcNeAt_str_d {p : Addr} (y : Str) (yt : Tok) (hp : IsD s.heap p) (hu : A.units < cLine) : RcNeAt A s (.str y yt) (.ref p) true := fun prog w E Q h => by
  obtain ⟨dd, es, n, sl, hd⟩ := hp
  exact rc_ne_decline_or (k := false) (typeIs_str s y yt) ⟨_, hd, rfl⟩ (by decide) F.sub_dict_str F.slot_str_ne F.slot_dict_ne_refl
    (fun _ h5 => call_meets F.slot_str_ne (typeIs_str s y yt) F.entry_str_ne (F.args_str_ne_2 _ _) (strne_d p es n dd sl y yt) ⟨hd, h5⟩)
    (fun _ h5 => call_meets F.slot_dict_ne_refl ⟨_, hd, rfl⟩ F.entry_dict_ne (F.args_dict_ne_2 _ _) (dne_str p es n dd sl y yt) ⟨hd, h5⟩)
    (fun _ h5 => wpAny_of_eq (rfl : isSame (.str y yt) (.ref p) = pure false) h5) (.inr hu) h
theorem RcNeAt_d_list {p : Addr} {q : Addr} {zs : Array Value} (hz : s.heap.IsList q zs) (hp : IsD s.heap p) (hu : A.units < cLine) : RcNeAt A s (.ref p) (.ref q) true := fun prog w E Q h => by
  obtain ⟨dd, es, n, sl, hd⟩ := hp
  have hpq : p ≠ q := fun e => by
    subst e
    obtain ⟨ob, e1, e2, _⟩ := hz
    rw [hd] at e1
    cases e1
    exact absurd (show (Value.type "dict") = .type "list" from e2) (by simp)
  obtain ⟨⟨cl, de, da, sm⟩, hq, hc, m, hm⟩ := id hz
  simp only at hc hm
  subst hc hm
  exact rc_ne_decline_or (k := false) ⟨_, hd, rfl⟩ ⟨_, hq, rfl⟩ (by decide) F.sub_list_dict F.slot_dict_ne F.slot_list_ne_refl
    (fun _ h5 => call_meets F.slot_dict_ne ⟨_, hd, rfl⟩ F.entry_dict_ne (F.args_dict_ne_2 _ _) (dne_list p es n dd sl q zs m de sm) ⟨hd, hq, h5⟩)
    (fun _ h5 => call_meets F.slot_list_ne_refl ⟨_, hq, rfl⟩ F.entry_list_ne (F.args_list_ne_2 _ _) (listne_d p es n dd sl q zs m de sm) ⟨hd, hq, h5⟩)
    (fun _ h5 => wpAny_isSame_ref_other' hpq hd hq (by simp) h5) (.inr hu) h
theorem RcNeAt_list_d {p : Addr} {q : Addr} {zs : Array Value} (hz : s.heap.IsList q zs) (hp : IsD s.heap p) (hu : A.units < cLine) : RcNeAt A s (.ref q) (.ref p) true := fun prog w E Q h => by
  obtain ⟨dd, es, n, sl, hd⟩ := hp
  have hpq : p ≠ q := fun e => by
    subst e
    obtain ⟨ob, e1, e2, _⟩ := hz
    rw [hd] at e1
    cases e1
    exact absurd (show (Value.type "dict") = .type "list" from e2) (by simp)
  obtain ⟨⟨cl, de, da, sm⟩, hq, hc, m, hm⟩ := id hz
  simp only at hc hm
  subst hc hm
  exact rc_ne_decline_or (k := false) ⟨_, hq, rfl⟩ ⟨_, hd, rfl⟩ (by decide) F.sub_dict_list F.slot_list_ne F.slot_dict_ne_refl
    (fun _ h5 => call_meets F.slot_list_ne ⟨_, hq, rfl⟩ F.entry_list_ne (F.args_list_ne_2 _ _) (listne_d p es n dd sl q zs m de sm) ⟨hd, hq, h5⟩)
    (fun _ h5 => call_meets F.slot_dict_ne_refl ⟨_, hd, rfl⟩ F.entry_dict_ne (F.args_dict_ne_2 _ _) (dne_list p es n dd sl q zs m de sm) ⟨hd, hq, h5⟩)
    (fun _ h5 => wpAny_isSame_ref_other' (Ne.symm hpq) hq hd (by simp) h5) (.inr hu) h
theorem RcNeAt_d_tuple {p : Addr} {q : Addr} {zs : Array Value} (hz : s.heap.IsTuple q zs) (hp : IsD s.heap p) (hu : A.units < cLine) : RcNeAt A s (.ref p) (.ref q) true := fun prog w E Q h => by
  obtain ⟨dd, es, n, sl, hd⟩ := hp
  have hpq : p ≠ q := fun e => by
    subst e
    obtain ⟨ob, e1, e2, _⟩ := hz
    rw [hd] at e1
    cases e1
    exact absurd (show (Value.type "dict") = .type "tuple" from e2) (by simp)
  obtain ⟨⟨cl, de, da, sm⟩, hq, hc, m, hm⟩ := id hz
  simp only at hc hm
  subst hc hm
  exact rc_ne_decline_or (k := false) ⟨_, hd, rfl⟩ ⟨_, hq, rfl⟩ (by decide) F.sub_tuple_dict F.slot_dict_ne F.slot_tuple_ne_refl
    (fun _ h5 => call_meets F.slot_dict_ne ⟨_, hd, rfl⟩ F.entry_dict_ne (F.args_dict_ne_2 _ _) (dne_tuple p es n dd sl q zs m de sm) ⟨hd, hq, h5⟩)
    (fun _ h5 => call_meets F.slot_tuple_ne_refl ⟨_, hq, rfl⟩ F.entry_tuple_ne (F.args_tuple_ne_2 _ _) (tuplene_d p es n dd sl q zs m de sm) ⟨hd, hq, h5⟩)
    (fun _ h5 => wpAny_isSame_ref_other hpq hd hq (by simp) h5) (.inr hu) h
theorem RcNeAt_tuple_d {p : Addr} {q : Addr} {zs : Array Value} (hz : s.heap.IsTuple q zs) (hp : IsD s.heap p) (hu : A.units < cLine) : RcNeAt A s (.ref q) (.ref p) true := fun prog w E Q h => by
  obtain ⟨dd, es, n, sl, hd⟩ := hp
  have hpq : p ≠ q := fun e => by
    subst e
    obtain ⟨ob, e1, e2, _⟩ := hz
    rw [hd] at e1
    cases e1
    exact absurd (show (Value.type "dict") = .type "tuple" from e2) (by simp)
  obtain ⟨⟨cl, de, da, sm⟩, hq, hc, m, hm⟩ := id hz
  simp only at hc hm
  subst hc hm
  exact rc_ne_decline_or (k := false) ⟨_, hq, rfl⟩ ⟨_, hd, rfl⟩ (by decide) F.sub_dict_tuple F.slot_tuple_ne F.slot_dict_ne_refl
    (fun _ h5 => call_meets F.slot_tuple_ne ⟨_, hq, rfl⟩ F.entry_tuple_ne (F.args_tuple_ne_2 _ _) (tuplene_d p es n dd sl q zs m de sm) ⟨hd, hq, h5⟩)
    (fun _ h5 => call_meets F.slot_dict_ne_refl ⟨_, hd, rfl⟩ F.entry_dict_ne (F.args_dict_ne_2 _ _) (dne_tuple p es n dd sl q zs m de sm) ⟨hd, hq, h5⟩)
    (fun _ h5 => wpAny_isSame_ref_other' (Ne.symm hpq) hq hd (by simp) h5) (.inr hu) h
theorem EqAt_d_none {p : Addr} (hp : IsD s.heap p) (hu : A.units < cLine) : EqAt A s (.ref p) (.none) false := fun prog w E Q h5 => by
  unfold eqBool
  refine wpAny_holding ?_
  refine wpAny_ite_split (fun e => absurd (eq_of_beq e) nofun) (fun _ => ?_)
  exact wpAny_bind (RcAt_d_none hp hu prog w E _ (wpAny_truthy_bool h5))
theorem EqAt_none_d {p : Addr} (hp : IsD s.heap p) (hu : A.units < cLine) : EqAt A s (.none) (.ref p) false := fun prog w E Q h5 => by
  unfold eqBool
  refine wpAny_holding ?_
  refine wpAny_ite_split (fun e => absurd (eq_of_beq e) nofun) (fun _ => ?_)
  exact wpAny_bind (RcAt_none_d hp hu prog w E _ (wpAny_truthy_bool h5))
theorem EqAt_d_bool {p : Addr} (y : Bool) (hp : IsD s.heap p) (hu : A.units < cLine) : EqAt A s (.ref p) (.bool y) false := fun prog w E Q h5 => by
  unfold eqBool
  refine wpAny_holding ?_
  refine wpAny_ite_split (fun e => absurd (eq_of_beq e) nofun) (fun _ => ?_)
  exact wpAny_bind (RcAt_d_bool y hp hu prog w E _ (wpAny_truthy_bool h5))
theorem EqAt_bool_d {p : Addr} (y : Bool) (hp : IsD s.heap p) (hu : A.units < cLine) : EqAt A s (.bool y) (.ref p) false := fun prog w E Q h5 => by
  unfold eqBool
  refine wpAny_holding ?_
  refine wpAny_ite_split (fun e => absurd (eq_of_beq e) nofun) (fun _ => ?_)
  exact wpAny_bind (RcAt_bool_d y hp hu prog w E _ (wpAny_truthy_bool h5))
theorem EqAt_d_int {p : Addr} (y : Int) (yt : Tok) (hp : IsD s.heap p) (hu : A.units < cLine) : EqAt A s (.ref p) (.int y yt) false := fun prog w E Q h5 => by
  unfold eqBool
  refine wpAny_holding ?_
  refine wpAny_ite_split (fun e => absurd (eq_of_beq e) nofun) (fun _ => ?_)
  exact wpAny_bind (RcAt_d_int y yt hp hu prog w E _ (wpAny_truthy_bool h5))
theorem EqAt_int_d {p : Addr} (y : Int) (yt : Tok) (hp : IsD s.heap p) (hu : A.units < cLine) : EqAt A s (.int y yt) (.ref p) false := fun prog w E Q h5 => by
  unfold eqBool
  refine wpAny_holding ?_
  refine wpAny_ite_split (fun e => absurd (eq_of_beq e) nofun) (fun _ => ?_)
  exact wpAny_bind (RcAt_int_d y yt hp hu prog w E _ (wpAny_truthy_bool h5))
theorem EqAt_d_str {p : Addr} (y : Str) (yt : Tok) (hp : IsD s.heap p) (hu : A.units < cLine) : EqAt A s (.ref p) (.str y yt) false := fun prog w E Q h5 => by
  unfold eqBool
  refine wpAny_holding ?_
  refine wpAny_ite_split (fun e => absurd (eq_of_beq e) nofun) (fun _ => ?_)
  exact wpAny_bind (RcAt_d_str y yt hp hu prog w E _ (wpAny_truthy_bool h5))
theorem EqAt_str_d {p : Addr} (y : Str) (yt : Tok) (hp : IsD s.heap p) (hu : A.units < cLine) : EqAt A s (.str y yt) (.ref p) false := fun prog w E Q h5 => by
  unfold eqBool
  refine wpAny_holding ?_
  refine wpAny_ite_split (fun e => absurd (eq_of_beq e) nofun) (fun _ => ?_)
  exact wpAny_bind (RcAt_str_d y yt hp hu prog w E _ (wpAny_truthy_bool h5))
theorem ne_d_list {p : Addr} {q : Addr} {zs : Array Value} (hz : s.heap.IsList q zs) (hp : IsD s.heap p) : p ≠ q := fun e => by
  subst e
  obtain ⟨dd, es, n, sl, hd⟩ := hp
  obtain ⟨ob, e1, e2, _⟩ := hz
  rw [hd] at e1
  cases e1
  exact absurd (show (Value.type "dict") = .type "list" from e2) (by simp)
theorem EqAt_d_list {p : Addr} {q : Addr} {zs : Array Value} (hz : s.heap.IsList q zs) (hp : IsD s.heap p) (hu : A.units < cLine) : EqAt A s (.ref p) (.ref q) false := .of_refs (ne_d_list hz hp) (RcAt_d_list hz hp hu)
theorem EqAt_list_d {p : Addr} {q : Addr} {zs : Array Value} (hz : s.heap.IsList q zs) (hp : IsD s.heap p) (hu : A.units < cLine) : EqAt A s (.ref q) (.ref p) false := .of_refs (Ne.symm (ne_d_list hz hp)) (RcAt_list_d hz hp hu)
theorem ne_d_tuple {p : Addr} {q : Addr} {zs : Array Value} (hz : s.heap.IsTuple q zs) (hp : IsD s.heap p) : p ≠ q := fun e => by
  subst e
  obtain ⟨dd, es, n, sl, hd⟩ := hp
  obtain ⟨ob, e1, e2, _⟩ := hz
  rw [hd] at e1
  cases e1
  exact absurd (show (Value.type "dict") = .type "tuple" from e2) (by simp)
theorem EqAt_d_tuple {p : Addr} {q : Addr} {zs : Array Value} (hz : s.heap.IsTuple q zs) (hp : IsD s.heap p) (hu : A.units < cLine) : EqAt A s (.ref p) (.ref q) false := .of_refs (ne_d_tuple hz hp) (RcAt_d_tuple hz hp hu)
theorem EqAt_tuple_d {p : Addr} {q : Addr} {zs : Array Value} (hz : s.heap.IsTuple q zs) (hp : IsD s.heap p) (hu : A.units < cLine) : EqAt A s (.ref q) (.ref p) false := .of_refs (Ne.symm (ne_d_tuple hz hp)) (RcAt_tuple_d hz hp hu)
end
end Em
end Dl
namespace Dl
open PySem PySem.Spec PyProof.Rows L2 NdefX
namespace Em
open PySem.SeqAt MeetsSeq
mutual
theorem lay_of : ∀ d : D, d.okS = true → d.dep < bigD → PyData.canLay0 d.py = true
  | .non, _, _ => rfl
  | .bl _, _, _ => rfl
  | .int _, _, _ => rfl
  | .str _, h, _ => h
  | .dic _, _, h => absurd h (Nat.lt_irrefl _)
  | .lst l, h, hd => lay_ofL l h (by have : D.depL l + 1 < bigD := hd; omega)
  | .tup l, h, hd => lay_ofL l h (by have : D.depL l + 1 < bigD := hd; omega)
theorem lay_ofL : ∀ l : List D, D.okSL l = true → D.depL l < bigD → PyData.canLayAll0 (D.pyAll l) = true
  | [], _, _ => rfl
  | d :: l, h, hd => by
    have h' : d.okS = true ∧ D.okSL l = true := by simpa [D.okSL] using h
    have hd' : max d.dep (D.depL l) < bigD := hd
    show (PyData.canLay0 d.py && PyData.canLayAll0 (D.pyAll l)) = true
    rw [lay_of d h'.1 (by omega), lay_ofL l h'.2 (by omega)]
    rfl
end
theorem isD_of {h : Heap} {p : Addr} {as : List Addr} {kvs : List (PyData × PyData)} (r : Reads h (.ref p) (.dict kvs) as) : IsD h p := by
  generalize hk : ([] : List (PyData × PyData)) = kvs at r
  cases r with
  | @dict _ ob es n _ _ _ e1 e2 e3 e4 e5 =>
    obtain ⟨cl, dd, da, sl⟩ := ob
    simp only at e2 e3
    subst e2 e3
    exact ⟨dd, es, n, sl, e1⟩
theorem isL_of {h : Heap} {v : Value} {xs : List PyData} {as : List Addr} (r : Reads h v (.list xs) as) : ∃ l vs bs, v = .ref l ∧ h.IsList l vs ∧ ReadsAll h vs.toList xs bs := by
  cases r with
  | list h1 h2 h3 h4 => exact ⟨_, _, _, rfl, ⟨_, h1, h2, _, h3⟩, h4⟩
theorem isT_of {h : Heap} {v : Value} {xs : List PyData} {as : List Addr} (r : Reads h v (.tuple xs) as) : ∃ l vs bs, v = .ref l ∧ h.IsTuple l vs ∧ ReadsAll h vs.toList xs bs := by
  cases r with
  | tuple h1 h2 h3 h4 => exact ⟨_, _, _, rfl, ⟨_, h1, h2, _, h3⟩, h4⟩
theorem isD_of' {h : Heap} {v : Value} {as : List Addr} {kvs : List (PyData × PyData)} (r : Reads h v (.dict kvs) as) : ∃ p, v = .ref p ∧ IsD h p := by
  cases v with
  | ref p => exact ⟨p, rfl, isD_of r⟩
  | _ => cases r
mutual
theorem eqD : ∀ (d e : D) (A : Around) (s : Shared) (a b : Value) (as bs : List Addr), Reads s.heap a d.py as → Reads s.heap b e.py bs → d.okS = true → e.okS = true → (d.dep < bigD ∨ e.dep < bigD) → A.units + min d.py.depth e.py.depth < cLine → EqAt A s a b (PyData.eqv d.py e.py) := by
  intro d e A s a b as bs ra rb hd he_ hs hu
  by_cases hb : d.dep < bigD ∧ e.dep < bigD
  · exact eqAt_reads d.py e.py A s a b as bs ra rb (lay_of d hd hb.1) (lay_of e he_ hb.2) hu
  have ru := room_here hu
  match d, e with
  | .non, .non => exact absurd ⟨(show (0 : Nat) < bigD by decide), (show (0 : Nat) < bigD by decide)⟩ hb
  | .non, .bl z => exact absurd ⟨(show (0 : Nat) < bigD by decide), (show (0 : Nat) < bigD by decide)⟩ hb
  | .non, .int z => exact absurd ⟨(show (0 : Nat) < bigD by decide), (show (0 : Nat) < bigD by decide)⟩ hb
  | .non, .str z => exact absurd ⟨(show (0 : Nat) < bigD by decide), (show (0 : Nat) < bigD by decide)⟩ hb
  | .bl y, .non => exact absurd ⟨(show (0 : Nat) < bigD by decide), (show (0 : Nat) < bigD by decide)⟩ hb
  | .bl y, .bl z => exact absurd ⟨(show (0 : Nat) < bigD by decide), (show (0 : Nat) < bigD by decide)⟩ hb
  | .bl y, .int z => exact absurd ⟨(show (0 : Nat) < bigD by decide), (show (0 : Nat) < bigD by decide)⟩ hb
  | .bl y, .str z => exact absurd ⟨(show (0 : Nat) < bigD by decide), (show (0 : Nat) < bigD by decide)⟩ hb
  | .int y, .non => exact absurd ⟨(show (0 : Nat) < bigD by decide), (show (0 : Nat) < bigD by decide)⟩ hb
  | .int y, .bl z => exact absurd ⟨(show (0 : Nat) < bigD by decide), (show (0 : Nat) < bigD by decide)⟩ hb
  | .int y, .int z => exact absurd ⟨(show (0 : Nat) < bigD by decide), (show (0 : Nat) < bigD by decide)⟩ hb
  | .int y, .str z => exact absurd ⟨(show (0 : Nat) < bigD by decide), (show (0 : Nat) < bigD by decide)⟩ hb
  | .str y, .non => exact absurd ⟨(show (0 : Nat) < bigD by decide), (show (0 : Nat) < bigD by decide)⟩ hb
  | .str y, .bl z => exact absurd ⟨(show (0 : Nat) < bigD by decide), (show (0 : Nat) < bigD by decide)⟩ hb
  | .str y, .int z => exact absurd ⟨(show (0 : Nat) < bigD by decide), (show (0 : Nat) < bigD by decide)⟩ hb
  | .str y, .str z => exact absurd ⟨(show (0 : Nat) < bigD by decide), (show (0 : Nat) < bigD by decide)⟩ hb
  | .non, .dic _ => obtain ⟨p, e1, h1⟩ := isD_of' rb; subst e1; cases ra; exact EqAt_none_d h1 ru
  | .non, .lst l => obtain ⟨p, vs, cs, e1, h1, _⟩ := isL_of rb; subst e1; cases ra; exact EqAt.none_list h1 ru
  | .non, .tup l => obtain ⟨p, vs, cs, e1, h1, _⟩ := isT_of rb; subst e1; cases ra; exact EqAt.none_tuple h1 ru
  | .dic _, .non => obtain ⟨p, e1, h1⟩ := isD_of' ra; subst e1; cases rb; exact EqAt_d_none h1 ru
  | .lst l, .non => obtain ⟨p, vs, cs, e1, h1, _⟩ := isL_of ra; subst e1; cases rb; exact EqAt.list_none h1 ru
  | .tup l, .non => obtain ⟨p, vs, cs, e1, h1, _⟩ := isT_of ra; subst e1; cases rb; exact EqAt.tuple_none h1 ru
  | .bl y, .dic _ => obtain ⟨p, e1, h1⟩ := isD_of' rb; subst e1; cases ra; exact EqAt_bool_d _ h1 ru
  | .bl y, .lst l => obtain ⟨p, vs, cs, e1, h1, _⟩ := isL_of rb; subst e1; cases ra; exact EqAt.bool_list _ h1 ru
  | .bl y, .tup l => obtain ⟨p, vs, cs, e1, h1, _⟩ := isT_of rb; subst e1; cases ra; exact EqAt.bool_tuple _ h1 ru
  | .dic _, .bl y => obtain ⟨p, e1, h1⟩ := isD_of' ra; subst e1; cases rb; exact EqAt_d_bool _ h1 ru
  | .lst l, .bl y => obtain ⟨p, vs, cs, e1, h1, _⟩ := isL_of ra; subst e1; cases rb; exact EqAt.list_bool _ h1 ru
  | .tup l, .bl y => obtain ⟨p, vs, cs, e1, h1, _⟩ := isT_of ra; subst e1; cases rb; exact EqAt.tuple_bool _ h1 ru
  | .int y, .dic _ => obtain ⟨p, e1, h1⟩ := isD_of' rb; subst e1; cases ra; exact EqAt_int_d _ _ h1 ru
  | .int y, .lst l => obtain ⟨p, vs, cs, e1, h1, _⟩ := isL_of rb; subst e1; cases ra; exact EqAt.int_list _ _ h1 ru
  | .int y, .tup l => obtain ⟨p, vs, cs, e1, h1, _⟩ := isT_of rb; subst e1; cases ra; exact EqAt.int_tuple _ _ h1 ru
  | .dic _, .int y => obtain ⟨p, e1, h1⟩ := isD_of' ra; subst e1; cases rb; exact EqAt_d_int _ _ h1 ru
  | .lst l, .int y => obtain ⟨p, vs, cs, e1, h1, _⟩ := isL_of ra; subst e1; cases rb; exact EqAt.list_int _ _ h1 ru
  | .tup l, .int y => obtain ⟨p, vs, cs, e1, h1, _⟩ := isT_of ra; subst e1; cases rb; exact EqAt.tuple_int _ _ h1 ru
  | .str y, .dic _ => obtain ⟨p, e1, h1⟩ := isD_of' rb; subst e1; cases ra; exact EqAt_str_d _ _ h1 ru
  | .str y, .lst l => obtain ⟨p, vs, cs, e1, h1, _⟩ := isL_of rb; subst e1; cases ra; exact EqAt.str_list _ _ h1 ru
  | .str y, .tup l => obtain ⟨p, vs, cs, e1, h1, _⟩ := isT_of rb; subst e1; cases ra; exact EqAt.str_tuple _ _ h1 ru
  | .dic _, .str y => obtain ⟨p, e1, h1⟩ := isD_of' ra; subst e1; cases rb; exact EqAt_d_str _ _ h1 ru
  | .lst l, .str y => obtain ⟨p, vs, cs, e1, h1, _⟩ := isL_of ra; subst e1; cases rb; exact EqAt.list_str _ _ h1 ru
  | .tup l, .str y => obtain ⟨p, vs, cs, e1, h1, _⟩ := isT_of ra; subst e1; cases rb; exact EqAt.tuple_str _ _ h1 ru
  | .dic _, .dic _ => exact hs.elim (fun z => absurd z (Nat.lt_irrefl _)) fun z => absurd z (Nat.lt_irrefl _)
  | .dic _, .lst l => obtain ⟨p, e1, h1⟩ := isD_of' ra; obtain ⟨q, vs, cs, e2, h2, _⟩ := isL_of rb; subst e1 e2; exact EqAt_d_list h2 h1 ru
  | .lst l, .dic _ => obtain ⟨p, e1, h1⟩ := isD_of' rb; obtain ⟨q, vs, cs, e2, h2, _⟩ := isL_of ra; subst e1 e2; exact EqAt_list_d h2 h1 ru
  | .dic _, .tup l => obtain ⟨p, e1, h1⟩ := isD_of' ra; obtain ⟨q, vs, cs, e2, h2, _⟩ := isT_of rb; subst e1 e2; exact EqAt_d_tuple h2 h1 ru
  | .tup l, .dic _ => obtain ⟨p, e1, h1⟩ := isD_of' rb; obtain ⟨q, vs, cs, e2, h2, _⟩ := isT_of ra; subst e1 e2; exact EqAt_tuple_d h2 h1 ru
  | .lst l, .tup k => obtain ⟨p, vs, cs, e1, h1, _⟩ := isL_of ra; obtain ⟨q, ws, ds, e2, h2, _⟩ := isT_of rb; subst e1 e2; exact EqAt.list_tuple h1 h2 ru
  | .tup l, .lst k => obtain ⟨p, vs, cs, e1, h1, _⟩ := isT_of ra; obtain ⟨q, ws, ds, e2, h2, _⟩ := isL_of rb; subst e1 e2; exact EqAt.tuple_list h1 h2 ru
  | .lst l, .lst k =>
    obtain ⟨p, vs, cs, e1, h1, r1⟩ := isL_of ra
    obtain ⟨q, ws, ds, e2, h2, r2⟩ := isL_of rb
    subst e1 e2
    show EqAt A s (.ref p) (.ref q) (PyData.eqvAll (D.pyAll l) (D.pyAll k))
    have n1 : vs.size = (D.pyAll l).length := by simpa using ReadsAll.length _ _ _ r1
    have n2 : ws.size = (D.pyAll k).length := by simpa using ReadsAll.length _ _ _ r2
    have hs' : D.depL l < bigD ∨ D.depL k < bigD := hs.imp (fun z => Nat.lt_of_succ_lt z) fun z => Nat.lt_of_succ_lt z
    have he : ∀ j (j1 : j < vs.size) (j2 : j < ws.size), EqAt A.in1 s vs[j] ws[j] (pairEq (D.pyAll l) (D.pyAll k) j) := fun j j1 j2 => by
      have := eqDL l k A.in1 s vs.toList ws.toList _ _ r1 r2 hd he_ hs' (room_in hu) j (by simpa using j1) (by simpa using j2)
      simpa using this
    by_cases hpq : p = q
    · subst hpq
      have e : PyData.list (D.pyAll l) = PyData.list (D.pyAll k) := by
        rcases hs' with z | z
        · exact PySem.SeqAt.Reads.unique (PyData.list (D.pyAll l)) (PyData.list (D.pyAll k)) _ _ _ (lay_ofL l hd z) ra rb
        · exact (PySem.SeqAt.Reads.unique (PyData.list (D.pyAll k)) (PyData.list (D.pyAll l)) _ _ _ (lay_ofL k he_ z) rb ra).symm
      injection e with e
      have hr : PyData.eqvAll (D.pyAll l) (D.pyAll k) = true := by
        rcases hs' with z | z
        · rw [← e]; exact eqvAll_refl _ (lay_ofL l hd z)
        · rw [e]; exact eqvAll_refl _ (lay_ofL k he_ z)
      rw [hr]
      exact EqAt.same _
    refine EqAt.of_refs hpq ?_
    by_cases hsz : vs.size = ws.size
    · rw [← eqvAll_same_length (by omega : (D.pyAll l).length = (D.pyAll k).length), ← n1]
      exact RcAt.lists h1 h2 hsz ru he
    · rw [eqvAll_other_length (by omega : (D.pyAll l).length ≠ (D.pyAll k).length)]
      exact RcAt.lists_lengths h1 h2 (by simpa using hsz) ru
  | .tup l, .tup k =>
    obtain ⟨p, vs, cs, e1, h1, r1⟩ := isT_of ra
    obtain ⟨q, ws, ds, e2, h2, r2⟩ := isT_of rb
    subst e1 e2
    show EqAt A s (.ref p) (.ref q) (PyData.eqvAll (D.pyAll l) (D.pyAll k))
    have n1 : vs.size = (D.pyAll l).length := by simpa using ReadsAll.length _ _ _ r1
    have n2 : ws.size = (D.pyAll k).length := by simpa using ReadsAll.length _ _ _ r2
    have hs' : D.depL l < bigD ∨ D.depL k < bigD := hs.imp (fun z => Nat.lt_of_succ_lt z) fun z => Nat.lt_of_succ_lt z
    have he : ∀ j (j1 : j < vs.size) (j2 : j < ws.size), EqAt A.in1 s vs[j] ws[j] (pairEq (D.pyAll l) (D.pyAll k) j) := fun j j1 j2 => by
      have := eqDL l k A.in1 s vs.toList ws.toList _ _ r1 r2 hd he_ hs' (room_in hu) j (by simpa using j1) (by simpa using j2)
      simpa using this
    by_cases hpq : p = q
    · subst hpq
      have e : PyData.tuple (D.pyAll l) = PyData.tuple (D.pyAll k) := by
        rcases hs' with z | z
        · exact PySem.SeqAt.Reads.unique (PyData.tuple (D.pyAll l)) (PyData.tuple (D.pyAll k)) _ _ _ (lay_ofL l hd z) ra rb
        · exact (PySem.SeqAt.Reads.unique (PyData.tuple (D.pyAll k)) (PyData.tuple (D.pyAll l)) _ _ _ (lay_ofL k he_ z) rb ra).symm
      injection e with e
      have hr : PyData.eqvAll (D.pyAll l) (D.pyAll k) = true := by
        rcases hs' with z | z
        · rw [← e]; exact eqvAll_refl _ (lay_ofL l hd z)
        · rw [e]; exact eqvAll_refl _ (lay_ofL k he_ z)
      rw [hr]
      exact EqAt.same _
    refine EqAt.of_refs hpq ?_
    rw [← eqvAll_eq (D.pyAll l) (D.pyAll k), ← n1, ← n2]
    exact RcAt.tuples h1 h2 ru he
termination_by d => sizeOf d
theorem eqDL : ∀ (xs ys : List D) (A : Around) (s : Shared) (vs ws : List Value) (as bs : List Addr), ReadsAll s.heap vs (D.pyAll xs) as → ReadsAll s.heap ws (D.pyAll ys) bs → D.okSL xs = true → D.okSL ys = true → (D.depL xs < bigD ∨ D.depL ys < bigD) →
    A.units + min (PyData.depthAll (D.pyAll xs)) (PyData.depthAll (D.pyAll ys)) < cLine → ∀ j (k1 : j < vs.length) (k2 : j < ws.length), EqAt A s vs[j] ws[j] (pairEq (D.pyAll xs) (D.pyAll ys) j)
  | [], _, _, _, _, _, _, _, ra, _, _, _, _, _, j, k1, _ => by cases ra; exact absurd k1 (Nat.not_lt_zero _)
  | _ :: _, [], _, _, _, _, _, _, _, rb, _, _, _, _, j, _, k2 => by cases rb; exact absurd k2 (Nat.not_lt_zero _)
  | x :: xs, y :: ys, A, s, _, _, _, _, ra, rb, hd, he, hs, hu, j, k1, k2 => by
    have hd' : x.okS = true ∧ D.okSL xs = true := by simpa [D.okSL] using hd
    have he' : y.okS = true ∧ D.okSL ys = true := by simpa [D.okSL] using he
    have hs1 : x.dep < bigD ∨ y.dep < bigD := hs.imp (fun z => Nat.lt_of_le_of_lt (Nat.le_max_left _ _) z) fun z => Nat.lt_of_le_of_lt (Nat.le_max_left _ _) z
    have hs2 : D.depL xs < bigD ∨ D.depL ys < bigD := hs.imp (fun z => Nat.lt_of_le_of_lt (Nat.le_max_right _ _) z) fun z => Nat.lt_of_le_of_lt (Nat.le_max_right _ _) z
    cases ra with
    | cons r rs =>
      cases rb with
      | cons r' rs' =>
        cases j with
        | zero => exact eqD x y A s _ _ _ _ r r' hd'.1 he'.1 hs1 (room_head hu)
        | succ j => exact eqDL xs ys A s _ _ _ _ rs rs' hd'.2 he'.2 hs2 (room_tail hu) j (Nat.lt_of_succ_lt_succ k1) (Nat.lt_of_succ_lt_succ k2)
termination_by xs => sizeOf xs
end
theorem rcD : ∀ (d e : D) (A : Around) (s : Shared) (a b : Value) (as bs : List Addr), Reads s.heap a d.py as → Reads s.heap b e.py bs → d.okS = true → e.okS = true → (d.dep < bigD ∨ e.dep < bigD) → A.units + min d.py.depth e.py.depth < cLine → RcAt A s a b (PyData.eqv d.py e.py) := by
  intro d e A s a b as bs ra rb hd he_ hs hu
  by_cases hb : d.dep < bigD ∧ e.dep < bigD
  · exact rcAt_reads ra rb (lay_of d hd hb.1) (lay_of e he_ hb.2) hu
  have ru := room_here hu
  match d, e with
  | .non, .non => exact absurd ⟨(show (0 : Nat) < bigD by decide), (show (0 : Nat) < bigD by decide)⟩ hb
  | .non, .bl z => exact absurd ⟨(show (0 : Nat) < bigD by decide), (show (0 : Nat) < bigD by decide)⟩ hb
  | .non, .int z => exact absurd ⟨(show (0 : Nat) < bigD by decide), (show (0 : Nat) < bigD by decide)⟩ hb
  | .non, .str z => exact absurd ⟨(show (0 : Nat) < bigD by decide), (show (0 : Nat) < bigD by decide)⟩ hb
  | .bl y, .non => exact absurd ⟨(show (0 : Nat) < bigD by decide), (show (0 : Nat) < bigD by decide)⟩ hb
  | .bl y, .bl z => exact absurd ⟨(show (0 : Nat) < bigD by decide), (show (0 : Nat) < bigD by decide)⟩ hb
  | .bl y, .int z => exact absurd ⟨(show (0 : Nat) < bigD by decide), (show (0 : Nat) < bigD by decide)⟩ hb
  | .bl y, .str z => exact absurd ⟨(show (0 : Nat) < bigD by decide), (show (0 : Nat) < bigD by decide)⟩ hb
  | .int y, .non => exact absurd ⟨(show (0 : Nat) < bigD by decide), (show (0 : Nat) < bigD by decide)⟩ hb
  | .int y, .bl z => exact absurd ⟨(show (0 : Nat) < bigD by decide), (show (0 : Nat) < bigD by decide)⟩ hb
  | .int y, .int z => exact absurd ⟨(show (0 : Nat) < bigD by decide), (show (0 : Nat) < bigD by decide)⟩ hb
  | .int y, .str z => exact absurd ⟨(show (0 : Nat) < bigD by decide), (show (0 : Nat) < bigD by decide)⟩ hb
  | .str y, .non => exact absurd ⟨(show (0 : Nat) < bigD by decide), (show (0 : Nat) < bigD by decide)⟩ hb
  | .str y, .bl z => exact absurd ⟨(show (0 : Nat) < bigD by decide), (show (0 : Nat) < bigD by decide)⟩ hb
  | .str y, .int z => exact absurd ⟨(show (0 : Nat) < bigD by decide), (show (0 : Nat) < bigD by decide)⟩ hb
  | .str y, .str z => exact absurd ⟨(show (0 : Nat) < bigD by decide), (show (0 : Nat) < bigD by decide)⟩ hb
  | .non, .dic _ => obtain ⟨p, e1, h1⟩ := isD_of' rb; subst e1; cases ra; exact RcAt_none_d h1 ru
  | .non, .lst l => obtain ⟨p, vs, cs, e1, h1, _⟩ := isL_of rb; subst e1; cases ra; exact RcAt.none_list h1 ru
  | .non, .tup l => obtain ⟨p, vs, cs, e1, h1, _⟩ := isT_of rb; subst e1; cases ra; exact RcAt.none_tuple h1 ru
  | .dic _, .non => obtain ⟨p, e1, h1⟩ := isD_of' ra; subst e1; cases rb; exact RcAt_d_none h1 ru
  | .lst l, .non => obtain ⟨p, vs, cs, e1, h1, _⟩ := isL_of ra; subst e1; cases rb; exact RcAt.list_none h1 ru
  | .tup l, .non => obtain ⟨p, vs, cs, e1, h1, _⟩ := isT_of ra; subst e1; cases rb; exact RcAt.tuple_none h1 ru
  | .bl y, .dic _ => obtain ⟨p, e1, h1⟩ := isD_of' rb; subst e1; cases ra; exact RcAt_bool_d _ h1 ru
  | .bl y, .lst l => obtain ⟨p, vs, cs, e1, h1, _⟩ := isL_of rb; subst e1; cases ra; exact RcAt.bool_list _ h1 ru
  | .bl y, .tup l => obtain ⟨p, vs, cs, e1, h1, _⟩ := isT_of rb; subst e1; cases ra; exact RcAt.bool_tuple _ h1 ru
  | .dic _, .bl y => obtain ⟨p, e1, h1⟩ := isD_of' ra; subst e1; cases rb; exact RcAt_d_bool _ h1 ru
  | .lst l, .bl y => obtain ⟨p, vs, cs, e1, h1, _⟩ := isL_of ra; subst e1; cases rb; exact RcAt.list_bool _ h1 ru
  | .tup l, .bl y => obtain ⟨p, vs, cs, e1, h1, _⟩ := isT_of ra; subst e1; cases rb; exact RcAt.tuple_bool _ h1 ru
  | .int y, .dic _ => obtain ⟨p, e1, h1⟩ := isD_of' rb; subst e1; cases ra; exact RcAt_int_d _ _ h1 ru
  | .int y, .lst l => obtain ⟨p, vs, cs, e1, h1, _⟩ := isL_of rb; subst e1; cases ra; exact RcAt.int_list _ _ h1 ru
  | .int y, .tup l => obtain ⟨p, vs, cs, e1, h1, _⟩ := isT_of rb; subst e1; cases ra; exact RcAt.int_tuple _ _ h1 ru
  | .dic _, .int y => obtain ⟨p, e1, h1⟩ := isD_of' ra; subst e1; cases rb; exact RcAt_d_int _ _ h1 ru
  | .lst l, .int y => obtain ⟨p, vs, cs, e1, h1, _⟩ := isL_of ra; subst e1; cases rb; exact RcAt.list_int _ _ h1 ru
  | .tup l, .int y => obtain ⟨p, vs, cs, e1, h1, _⟩ := isT_of ra; subst e1; cases rb; exact RcAt.tuple_int _ _ h1 ru
  | .str y, .dic _ => obtain ⟨p, e1, h1⟩ := isD_of' rb; subst e1; cases ra; exact RcAt_str_d _ _ h1 ru
  | .str y, .lst l => obtain ⟨p, vs, cs, e1, h1, _⟩ := isL_of rb; subst e1; cases ra; exact RcAt.str_list _ _ h1 ru
  | .str y, .tup l => obtain ⟨p, vs, cs, e1, h1, _⟩ := isT_of rb; subst e1; cases ra; exact RcAt.str_tuple _ _ h1 ru
  | .dic _, .str y => obtain ⟨p, e1, h1⟩ := isD_of' ra; subst e1; cases rb; exact RcAt_d_str _ _ h1 ru
  | .lst l, .str y => obtain ⟨p, vs, cs, e1, h1, _⟩ := isL_of ra; subst e1; cases rb; exact RcAt.list_str _ _ h1 ru
  | .tup l, .str y => obtain ⟨p, vs, cs, e1, h1, _⟩ := isT_of ra; subst e1; cases rb; exact RcAt.tuple_str _ _ h1 ru
  | .dic _, .dic _ => exact hs.elim (fun z => absurd z (Nat.lt_irrefl _)) fun z => absurd z (Nat.lt_irrefl _)
  | .dic _, .lst l => obtain ⟨p, e1, h1⟩ := isD_of' ra; obtain ⟨q, vs, cs, e2, h2, _⟩ := isL_of rb; subst e1 e2; exact RcAt_d_list h2 h1 ru
  | .lst l, .dic _ => obtain ⟨p, e1, h1⟩ := isD_of' rb; obtain ⟨q, vs, cs, e2, h2, _⟩ := isL_of ra; subst e1 e2; exact RcAt_list_d h2 h1 ru
  | .dic _, .tup l => obtain ⟨p, e1, h1⟩ := isD_of' ra; obtain ⟨q, vs, cs, e2, h2, _⟩ := isT_of rb; subst e1 e2; exact RcAt_d_tuple h2 h1 ru
  | .tup l, .dic _ => obtain ⟨p, e1, h1⟩ := isD_of' rb; obtain ⟨q, vs, cs, e2, h2, _⟩ := isT_of ra; subst e1 e2; exact RcAt_tuple_d h2 h1 ru
  | .lst l, .tup k => obtain ⟨p, vs, cs, e1, h1, _⟩ := isL_of ra; obtain ⟨q, ws, ds, e2, h2, _⟩ := isT_of rb; subst e1 e2; exact RcAt.list_tuple h1 h2 ru
  | .tup l, .lst k => obtain ⟨p, vs, cs, e1, h1, _⟩ := isT_of ra; obtain ⟨q, ws, ds, e2, h2, _⟩ := isL_of rb; subst e1 e2; exact RcAt.tuple_list h1 h2 ru
  | .lst l, .lst k =>
    obtain ⟨p, vs, cs, e1, h1, r1⟩ := isL_of ra
    obtain ⟨q, ws, ds, e2, h2, r2⟩ := isL_of rb
    subst e1 e2
    show RcAt A s (.ref p) (.ref q) (PyData.eqvAll (D.pyAll l) (D.pyAll k))
    have n1 : vs.size = (D.pyAll l).length := by simpa using ReadsAll.length _ _ _ r1
    have n2 : ws.size = (D.pyAll k).length := by simpa using ReadsAll.length _ _ _ r2
    have hs' : D.depL l < bigD ∨ D.depL k < bigD := hs.imp (fun z => Nat.lt_of_succ_lt z) fun z => Nat.lt_of_succ_lt z
    have he : ∀ j (j1 : j < vs.size) (j2 : j < ws.size), EqAt A.in1 s vs[j] ws[j] (pairEq (D.pyAll l) (D.pyAll k) j) := fun j j1 j2 => by
      have := Em.eqDL l k A.in1 s vs.toList ws.toList _ _ r1 r2 hd he_ hs' (room_in hu) j (by simpa using j1) (by simpa using j2)
      simpa using this
    by_cases hsz : vs.size = ws.size
    · rw [← eqvAll_same_length (by omega : (D.pyAll l).length = (D.pyAll k).length), ← n1]
      exact RcAt.lists h1 h2 hsz ru he
    · rw [eqvAll_other_length (by omega : (D.pyAll l).length ≠ (D.pyAll k).length)]
      exact RcAt.lists_lengths h1 h2 (by simpa using hsz) ru
  | .tup l, .tup k =>
    obtain ⟨p, vs, cs, e1, h1, r1⟩ := isT_of ra
    obtain ⟨q, ws, ds, e2, h2, r2⟩ := isT_of rb
    subst e1 e2
    show RcAt A s (.ref p) (.ref q) (PyData.eqvAll (D.pyAll l) (D.pyAll k))
    have n1 : vs.size = (D.pyAll l).length := by simpa using ReadsAll.length _ _ _ r1
    have n2 : ws.size = (D.pyAll k).length := by simpa using ReadsAll.length _ _ _ r2
    have hs' : D.depL l < bigD ∨ D.depL k < bigD := hs.imp (fun z => Nat.lt_of_succ_lt z) fun z => Nat.lt_of_succ_lt z
    have he : ∀ j (j1 : j < vs.size) (j2 : j < ws.size), EqAt A.in1 s vs[j] ws[j] (pairEq (D.pyAll l) (D.pyAll k) j) := fun j j1 j2 => by
      have := Em.eqDL l k A.in1 s vs.toList ws.toList _ _ r1 r2 hd he_ hs' (room_in hu) j (by simpa using j1) (by simpa using j2)
      simpa using this
    rw [← eqvAll_eq (D.pyAll l) (D.pyAll k), ← n1, ← n2]
    exact RcAt.tuples h1 h2 ru he
theorem neD : ∀ (d e : D) (A : Around) (s : Shared) (a b : Value) (as bs : List Addr), Reads s.heap a d.py as → Reads s.heap b e.py bs → d.okS = true → e.okS = true → (d.dep < bigD ∨ e.dep < bigD) → A.units + min d.py.depth e.py.depth < cLine → RcNeAt A s a b (!PyData.eqv d.py e.py) := by
  intro d e A s a b as bs ra rb hd he_ hs hu
  by_cases hb : d.dep < bigD ∧ e.dep < bigD
  · exact rcNeAt_reads ra rb (lay_of d hd hb.1) (lay_of e he_ hb.2) hu
  have ru := room_here hu
  match d, e with
  | .non, .non => exact absurd ⟨(show (0 : Nat) < bigD by decide), (show (0 : Nat) < bigD by decide)⟩ hb
  | .non, .bl z => exact absurd ⟨(show (0 : Nat) < bigD by decide), (show (0 : Nat) < bigD by decide)⟩ hb
  | .non, .int z => exact absurd ⟨(show (0 : Nat) < bigD by decide), (show (0 : Nat) < bigD by decide)⟩ hb
  | .non, .str z => exact absurd ⟨(show (0 : Nat) < bigD by decide), (show (0 : Nat) < bigD by decide)⟩ hb
  | .bl y, .non => exact absurd ⟨(show (0 : Nat) < bigD by decide), (show (0 : Nat) < bigD by decide)⟩ hb
  | .bl y, .bl z => exact absurd ⟨(show (0 : Nat) < bigD by decide), (show (0 : Nat) < bigD by decide)⟩ hb
  | .bl y, .int z => exact absurd ⟨(show (0 : Nat) < bigD by decide), (show (0 : Nat) < bigD by decide)⟩ hb
  | .bl y, .str z => exact absurd ⟨(show (0 : Nat) < bigD by decide), (show (0 : Nat) < bigD by decide)⟩ hb
  | .int y, .non => exact absurd ⟨(show (0 : Nat) < bigD by decide), (show (0 : Nat) < bigD by decide)⟩ hb
  | .int y, .bl z => exact absurd ⟨(show (0 : Nat) < bigD by decide), (show (0 : Nat) < bigD by decide)⟩ hb
  | .int y, .int z => exact absurd ⟨(show (0 : Nat) < bigD by decide), (show (0 : Nat) < bigD by decide)⟩ hb
  | .int y, .str z => exact absurd ⟨(show (0 : Nat) < bigD by decide), (show (0 : Nat) < bigD by decide)⟩ hb
  | .str y, .non => exact absurd ⟨(show (0 : Nat) < bigD by decide), (show (0 : Nat) < bigD by decide)⟩ hb
  | .str y, .bl z => exact absurd ⟨(show (0 : Nat) < bigD by decide), (show (0 : Nat) < bigD by decide)⟩ hb
  | .str y, .int z => exact absurd ⟨(show (0 : Nat) < bigD by decide), (show (0 : Nat) < bigD by decide)⟩ hb
  | .str y, .str z => exact absurd ⟨(show (0 : Nat) < bigD by decide), (show (0 : Nat) < bigD by decide)⟩ hb
  | .non, .dic _ => obtain ⟨p, e1, h1⟩ := isD_of' rb; subst e1; cases ra; exact RcNeAt_none_d h1 ru
  | .non, .lst l => obtain ⟨p, vs, cs, e1, h1, _⟩ := isL_of rb; subst e1; cases ra; exact RcNeAt.none_list h1 ru
  | .non, .tup l => obtain ⟨p, vs, cs, e1, h1, _⟩ := isT_of rb; subst e1; cases ra; exact RcNeAt.none_tuple h1 ru
  | .dic _, .non => obtain ⟨p, e1, h1⟩ := isD_of' ra; subst e1; cases rb; exact RcNeAt_d_none h1 ru
  | .lst l, .non => obtain ⟨p, vs, cs, e1, h1, _⟩ := isL_of ra; subst e1; cases rb; exact RcNeAt.list_none h1 ru
  | .tup l, .non => obtain ⟨p, vs, cs, e1, h1, _⟩ := isT_of ra; subst e1; cases rb; exact RcNeAt.tuple_none h1 ru
  | .bl y, .dic _ => obtain ⟨p, e1, h1⟩ := isD_of' rb; subst e1; cases ra; exact RcNeAt_bool_d _ h1 ru
  | .bl y, .lst l => obtain ⟨p, vs, cs, e1, h1, _⟩ := isL_of rb; subst e1; cases ra; exact RcNeAt.bool_list _ h1 ru
  | .bl y, .tup l => obtain ⟨p, vs, cs, e1, h1, _⟩ := isT_of rb; subst e1; cases ra; exact RcNeAt.bool_tuple _ h1 ru
  | .dic _, .bl y => obtain ⟨p, e1, h1⟩ := isD_of' ra; subst e1; cases rb; exact RcNeAt_d_bool _ h1 ru
  | .lst l, .bl y => obtain ⟨p, vs, cs, e1, h1, _⟩ := isL_of ra; subst e1; cases rb; exact RcNeAt.list_bool _ h1 ru
  | .tup l, .bl y => obtain ⟨p, vs, cs, e1, h1, _⟩ := isT_of ra; subst e1; cases rb; exact RcNeAt.tuple_bool _ h1 ru
  | .int y, .dic _ => obtain ⟨p, e1, h1⟩ := isD_of' rb; subst e1; cases ra; exact RcNeAt_int_d _ _ h1 ru
  | .int y, .lst l => obtain ⟨p, vs, cs, e1, h1, _⟩ := isL_of rb; subst e1; cases ra; exact RcNeAt.int_list _ _ h1 ru
  | .int y, .tup l => obtain ⟨p, vs, cs, e1, h1, _⟩ := isT_of rb; subst e1; cases ra; exact RcNeAt.int_tuple _ _ h1 ru
  | .dic _, .int y => obtain ⟨p, e1, h1⟩ := isD_of' ra; subst e1; cases rb; exact RcNeAt_d_int _ _ h1 ru
  | .lst l, .int y => obtain ⟨p, vs, cs, e1, h1, _⟩ := isL_of ra; subst e1; cases rb; exact RcNeAt.list_int _ _ h1 ru
  | .tup l, .int y => obtain ⟨p, vs, cs, e1, h1, _⟩ := isT_of ra; subst e1; cases rb; exact RcNeAt.tuple_int _ _ h1 ru
  | .str y, .dic _ => obtain ⟨p, e1, h1⟩ := isD_of' rb; subst e1; cases ra; exact RcNeAt_str_d _ _ h1 ru
  | .str y, .lst l => obtain ⟨p, vs, cs, e1, h1, _⟩ := isL_of rb; subst e1; cases ra; exact RcNeAt.str_list _ _ h1 ru
  | .str y, .tup l => obtain ⟨p, vs, cs, e1, h1, _⟩ := isT_of rb; subst e1; cases ra; exact RcNeAt.str_tuple _ _ h1 ru
  | .dic _, .str y => obtain ⟨p, e1, h1⟩ := isD_of' ra; subst e1; cases rb; exact RcNeAt_d_str _ _ h1 ru
  | .lst l, .str y => obtain ⟨p, vs, cs, e1, h1, _⟩ := isL_of ra; subst e1; cases rb; exact RcNeAt.list_str _ _ h1 ru
  | .tup l, .str y => obtain ⟨p, vs, cs, e1, h1, _⟩ := isT_of ra; subst e1; cases rb; exact RcNeAt.tuple_str _ _ h1 ru
  | .dic _, .dic _ => exact hs.elim (fun z => absurd z (Nat.lt_irrefl _)) fun z => absurd z (Nat.lt_irrefl _)
  | .dic _, .lst l => obtain ⟨p, e1, h1⟩ := isD_of' ra; obtain ⟨q, vs, cs, e2, h2, _⟩ := isL_of rb; subst e1 e2; exact RcNeAt_d_list h2 h1 ru
  | .lst l, .dic _ => obtain ⟨p, e1, h1⟩ := isD_of' rb; obtain ⟨q, vs, cs, e2, h2, _⟩ := isL_of ra; subst e1 e2; exact RcNeAt_list_d h2 h1 ru
  | .dic _, .tup l => obtain ⟨p, e1, h1⟩ := isD_of' ra; obtain ⟨q, vs, cs, e2, h2, _⟩ := isT_of rb; subst e1 e2; exact RcNeAt_d_tuple h2 h1 ru
  | .tup l, .dic _ => obtain ⟨p, e1, h1⟩ := isD_of' rb; obtain ⟨q, vs, cs, e2, h2, _⟩ := isT_of ra; subst e1 e2; exact RcNeAt_tuple_d h2 h1 ru
  | .lst l, .tup k => obtain ⟨p, vs, cs, e1, h1, _⟩ := isL_of ra; obtain ⟨q, ws, ds, e2, h2, _⟩ := isT_of rb; subst e1 e2; exact RcNeAt.list_tuple h1 h2 ru
  | .tup l, .lst k => obtain ⟨p, vs, cs, e1, h1, _⟩ := isT_of ra; obtain ⟨q, ws, ds, e2, h2, _⟩ := isL_of rb; subst e1 e2; exact RcNeAt.tuple_list h1 h2 ru
  | .lst l, .lst k =>
    obtain ⟨p, vs, cs, e1, h1, r1⟩ := isL_of ra
    obtain ⟨q, ws, ds, e2, h2, r2⟩ := isL_of rb
    subst e1 e2
    show RcNeAt A s (.ref p) (.ref q) (!PyData.eqvAll (D.pyAll l) (D.pyAll k))
    have n1 : vs.size = (D.pyAll l).length := by simpa using ReadsAll.length _ _ _ r1
    have n2 : ws.size = (D.pyAll k).length := by simpa using ReadsAll.length _ _ _ r2
    have hs' : D.depL l < bigD ∨ D.depL k < bigD := hs.imp (fun z => Nat.lt_of_succ_lt z) fun z => Nat.lt_of_succ_lt z
    have he : ∀ j (j1 : j < vs.size) (j2 : j < ws.size), EqAt A.in1 s vs[j] ws[j] (pairEq (D.pyAll l) (D.pyAll k) j) := fun j j1 j2 => by
      have := Em.eqDL l k A.in1 s vs.toList ws.toList _ _ r1 r2 hd he_ hs' (room_in hu) j (by simpa using j1) (by simpa using j2)
      simpa using this
    by_cases hsz : vs.size = ws.size
    · rw [← eqvAll_same_length (by omega : (D.pyAll l).length = (D.pyAll k).length), ← n1]
      exact RcNeAt.lists h1 h2 hsz ru he
    · rw [eqvAll_other_length (by omega : (D.pyAll l).length ≠ (D.pyAll k).length)]
      exact RcNeAt.lists_lengths h1 h2 (by simpa using hsz) ru
  | .tup l, .tup k =>
    obtain ⟨p, vs, cs, e1, h1, r1⟩ := isT_of ra
    obtain ⟨q, ws, ds, e2, h2, r2⟩ := isT_of rb
    subst e1 e2
    show RcNeAt A s (.ref p) (.ref q) (!PyData.eqvAll (D.pyAll l) (D.pyAll k))
    have n1 : vs.size = (D.pyAll l).length := by simpa using ReadsAll.length _ _ _ r1
    have n2 : ws.size = (D.pyAll k).length := by simpa using ReadsAll.length _ _ _ r2
    have hs' : D.depL l < bigD ∨ D.depL k < bigD := hs.imp (fun z => Nat.lt_of_succ_lt z) fun z => Nat.lt_of_succ_lt z
    have he : ∀ j (j1 : j < vs.size) (j2 : j < ws.size), EqAt A.in1 s vs[j] ws[j] (pairEq (D.pyAll l) (D.pyAll k) j) := fun j j1 j2 => by
      have := Em.eqDL l k A.in1 s vs.toList ws.toList _ _ r1 r2 hd he_ hs' (room_in hu) j (by simpa using j1) (by simpa using j2)
      simpa using this
    rw [← eqvAll_eq (D.pyAll l) (D.pyAll k), ← n1, ← n2]
    exact RcNeAt.tuples h1 h2 ru he
theorem bad_ne {x : Str} (h : PyData.strOk x = true) : x ≠ noTxt := fun e => by
  rw [e] at h
  exact absurd h (by decide +kernel)
mutual
theorem eq_py : ∀ d e : D, d.okS = true → e.okS = true → (d.dep < bigD ∨ e.dep < bigD) → PyData.eqv d.py e.py = PyData.eqv d.pq e.pq
  | .lst l, .lst k, hd, he, hs => eq_pyL l k hd he (hs.imp (fun z => Nat.lt_of_succ_lt z) fun z => Nat.lt_of_succ_lt z)
  | .tup l, .tup k, hd, he, hs => eq_pyL l k hd he (hs.imp (fun z => Nat.lt_of_succ_lt z) fun z => Nat.lt_of_succ_lt z)
  | .dic _, .dic _, _, _, hs => hs.elim (fun z => absurd z (Nat.lt_irrefl _)) fun z => absurd z (Nat.lt_irrefl _)
  | .dic _, .str x, _, he, _ => by
    show false = (noTxt == x)
    exact (beq_eq_false_iff_ne.mpr (Ne.symm (bad_ne he))).symm
  | .str x, .dic _, hd, _, _ => by
    show false = (x == noTxt)
    exact (beq_eq_false_iff_ne.mpr (bad_ne hd)).symm
  | .non, .non, _, _, _ => rfl
  | .non, .bl _, _, _, _ => rfl
  | .non, .int _, _, _, _ => rfl
  | .non, .str _, _, _, _ => rfl
  | .non, .lst _, _, _, _ => rfl
  | .non, .tup _, _, _, _ => rfl
  | .non, .dic _, _, _, _ => rfl
  | .bl _, .non, _, _, _ => rfl
  | .bl _, .bl _, _, _, _ => rfl
  | .bl _, .int _, _, _, _ => rfl
  | .bl _, .str _, _, _, _ => rfl
  | .bl _, .lst _, _, _, _ => rfl
  | .bl _, .tup _, _, _, _ => rfl
  | .bl _, .dic _, _, _, _ => rfl
  | .int _, .non, _, _, _ => rfl
  | .int _, .bl _, _, _, _ => rfl
  | .int _, .int _, _, _, _ => rfl
  | .int _, .str _, _, _, _ => rfl
  | .int _, .lst _, _, _, _ => rfl
  | .int _, .tup _, _, _, _ => rfl
  | .int _, .dic _, _, _, _ => rfl
  | .str _, .non, _, _, _ => rfl
  | .str _, .bl _, _, _, _ => rfl
  | .str _, .int _, _, _, _ => rfl
  | .str _, .str _, _, _, _ => rfl
  | .str _, .lst _, _, _, _ => rfl
  | .str _, .tup _, _, _, _ => rfl
  | .lst _, .non, _, _, _ => rfl
  | .lst _, .bl _, _, _, _ => rfl
  | .lst _, .int _, _, _, _ => rfl
  | .lst _, .str _, _, _, _ => rfl
  | .lst _, .tup _, _, _, _ => rfl
  | .lst _, .dic _, _, _, _ => rfl
  | .tup _, .non, _, _, _ => rfl
  | .tup _, .bl _, _, _, _ => rfl
  | .tup _, .int _, _, _, _ => rfl
  | .tup _, .str _, _, _, _ => rfl
  | .tup _, .lst _, _, _, _ => rfl
  | .tup _, .dic _, _, _, _ => rfl
  | .dic _, .non, _, _, _ => rfl
  | .dic _, .bl _, _, _, _ => rfl
  | .dic _, .int _, _, _, _ => rfl
  | .dic _, .lst _, _, _, _ => rfl
  | .dic _, .tup _, _, _, _ => rfl
theorem eq_pyL : ∀ l k : List D, D.okSL l = true → D.okSL k = true → (D.depL l < bigD ∨ D.depL k < bigD) → PyData.eqvAll (D.pyAll l) (D.pyAll k) = PyData.eqvAll (D.pqAll l) (D.pqAll k)
  | [], [], _, _, _ => rfl
  | [], _ :: _, _, _, _ => rfl
  | _ :: _, [], _, _, _ => rfl
  | x :: l, y :: k, hd, he, hs => by
    have hd' : x.okS = true ∧ D.okSL l = true := by simpa [D.okSL] using hd
    have he' : y.okS = true ∧ D.okSL k = true := by simpa [D.okSL] using he
    have hs1 : x.dep < bigD ∨ y.dep < bigD := hs.imp (fun z => Nat.lt_of_le_of_lt (Nat.le_max_left _ _) z) fun z => Nat.lt_of_le_of_lt (Nat.le_max_left _ _) z
    have hs2 : D.depL l < bigD ∨ D.depL k < bigD := hs.imp (fun z => Nat.lt_of_le_of_lt (Nat.le_max_right _ _) z) fun z => Nat.lt_of_le_of_lt (Nat.le_max_right _ _) z
    show (PyData.eqv x.py y.py && PyData.eqvAll (D.pyAll l) (D.pyAll k)) = (PyData.eqv x.pq y.pq && PyData.eqvAll (D.pqAll l) (D.pqAll k))
    rw [eq_py x y hd'.1 he'.1 hs1, eq_pyL l k hd'.2 he'.2 hs2]
end
theorem any_pq {d : D} (hd : d.okS = true) : ∀ l : List D, D.okSL l = true → (D.depL l < bigD ∨ d.dep < bigD) → (l.any fun y => PyData.eqv y.py d.py) = l.any fun y => PyData.eqv y.pq d.pq
  | [], _, _ => rfl
  | x :: l, he, hs => by
    have he' : x.okS = true ∧ D.okSL l = true := by simpa [D.okSL] using he
    rw [List.any_cons, List.any_cons, eq_py x d he'.1 hd (hs.imp (fun z => Nat.lt_of_le_of_lt (Nat.le_max_left _ _) z) id), any_pq hd l he'.2 (hs.imp (fun z => Nat.lt_of_le_of_lt (Nat.le_max_right _ _) z) id)]
def kindT : PyData → String
  | .list _ => "list"
  | .tuple _ => "tuple"
  | .dict _ => "dict"
  | _ => ""
theorem kind_of {h : Heap} {p : Addr} {d : PyData} {as : List Addr} (r : Reads h (.ref p) d as) : ∃ o, h.get? p = some o ∧ o.cls = .type (kindT d) := by
  cases r with
  | list h1 h2 _ _ => exact ⟨_, h1, h2⟩
  | tuple h1 h2 _ _ => exact ⟨_, h1, h2⟩
  | dict h1 h2 _ _ _ => exact ⟨_, h1, h2⟩
theorem ref_of {h : Heap} {v : Value} {d : PyData} {as : List Addr} (r : Reads h v d as) (hk : kindT d ≠ "") : ∃ p, v = .ref p := by
  cases r with
  | list h1 h2 _ _ => exact ⟨_, rfl⟩
  | tuple h1 h2 _ _ => exact ⟨_, rfl⟩
  | dict h1 h2 _ _ _ => exact ⟨_, rfl⟩
  | _ => exact absurd rfl hk
theorem kind_eq {h : Heap} {v : Value} {d e : PyData} {as bs : List Addr} (ra : Reads h v d as) (rb : Reads h v e bs) (hk : kindT d ≠ "" := by simp [kindT]) : kindT d = kindT e := by
  obtain ⟨p, rfl⟩ := ref_of ra hk
  obtain ⟨o1, e1, e2⟩ := kind_of ra
  obtain ⟨o2, e3, e4⟩ := kind_of rb
  rw [e1] at e3
  cases e3
  rw [e2] at e4
  simpa using e4
theorem uniqS {h : Heap} : ∀ {k l : List Str} {vs : List Value} {as bs : List Addr}, ReadsAll h vs (k.map PyData.str) as → ReadsAll h vs (l.map PyData.str) bs → k = l
  | [], [], _, _, _, _, _ => rfl
  | [], _ :: _, _, _, _, ra, rb => by cases ra; cases rb
  | _ :: _, [], _, _, _, ra, rb => by cases rb; cases ra
  | x :: k, y :: l, _, _, _, ra, rb => by
    cases ra with
    | cons a1 a2 =>
      cases rb with
      | cons b1 b2 =>
        have e := uniqS a2 b2
        cases a1
        cases b1
        rw [e]
theorem pair_ext : ∀ {k l : List (Str × Str)}, k.map (·.1) = l.map (·.1) → k.map (·.2) = l.map (·.2) → k = l
  | [], [], _, _ => rfl
  | [], _ :: _, h, _ => by cases h
  | _ :: _, [], h, _ => by cases h
  | (a, b) :: k, (c, d) :: l, h1, h2 => by
    simp only [List.map_cons, List.cons.injEq] at h1 h2
    rw [h1.1, h2.1, pair_ext h1.2 h2.2]
mutual
theorem uniq {h : Heap} : ∀ (d d' : D) (v : Value) (as bs : List Addr), Reads h v d.py as → Reads h v d'.py bs → d.py = d'.py := by
  intro d d' v as bs ra rb
  match d, d' with
  | .non, .non => rfl
  | .bl _, .bl _ => cases ra; cases rb; rfl
  | .int _, .int _ => cases ra; cases rb; rfl
  | .str _, .str _ => cases ra; cases rb; rfl
  | .dic k, .dic l =>
    cases ra with
    | dict h1 h2 h3 h4 h5 =>
      cases rb with
      | dict k1 k2 k3 k4 k5 =>
        rw [h1] at k1; cases k1
        rw [h3] at k3; cases k3
        simp only [List.map_map] at h4 h5 k4 k5
        have e1 := uniqS (k := k.map (·.1)) (l := l.map (·.1)) (by rw [List.map_map]; exact h4) (by rw [List.map_map]; exact k4)
        have e2 := uniqS (k := k.map (·.2)) (l := l.map (·.2)) (by rw [List.map_map]; exact h5) (by rw [List.map_map]; exact k5)
        rw [pair_ext e1 e2]
  | .lst l, .lst k =>
    cases ra with
    | list h1 h2 h3 h4 =>
      cases rb with
      | list k1 k2 k3 k4 =>
        rw [h1] at k1; cases k1
        rw [h3] at k3; cases k3
        exact congrArg PyData.list (uniqL l k _ _ _ h4 k4)
  | .tup l, .tup k =>
    cases ra with
    | tuple h1 h2 h3 h4 =>
      cases rb with
      | tuple k1 k2 k3 k4 =>
        rw [h1] at k1; cases k1
        rw [h3] at k3; cases k3
        exact congrArg PyData.tuple (uniqL l k _ _ _ h4 k4)
  | .non, .bl _ => cases ra <;> cases rb
  | .non, .int _ => cases ra <;> cases rb
  | .non, .str _ => cases ra <;> cases rb
  | .non, .lst _ => cases ra <;> cases rb
  | .non, .tup _ => cases ra <;> cases rb
  | .non, .dic _ => cases ra <;> cases rb
  | .bl _, .non => cases ra <;> cases rb
  | .bl _, .int _ => cases ra <;> cases rb
  | .bl _, .str _ => cases ra <;> cases rb
  | .bl _, .lst _ => cases ra <;> cases rb
  | .bl _, .tup _ => cases ra <;> cases rb
  | .bl _, .dic _ => cases ra <;> cases rb
  | .int _, .non => cases ra <;> cases rb
  | .int _, .bl _ => cases ra <;> cases rb
  | .int _, .str _ => cases ra <;> cases rb
  | .int _, .lst _ => cases ra <;> cases rb
  | .int _, .tup _ => cases ra <;> cases rb
  | .int _, .dic _ => cases ra <;> cases rb
  | .str _, .non => cases ra <;> cases rb
  | .str _, .bl _ => cases ra <;> cases rb
  | .str _, .int _ => cases ra <;> cases rb
  | .str _, .lst _ => cases ra <;> cases rb
  | .str _, .tup _ => cases ra <;> cases rb
  | .str _, .dic _ => cases ra <;> cases rb
  | .lst _, .non => cases ra <;> cases rb
  | .lst _, .bl _ => cases ra <;> cases rb
  | .lst _, .int _ => cases ra <;> cases rb
  | .lst _, .str _ => cases ra <;> cases rb
  | .lst _, .tup _ => exact absurd (kind_eq ra rb (by simp [D.py, kindT])) (by simp [D.py, kindT])
  | .lst _, .dic _ => exact absurd (kind_eq ra rb (by simp [D.py, kindT])) (by simp [D.py, kindT])
  | .tup _, .non => cases ra <;> cases rb
  | .tup _, .bl _ => cases ra <;> cases rb
  | .tup _, .int _ => cases ra <;> cases rb
  | .tup _, .str _ => cases ra <;> cases rb
  | .tup _, .lst _ => exact absurd (kind_eq ra rb (by simp [D.py, kindT])) (by simp [D.py, kindT])
  | .tup _, .dic _ => exact absurd (kind_eq ra rb (by simp [D.py, kindT])) (by simp [D.py, kindT])
  | .dic _, .non => cases ra <;> cases rb
  | .dic _, .bl _ => cases ra <;> cases rb
  | .dic _, .int _ => cases ra <;> cases rb
  | .dic _, .str _ => cases ra <;> cases rb
  | .dic _, .lst _ => exact absurd (kind_eq ra rb (by simp [D.py, kindT])) (by simp [D.py, kindT])
  | .dic _, .tup _ => exact absurd (kind_eq ra rb (by simp [D.py, kindT])) (by simp [D.py, kindT])
termination_by d => sizeOf d
theorem uniqL {h : Heap} : ∀ (l k : List D) (vs : List Value) (as bs : List Addr), ReadsAll h vs (D.pyAll l) as → ReadsAll h vs (D.pyAll k) bs → D.pyAll l = D.pyAll k
  | [], [], _, _, _, _, _ => rfl
  | [], _ :: _, _, _, _, ra, rb => by cases ra; cases rb
  | _ :: _, [], _, _, _, ra, rb => by cases rb; cases ra
  | d :: l, e :: k, _, _, _, ra, rb => by
    cases ra with
    | cons r1 r2 =>
      cases rb with
      | cons q1 q2 =>
        show d.py :: D.pyAll l = e.py :: D.pyAll k
        rw [uniq d e _ _ _ r1 q1, uniqL l k _ _ _ r2 q2]
termination_by l => sizeOf l
end
section
open Classical
noncomputable def anyE (h : Heap) (l : List D) (d : D) (y : Value) : Bool := decide (∃ e ∈ l, ∃ cs, Reads h y e.py cs ∧ PyData.eqv e.py d.py = true)
theorem anyE_is {h : Heap} {l : List D} {d e : D} {y : Value} {cs : List Addr} (he : e ∈ l) (r : Reads h y e.py cs) : anyE h l d y = PyData.eqv e.py d.py := by
  unfold anyE
  cases q : PyData.eqv e.py d.py with
  | true => exact decide_eq_true ⟨e, he, cs, r, q⟩
  | false =>
    refine decide_eq_false fun ⟨e', he', cs', r', q'⟩ => ?_
    rw [uniq e' e y _ _ r' r, q] at q'
    cases q'
theorem mem_reads {h : Heap} : ∀ (l : List D) (vs : List Value) (as : List Addr), ReadsAll h vs (D.pyAll l) as → ∀ y ∈ vs, ∃ e ∈ l, ∃ cs, Reads h y e.py cs
  | [], _, _, r, y, hy => by cases r; cases hy
  | d :: l, _, _, r, y, hy => by
    cases r with
    | cons r1 r2 =>
      rcases List.mem_cons.mp hy with z | z
      · exact ⟨d, .head _, _, by rw [z]; exact r1⟩
      · obtain ⟨e, he, cs, q⟩ := mem_reads l _ _ r2 y z
        exact ⟨e, .tail _ he, cs, q⟩
theorem anyE_all {h : Heap} {L : List D} {d : D} : ∀ (l : List D) (vs : List Value) (as : List Addr), (∀ e ∈ l, e ∈ L) → ReadsAll h vs (D.pyAll l) as → vs.any (anyE h L d) = l.any fun y => PyData.eqv y.py d.py
  | [], _, _, _, r => by cases r; rfl
  | e :: l, _, _, hl, r => by
    cases r with
    | cons r1 r2 => rw [List.any_cons, List.any_cons, anyE_all l _ _ (fun x hx => hl x (.tail _ hx)) r2, anyE_is (hl e (.head _)) r1]
theorem dep_mem : ∀ {l : List D} {e : D}, e ∈ l → e.dep ≤ D.depL l
  | d :: l, e, h => by
    rcases List.mem_cons.mp h with rfl | h
    · exact Nat.le_max_left _ _
    · exact Nat.le_trans (dep_mem h) (Nat.le_max_right _ _)
theorem okS_mem : ∀ {l : List D} {e : D}, D.okSL l = true → e ∈ l → e.okS = true
  | d :: l, e, h, he => by
    have h' : d.okS = true ∧ D.okSL l = true := by simpa [D.okSL] using h
    rcases List.mem_cons.mp he with rfl | he
    · exact h'.1
    · exact okS_mem h'.2 he
theorem in_at {l : List D} {d : D} {A : Around} {s : Shared} {x : Value} {vs : Array Value} {as bs : List Addr} (rs : ReadsAll s.heap vs.toList (D.pyAll l) as) (rx : Reads s.heap x d.py bs) (hl : D.okSL l = true) (hd : d.okS = true)
    (hs : D.depL l < bigD ∨ d.dep < bigD) (hu : A.units + 1 + min (D.depL l) d.dep < cLine) : ∀ y, y ∈ vs → EqAt A.in1 s y x (anyE s.heap l d y) := fun y hy => by
  obtain ⟨e, he, cs, r⟩ := mem_reads l _ _ rs y (by simpa using hy)
  rw [anyE_is he r]
  have h1 := dep_mem he
  have h2 := e.dep_py
  have h3 := d.dep_py
  refine eqD e d A.in1 s y x _ _ r rx (okS_mem hl he) hd (hs.imp (fun z => Nat.lt_of_le_of_lt h1 z) id) ?_
  show A.units + 1 + min e.py.depth d.py.depth < cLine
  omega
theorem in_arr {l : List D} {d : D} {h : Heap} {vs : Array Value} {as : List Addr} (rs : ReadsAll h vs.toList (D.pyAll l) as) : vs.any (anyE h l d) = l.any fun y => PyData.eqv y.py d.py := by
  rw [← Array.any_toList]
  exact anyE_all l _ _ (fun _ z => z) rs
end
end Em
end Dl
namespace Dl
open PySem PySem.Spec PyProof.Rows L2 NdefX
def D.eq (d e : D) : Bool := PyData.eqv d.pq e.pq
theorem paired_nil {α β : Type} {F : α → β → Prop} {xs : List α} {ys : List β} (h : Paired F xs ys) : xs = [] ↔ ys = [] := by
  cases h <;> simp
section
variable {X : Cx} {pins : List (Addr × Obj)} {σ : St} {H : Hp} {s : Shared}
theorem op_catR : OpR X (binaryOp .Add) (fun x y H Q => ∃ l b xs zs, x = .ref l ∧ y = .ref b ∧ SqL X.K H l xs ∧ SqL X.K H b zs ∧ xs.length + zs.length ≤ sizeLine ∧ ∀ p, H p = none → Q (.ref p) (upd H p (.lst (xs ++ zs)))) := by
  intro pins s σ H x y v u Q I rx ry h
  obtain ⟨l, b, xs, zs, rfl, rfl, hH, hB, hz, q⟩ := h
  cases rx
  cases ry
  obtain ⟨its, r, ⟨⟨cls, dd, data, sl⟩, n, ho, hc, hdn, hd⟩, z⟩ := I.list hH
  obtain ⟨its2, r2, ⟨⟨cls2, dd2, data2, sl2⟩, n2, ho2, hc2, hdn2, hd2⟩, z2⟩ := I.list hB
  simp only at hc hd hc2 hd2
  subst hc hd hc2 hd2
  have hl := r.length
  have hl2 := r2.length
  refine concat_meets ⟨_, ho, rfl⟩ ⟨_, ho2, rfl⟩ noFill_list_add seq_list_add PySem.F.slot_list_add PySem.F.entry_list_add (PySem.F.args_list_add_2 _ _) (list_addW l b its.toArray its2.toArray n n2 dd dd2 sl sl2 (by rw [List.size_toArray, List.size_toArray]; omega)) ⟨ho, ho2, ?_⟩
  have ea : its.toArray ++ its2.toArray = (its ++ its2).toArray := by simp
  rw [ea]
  exact ⟨.ref _, _, I.lnew (t' := s.toks) (r.append r2) (by rw [List.length_append]; omega), rfl, q _ I.fresh⟩
theorem os_add : OpS X (binaryOp .Add) gAdd := by
  refine ⟨_, op_add.or (op_add_str.or (op_catA.or op_catR)), fun x y d e rv H F fh nt rx ry h Q q => ?_⟩
  cases d <;> cases e <;> first | (simp only [gAdd] at h; cases h; done) | skip
  · simp only [gAdd, Option.some.injEq] at h; subst h
    cases rx; cases ry
    exact .inl ⟨_, _, rfl, rfl, new_val fh nt q (.int _)⟩
  · simp only [gAdd] at h
    split at h
    · rename_i hc
      simp only [Option.some.injEq] at h; subst h
      cases rx with | str _ q1 => cases ry with | str _ q2 => exact .inr (.inl ⟨_, _, rfl, rfl, hc, new_val fh nt q (.str _ (sOk_app q1 q2 hc))⟩)
    · cases h
  · simp only [gAdd] at h
    split at h
    · rename_i hc
      simp only [Option.some.injEq] at h; subst h
      obtain ⟨_, a, xs, e1, s1, p1⟩ := rx
      obtain ⟨_, b, ys, e2, s2, p2⟩ := ry
      have l1 := p1.length
      have l2 := p2.length
      exact .inr (.inr (.inr ⟨a, b, xs, ys, e1, e2, s1, s2, by omega, fun p hp => new_lst fh nt q hp (by rw [List.length_append]; exact hc) (Pr.append p1 p2)⟩))
    · cases h
  · simp only [gAdd] at h
    split at h
    · rename_i hc
      simp only [Option.some.injEq] at h; subst h
      cases rx with
      | @tup a xs _ z1' s1 p1 =>
      cases ry with
      | @tup b ys _ z2' s2 p2 =>
        have l1 := p1.length
        have l2 := p2.length
        refine .inr (.inr (.inl ⟨a, b, xs, ys, rfl, rfl, sqT_mono fh s1, sqT_mono fh s2, by omega, fun z => ?_, fun z1 z => ?_, fun z1 z2 p hp => new_tup fh nt q hp (by rw [List.length_append]; exact hc) (Pr.append p1 p2)⟩))
        · have z' := (paired_nil p1).mp z
          subst z'
          exact new_val fh nt q (.tup z2' s2 p2)
        · have z' := (paired_nil p2).mp z
          subst z'
          refine new_val fh nt q ?_
          rw [List.append_nil]
          exact .tup z1' s1 p1
    · cases h
theorem small_of {u rm : Nat} {d e : D} (hu : u + rm < cLine) (hm : min d.dep e.dep ≤ rm) : d.dep < bigD ∨ e.dep < bigD := by
  have c : cLine < bigD := by decide
  omega
def gEq (rm : Nat) (d e : D) : Option RV := if min d.dep e.dep ≤ rm then some (.dat (.bl (d.eq e))) else none
def gNe (rm : Nat) (d e : D) : Option RV := if min d.dep e.dep ≤ rm then some (.dat (.bl (!d.eq e))) else none
theorem os_eq {rm : Nat} (hu : X.A.units + rm < cLine) : OpS X (compareOp .Eq) (gEq rm) := by
  refine ⟨fun x y H Q => ∃ d e : D, Rp X.K H x d ∧ Rp X.K H y e ∧ min d.dep e.dep ≤ rm ∧ Q (.bl (d.eq e)) H, ?_, fun x y d e rv H F fh nt rx ry h Q q => ?_⟩
  · intro pins s σ H x y v u Q I rx ry h
    obtain ⟨d, e, h1, h2, hm, q⟩ := h
    obtain ⟨as, r1⟩ := Rp.reads I d x v h1 rx
    obtain ⟨bs, r2⟩ := Rp.reads I e y u h2 ry
    have a1 := d.dep_py
    have a2 := e.dep_py
    refine Em.rcD d e X.A s v u as bs r1 r2 (h1.okS d x) (h2.okS e y) (small_of hu hm) (by omega) X.prog X.w _ _ ?_
    rw [Em.eq_py d e (h1.okS d x) (h2.okS e y) (small_of hu hm)]
    exact ⟨.bl _, H, I, rfl, q⟩
  · unfold gEq at h
    split at h
    · rename_i hc
      simp only [Option.some.injEq] at h; subst h
      exact ⟨d, e, rx.rp fh, ry.rp fh, hc, new_val fh nt q (.bl _)⟩
    · cases h
theorem os_ne {rm : Nat} (hu : X.A.units + rm < cLine) : OpS X (compareOp .NotEq) (gNe rm) := by
  refine ⟨fun x y H Q => ∃ d e : D, Rp X.K H x d ∧ Rp X.K H y e ∧ min d.dep e.dep ≤ rm ∧ Q (.bl (!d.eq e)) H, ?_, fun x y d e rv H F fh nt rx ry h Q q => ?_⟩
  · intro pins s σ H x y v u Q I rx ry h
    obtain ⟨d, e, h1, h2, hm, q⟩ := h
    obtain ⟨as, r1⟩ := Rp.reads I d x v h1 rx
    obtain ⟨bs, r2⟩ := Rp.reads I e y u h2 ry
    have a1 := d.dep_py
    have a2 := e.dep_py
    refine Em.neD d e X.A s v u as bs r1 r2 (h1.okS d x) (h2.okS e y) (small_of hu hm) (by omega) X.prog X.w _ _ ?_
    rw [Em.eq_py d e (h1.okS d x) (h2.okS e y) (small_of hu hm)]
    exact ⟨.bl _, H, I, rfl, q⟩
  · unfold gNe at h
    split at h
    · rename_i hc
      simp only [Option.some.injEq] at h; subst h
      exact ⟨d, e, rx.rp fh, ry.rp fh, hc, new_val fh nt q (.bl _)⟩
    · cases h
def D.lt (d e : D) : Bool := PySem.W.dataLt d.py e.py
def ordOk (rm : Nat) (d e : D) : Bool := PySem.W.alike d.py e.py && (match d with | .non => false | _ => true) && decide (min d.dep e.dep ≤ rm)
def gOrd (fi : Int → Int → Bool) (fd : D → D → Bool) (rm : Nat) : D → D → Option RV
  | .int i, .int j => some (.dat (.bl (fi i j)))
  | d, e => if ordOk rm d e then some (.dat (.bl (fd d e))) else none
def gLt := gOrd (fun i j => decide (i < j)) fun d e => d.lt e
def gGt := gOrd (fun i j => decide (j < i)) fun d e => e.lt d
def gLe := gOrd (fun i j => decide (i ≤ j)) fun d e => !e.lt d
def gGe := gOrd (fun i j => decide (j ≤ i)) fun d e => !d.lt e
theorem os_ord {op : CmpOp} {fi : Int → Int → Bool} {fd : D → D → Bool} {rm : Nat} (hu : X.A.units + rm < cLine) (hi : OpR X (compareOp op) (rI0 fun i j => .bl (fi i j)))
    (hd : ∀ (s : Shared) (a b : Value) (d e : D) (as bs : List Addr) (Q E : Value → Shared → Prop), Reads s.heap a d.py as → Reads s.heap b e.py bs → PySem.W.alike d.py e.py = true → d.py ≠ .none → X.A.units + min d.py.depth e.py.depth < cLine → Q (.bool (fd d e)) s →
      wpAny (model X.prog X.w) X.A (compareOp op a b) Q E s) : OpS X (compareOp op) (gOrd fi fd rm) := by
  have h2 : OpR X (compareOp op) (fun x y H Q => ∃ d e : D, Rp X.K H x d ∧ Rp X.K H y e ∧ ordOk rm d e = true ∧ Q (.bl (fd d e)) H) := by
    intro pins s σ H x y v u Q I rx ry h
    obtain ⟨d, e, h1, h2, hm, q⟩ := h
    obtain ⟨as, r1⟩ := Rp.reads I d x v h1 rx
    obtain ⟨bs, r2⟩ := Rp.reads I e y u h2 ry
    unfold ordOk at hm
    simp only [Bool.and_eq_true, decide_eq_true_eq] at hm
    obtain ⟨⟨m1, m2⟩, m3⟩ := hm
    have a1 := d.dep_py
    have a2 := e.dep_py
    have m3' : min d.py.depth e.py.depth ≤ rm := by omega
    refine hd s v u d e as bs _ _ r1 r2 m1 (fun z => ?_) (by omega) ⟨.bl _, H, I, rfl, q⟩
    cases d <;> first | (cases z; done) | (simp at m2)
  refine ⟨_, hi.or h2, fun x y d e rv H F fh nt rx ry h Q q => ?_⟩
  unfold gOrd at h
  split at h
  · simp only [Option.some.injEq] at h; subst h
    cases rx; cases ry
    exact .inl ⟨_, _, rfl, rfl, new_val fh nt q (.bl _)⟩
  · split at h
    · rename_i hc
      simp only [Option.some.injEq] at h; subst h
      exact .inr ⟨d, e, rx.rp fh, ry.rp fh, hc, new_val fh nt q (.bl _)⟩
    · cases h
theorem os_lt {rm : Nat} (hu : X.A.units + rm < cLine) : OpS X (compareOp .Lt) (gLt rm) := os_ord hu op_lt fun _ _ _ _ _ _ _ _ _ r1 r2 h1 h2 h3 q => PySem.W.lt_data r1 r2 h1 h2 h3 q
theorem os_gt {rm : Nat} (hu : X.A.units + rm < cLine) : OpS X (compareOp .Gt) (gGt rm) := os_ord hu op_gt fun _ _ _ _ _ _ _ _ _ r1 r2 h1 h2 h3 q => PySem.W.gt_data r1 r2 h1 h2 h3 q
theorem os_le {rm : Nat} (hu : X.A.units + rm < cLine) : OpS X (compareOp .LtE) (gLe rm) := os_ord hu op_le fun _ _ _ _ _ _ _ _ _ r1 r2 h1 h2 h3 q => PySem.W.le_data r1 r2 h1 h2 h3 q
theorem os_ge {rm : Nat} (hu : X.A.units + rm < cLine) : OpS X (compareOp .GtE) (gGe rm) := os_ord hu op_ge fun _ _ _ _ _ _ _ _ _ r1 r2 h1 h2 h3 q => PySem.W.ge_data r1 r2 h1 h2 h3 q
def D.isN : D → Bool
  | .non => true
  | _ => false
def gIs : D → D → Option RV
  | .bl a, .bl b => some (.dat (.bl (decide (a = b))))
  | d, .non => some (.dat (.bl d.isN))
  | _, _ => none
def gIsNot : D → D → Option RV
  | .bl a, .bl b => some (.dat (.bl (!decide (a = b))))
  | d, .non => some (.dat (.bl (!d.isN)))
  | _, _ => none
abbrev depAll (l : List D) : Nat := D.depL l
def inD (neg : Bool) (rm : Nat) : D → D → Option RV
  | d, .lst l => if 1 + min (depAll l) d.dep ≤ rm then some (.dat (.bl (neg ^^ l.any fun y => y.eq d))) else none
  | d, .tup l => if 1 + min (depAll l) d.dep ≤ rm then some (.dat (.bl (neg ^^ l.any fun y => y.eq d))) else none
  | .str ⟨⟨[c]⟩⟩, .str z => some (.dat (.bl (neg ^^ decide (c ∈ z.cps.toList))))
  | _, _ => none
theorem small_in {u rm a : Nat} {d : D} (hu : u + rm < cLine) (hm : 1 + min a d.dep ≤ rm) : a < bigD ∨ d.dep < bigD := by
  have c : cLine < bigD := by decide
  omega
theorem os_in {rm : Nat} (hu : X.A.units + rm < cLine) : OpS X (compareOp .In) (inD false rm) := by
  refine ⟨fun x y H Q => (∃ d l, Rp X.K H x d ∧ (Rp X.K H y (.lst l) ∨ Rp X.K H y (.tup l)) ∧ 1 + min (depAll l) d.dep ≤ rm ∧ Q (.bl (l.any fun y => y.eq d)) H) ∨ _, OpR.or ?_ op_in_sign, fun x y d e rv H F fh nt rx ry h Q q => ?_⟩
  · intro pins s σ H x y v u Q I rx ry h
    obtain ⟨d, l, h1, h2 | h2, hm, q⟩ := h
    · obtain ⟨as, r1⟩ := Rp.reads I d x v h1 rx
      obtain ⟨bs, r2⟩ := Rp.reads I (.lst l) y u h2 ry
      obtain ⟨p, vs, cs, rfl, e2, r3⟩ := Em.isL_of r2
      refine SeqAt.in_listAt _ e2 (Em.in_at r3 r1 (h2.okS (.lst l) y) (h1.okS d x) (small_in hu hm) (by have z : 1 + min (D.depL l) d.dep ≤ rm := hm; omega)) ?_
      rw [Em.in_arr r3, Em.any_pq (h1.okS d x) l (h2.okS (.lst l) y) (small_in hu hm)]
      exact ⟨.bl _, H, I, rfl, q⟩
    · obtain ⟨as, r1⟩ := Rp.reads I d x v h1 rx
      obtain ⟨bs, r2⟩ := Rp.reads I (.tup l) y u h2 ry
      obtain ⟨p, vs, cs, rfl, e2, r3⟩ := Em.isT_of r2
      refine SeqAt.in_tupleAt _ e2 (Em.in_at r3 r1 (h2.okS (.tup l) y) (h1.okS d x) (small_in hu hm) (by have z : 1 + min (D.depL l) d.dep ≤ rm := hm; omega)) ?_
      rw [Em.in_arr r3, Em.any_pq (h1.okS d x) l (h2.okS (.tup l) y) (small_in hu hm)]
      exact ⟨.bl _, H, I, rfl, q⟩
  · unfold inD at h
    split at h
    · split at h
      · rename_i hc
        simp only [Option.some.injEq, Bool.false_bne] at h; subst h
        exact .inl ⟨d, _, rx.rp fh, .inl (ry.rp fh), hc, new_val fh nt q (.bl _)⟩
      · cases h
    · split at h
      · rename_i hc
        simp only [Option.some.injEq, Bool.false_bne] at h; subst h
        exact .inl ⟨d, _, rx.rp fh, .inr (ry.rp fh), hc, new_val fh nt q (.bl _)⟩
      · cases h
    · simp only [Option.some.injEq, Bool.false_bne] at h; subst h
      cases rx; cases ry
      exact .inr ⟨_, _, rfl, rfl, new_val fh nt q (.bl _)⟩
    · cases h
theorem os_notin {rm : Nat} (hu : X.A.units + rm < cLine) : OpS X (compareOp .NotIn) (inD true rm) := by
  refine ⟨fun x y H Q => (∃ d l, Rp X.K H x d ∧ (Rp X.K H y (.lst l) ∨ Rp X.K H y (.tup l)) ∧ 1 + min (depAll l) d.dep ≤ rm ∧ Q (.bl (!l.any fun y => y.eq d)) H) ∨ _, OpR.or ?_ op_notIn_sign, fun x y d e rv H F fh nt rx ry h Q q => ?_⟩
  · intro pins s σ H x y v u Q I rx ry h
    obtain ⟨d, l, h1, h2 | h2, hm, q⟩ := h
    · obtain ⟨as, r1⟩ := Rp.reads I d x v h1 rx
      obtain ⟨bs, r2⟩ := Rp.reads I (.lst l) y u h2 ry
      obtain ⟨p, vs, cs, rfl, e2, r3⟩ := Em.isL_of r2
      refine SeqAt.notIn_listAt _ e2 (Em.in_at r3 r1 (h2.okS (.lst l) y) (h1.okS d x) (small_in hu hm) (by have z : 1 + min (D.depL l) d.dep ≤ rm := hm; omega)) ?_
      rw [Em.in_arr r3, Em.any_pq (h1.okS d x) l (h2.okS (.lst l) y) (small_in hu hm)]
      exact ⟨.bl _, H, I, rfl, q⟩
    · obtain ⟨as, r1⟩ := Rp.reads I d x v h1 rx
      obtain ⟨bs, r2⟩ := Rp.reads I (.tup l) y u h2 ry
      obtain ⟨p, vs, cs, rfl, e2, r3⟩ := Em.isT_of r2
      refine SeqAt.notIn_tupleAt _ e2 (Em.in_at r3 r1 (h2.okS (.tup l) y) (h1.okS d x) (small_in hu hm) (by have z : 1 + min (D.depL l) d.dep ≤ rm := hm; omega)) ?_
      rw [Em.in_arr r3, Em.any_pq (h1.okS d x) l (h2.okS (.tup l) y) (small_in hu hm)]
      exact ⟨.bl _, H, I, rfl, q⟩
  · unfold inD at h
    split at h
    · split at h
      · rename_i hc
        simp only [Option.some.injEq, Bool.true_bne] at h; subst h
        exact .inl ⟨d, _, rx.rp fh, .inl (ry.rp fh), hc, new_val fh nt q (.bl _)⟩
      · cases h
    · split at h
      · rename_i hc
        simp only [Option.some.injEq, Bool.true_bne] at h; subst h
        exact .inl ⟨d, _, rx.rp fh, .inr (ry.rp fh), hc, new_val fh nt q (.bl _)⟩
      · cases h
    · simp only [Option.some.injEq, Bool.true_bne] at h; subst h
      cases rx; cases ry
      exact .inr ⟨_, _, rfl, rfl, new_val fh nt q (.bl _)⟩
    · cases h
end
end Dl
namespace Dl
open PySem PySem.Spec PyProof.Rows L2 NdefX
def vals1 (g : D → Option RV) (a : RV) : Option RV := match a.val with
  | some x => g x
  | none => none
theorem vals1_some {g : D → Option RV} {a r : RV} (h : vals1 g a = some r) : ∃ x, a.val = some x ∧ g x = some r := by
  unfold vals1 at h
  cases e : a.val with
  | none => rw [e] at h; cases h
  | some x => rw [e] at h; exact ⟨x, rfl, h⟩
def dUn (g : D → Option RV) (a : Ex) : Ex := fun env w => (a env w).bind fun ra w1 => lift (vals1 g ra) w1
def gNeg : D → Option RV
  | .int i => some (.dat (.int (-i)))
  | _ => none
def gNot : D → Option RV
  | .bl b => some (.dat (.bl (!b)))
  | _ => none
section
variable {X : Cx} {T : Tbs} {Wi : WX} {pos : Pos} {a b c : Expr} {da db dc : Ex} {rest : List Expr}
theorem un_read {g : D → Option RV} {r : V → Hp → VK → Prop} (hr : ∀ x d rv H F, Same F H → NoTbl F → Rv X.K F H x d → g d = some rv → ∀ Q : VK, (∀ v H' F', Xt H F H' F' → rv.newAt X.K H H' F' v → Q v H') → r x H Q)
    {σ : St} {H : Hp} {Q : VK} (q : tD (Cx.tx X T) Wi (dUn g da) σ H Q) : tD (Cx.tx X T) Wi da σ H (fun x H1 => r x H1 Q) := by
  obtain ⟨B, env, w, F, O, M, s, q⟩ := q
  refine ⟨B, env, w, F, O, M, s, q.bind.imp fun ra w1 q1 x H1 F1 M1 s1 st1 r1 => ?_⟩
  obtain ⟨rv, e, q3⟩ := q1.lift
  obtain ⟨d, ea, eg⟩ := vals1_some e
  refine hr x d rv H1 F1 s1.fh s1.nt (RV.rv s1 r1 ea) eg Q fun v H' F' xt nw => ?_
  exact q3 v H' F' M1 (s1.xt xt) (st1.trans xt.stp) (RV.of_new nw s1 st1.th)
theorem je_not (ha : JE X T Wi a da) : JE X T Wi (.UnaryOp .Not a pos) (dUn gNot da) := by
  refine (pe_not ha).impD fun σ H Q q => un_read (r := fun x H1 Q => ∃ c, x = .bl c ∧ Q (.bl (!c)) H1) (fun x d rv H F fh nt rx h Q q => ?_) q
  cases d <;> first | (simp only [gNot] at h; cases h; done) | skip
  simp only [gNot, Option.some.injEq] at h; subst h
  cases rx
  exact ⟨_, rfl, new_val fh nt q (.bl _)⟩
def dAnd (a b : Ex) : Ex := fun env w => (a env w).bind fun ra w1 => match ra with
  | .dat (.bl true) => b env w1
  | .dat (.bl false) => .ok (.dat (.bl false)) w1
  | _ => .stuck
def dOr (a b : Ex) : Ex := fun env w => (a env w).bind fun ra w1 => match ra with
  | .dat (.bl false) => b env w1
  | .dat (.bl true) => .ok (.dat (.bl true)) w1
  | _ => .stuck
theorem je_one {op} (ha : JE X T Wi a da) : JE X T Wi (.BoolOp op [a] pos) da := pe_one ha
theorem je_and (ha : JE X T Wi a da) (hb : JE X T Wi (.BoolOp .And (b :: rest) pos) db) : JE X T Wi (.BoolOp .And (a :: b :: rest) pos) (dAnd da db) := by
  refine (pe_and ha hb).impD fun σ H Q q => ?_
  obtain ⟨B, env, w, F, O, M, s, q⟩ := q
  refine ⟨B, env, w, F, O, M, s, q.bind.imp fun ra w1 q1 x H1 F1 M1 s1 st1 r1 => ?_⟩
  split at q1
  · cases r1
    refine ⟨true, rfl, ?_⟩
    rw [if_pos rfl]
    exact ⟨B, env, w1, F1, _, M1, s1, q1.imp fun rb w2 q2 v H2 F2 M2 s2 st2 r2 => q2 v H2 F2 M2 s2 (st1.trans st2) (RV.since r2 st1.th)⟩
  · cases r1
    refine ⟨false, rfl, ?_⟩
    rw [if_neg Bool.false_ne_true]
    exact q1 _ _ _ _ s1 st1 (.bl false)
  · exact q1.elim
abbrev Tst := Ev → World → Out Bool
def dTst (a : Ex) : Tst := fun env w => (a env w).bind fun ra w1 => match ra with
  | .dat (.bl b) => .ok b w1
  | _ => .stuck
def D.truth : D → Option Bool
  | .non => some false
  | .bl b => some b
  | .int i => some (i != 0)
  | .str s => some ((s.length : Int) != 0)
  | .lst l => some (!l.isEmpty)
  | .tup l => some (!l.isEmpty)
  | .dic kvs => some (!kvs.isEmpty)
def dTru (a : Ex) : Tst := fun env w => (a env w).bind fun ra w1 => match ra.val with
  | some d => (match d.truth with
    | some b => .ok b w1
    | none => .stuck)
  | none => .stuck
theorem tst_read {σ : St} {H : Hp} {Q : Bool → Hp → Prop} (q : tT (Cx.tx X T) Wi (dTst da) σ H Q) : tD (Cx.tx X T) Wi da σ H (fun x H1 => ∃ c, x = .bl c ∧ Q c H1) := by
  obtain ⟨B, env, w, F, O, M, s, q⟩ := q
  refine ⟨B, env, w, F, O, M, s, q.bind.imp fun ra w1 q1 x H1 F1 M1 s1 st1 r1 => ?_⟩
  split at q1
  · cases r1; exact ⟨_, rfl, q1 _ _ _ s1 st1⟩
  · exact q1.elim
theorem jt_cmp {op : CmpOp} {g : D → D → Option RV} (h : OpS X (compareOp op) g) (ha : JE X T Wi a da) (hb : JE X T Wi b db) (hm : behindInMarks op b = false := by first | exact nomark _ | rfl) : JT X T Wi (.Compare a [op] [b] pos) (dTst (dBin g da db)) := by
  obtain ⟨r, ho, hr⟩ := h
  exact (pt_cmpR ho ha hb hm).impD fun σ H Q q => op_read (f := compareOp op) hr (tst_read q)
theorem jt_truth (ha : JE X T Wi a da) (he : ∀ whole, isTrue a X.env whole = (do let v ← whole; standAt a.pos; holding [v] (truthy v)) := by intro _; rfl) : JT X T Wi a (dTru da) := by
  refine (pt_truth ha he).impD fun σ H Q q => ?_
  obtain ⟨B, env, w, F, O, M, s, q⟩ := q
  refine ⟨B, env, w, F, O, M, s, q.bind.imp fun ra w1 q1 x H1 F1 M1 s1 st1 r1 => ?_⟩
  split at q1
  · rename_i d ed
    split at q1
    · rename_i k ek
      refine ⟨k, ?_, q1 _ _ _ s1 st1⟩
      have rv := RV.rv s1 r1 ed
      cases d with
      | non => cases rv; simp only [D.truth, Option.some.injEq] at ek; exact ek.symm
      | bl b => cases rv; simp only [D.truth, Option.some.injEq] at ek; exact ek.symm
      | int i => cases rv; simp only [D.truth, Option.some.injEq] at ek; exact ek.symm
      | str y =>
        cases rv with
        | str _ ok => simp only [D.truth, Option.some.injEq] at ek; exact ⟨ok.2, ek.symm⟩
      | lst l =>
        obtain ⟨_, p, vs, e, hs, hp⟩ := rv
        subst e
        simp only [D.truth, Option.some.injEq] at ek
        refine .inl ⟨vs, hs, ?_⟩
        rw [← ek]
        cases hp <;> rfl
      | tup l =>
        cases rv with
        | tup hz hs hp =>
          simp only [D.truth, Option.some.injEq] at ek
          refine .inr (.inl ⟨_, sqT_mono s1.fh hs, ?_⟩)
          rw [← ek]
          cases hp <;> rfl
      | dic kvs =>
        cases rv with
        | dic hk qd =>
          simp only [D.truth, Option.some.injEq] at ek
          exact .inr (.inr ⟨mapK kvs, s1.fh _ _ qd, by rw [← ek]; cases kvs <;> rfl⟩)
    · exact q1.elim
  · exact q1.elim
def tNot' (a : Tst) : Tst := fun env w => (a env w).bind fun b w1 => .ok (!b) w1
def tAnd' (a b : Tst) : Tst := fun env w => (a env w).bind fun c w1 => if c = true then b env w1 else .ok false w1
def tOr' (a b : Tst) : Tst := fun env w => (a env w).bind fun c w1 => if c = true then .ok true w1 else b env w1
variable {ta tb : Tst}
theorem jt_not (ha : JT X T Wi a ta) : JT X T Wi (.UnaryOp .Not a pos) (tNot' ta) := by
  refine (pt_not ha).impD fun σ H Q q => ?_
  obtain ⟨B, env, w, F, O, M, s, q⟩ := q
  exact ⟨B, env, w, F, O, M, s, q.bind.imp fun c w1 q1 H1 F1 M1 s1 st1 => q1 H1 F1 M1 s1 st1⟩
theorem jw_and1 (ha : JT X T Wi a ta) : JW X T Wi (.BoolOp .And [a] pos) ta := pw_and1 ha
theorem jw_or1 (ha : JT X T Wi a ta) : JW X T Wi (.BoolOp .Or [a] pos) ta := pw_or1 ha
theorem jw_and (ha : JT X T Wi a ta) (hb : JW X T Wi (.BoolOp .And (b :: rest) pos) tb) : JW X T Wi (.BoolOp .And (a :: b :: rest) pos) (tAnd' ta tb) := by
  refine (pw_and ha hb).impD fun σ H Q q => ?_
  obtain ⟨B, env, w, F, O, M, s, q⟩ := q
  refine ⟨B, env, w, F, O, M, s, q.bind.imp fun c w1 q1 H1 F1 M1 s1 st1 => ?_⟩
  cases c with
  | true =>
    rw [if_pos rfl] at q1 ⊢
    exact ⟨B, env, w1, F1, O, M1, s1, q1.imp fun _ w2 q2 H2 F2 M2 s2 st2 => q2 H2 F2 M2 s2 (st1.trans st2)⟩
  | false =>
    rw [if_neg Bool.false_ne_true] at q1 ⊢
    exact q1 H1 F1 M1 s1 st1
theorem jw_or (ha : JT X T Wi a ta) (hb : JW X T Wi (.BoolOp .Or (b :: rest) pos) tb) : JW X T Wi (.BoolOp .Or (a :: b :: rest) pos) (tOr' ta tb) := by
  refine (pw_or ha hb).impD fun σ H Q q => ?_
  obtain ⟨B, env, w, F, O, M, s, q⟩ := q
  refine ⟨B, env, w, F, O, M, s, q.bind.imp fun c w1 q1 H1 F1 M1 s1 st1 => ?_⟩
  cases c with
  | true =>
    rw [if_pos rfl] at q1 ⊢
    exact q1 H1 F1 M1 s1 st1
  | false =>
    rw [if_neg Bool.false_ne_true] at q1 ⊢
    exact ⟨B, env, w1, F1, O, M1, s1, q1.imp fun _ w2 q2 H2 F2 M2 s2 st2 => q2 H2 F2 M2 s2 (st1.trans st2)⟩
theorem jt_bool {op} (h : JW X T Wi (.BoolOp op (a :: rest) pos) ta) : JT X T Wi (.BoolOp op (a :: rest) pos) ta := PW.pt h
def dIf (t : Tst) (a b : Ex) : Ex := fun env w => (t env w).bind fun c w1 => if c = true then a env w1 else b env w1
theorem je_if (hc : JT X T Wi c ta) (ha : JE X T Wi a da) (hb : JE X T Wi b db) : JE X T Wi (.IfExp c a b pos) (dIf ta da db) := by
  refine (pe_ifExp hc ha hb).impD fun σ H Q q => ?_
  obtain ⟨B, env, w, F, O, M, s, q⟩ := q
  refine ⟨B, env, w, F, O, M, s, q.bind.imp fun c w1 q1 H1 F1 M1 s1 st1 => ?_⟩
  cases c with
  | true =>
    rw [if_pos rfl] at q1 ⊢
    exact ⟨B, env, w1, F1, O, M1, s1, q1.imp fun rb w2 q2 v H2 F2 M2 s2 st2 r2 => q2 v H2 F2 M2 s2 (st1.trans st2) (RV.since r2 st1.th)⟩
  | false =>
    rw [if_neg Bool.false_ne_true] at q1 ⊢
    exact ⟨B, env, w1, F1, O, M1, s1, q1.imp fun rb w2 q2 v H2 F2 M2 s2 st2 r2 => q2 v H2 F2 M2 s2 (st1.trans st2) (RV.since r2 st1.th)⟩
def dChain (g g' : D → D → Option RV) (a b c : Ex) : Ex := fun env w => (a env w).bind fun ra w1 => (b env w1).bind fun rb w2 => match vals2 g ra rb with
  | some (.dat (.bl true)) => (c env w2).bind fun rc w3 => lift (vals2 g' rb rc) w3
  | some (.dat (.bl false)) => .ok (.dat (.bl false)) w2
  | _ => .stuck
theorem chain_read {f f' : Value → Value → Sem Value} {g g' : D → D → Option RV} {r r' : R2} (hr : ∀ x y d e rv H F, Same F H → NoTbl F → Rv X.K F H x d → Rv X.K F H y e → g d e = some rv → ∀ Q : VK, (∀ v H' F', Xt H F H' F' → rv.newAt X.K H H' F' v → Q v H') → r x y H Q)
    (hr' : ∀ x y d e rv H F, Same F H → NoTbl F → Rv X.K F H x d → Rv X.K F H y e → g' d e = some rv → ∀ Q : VK, (∀ v H' F', Xt H F H' F' → rv.newAt X.K H H' F' v → Q v H') → r' x y H Q)
    {σ : St} {H : Hp} {Q : VK} (q : tD (Cx.tx X T) Wi (dChain g g' da db dc) σ H Q) : tChain r r' (tD (Cx.tx X T) Wi da) (tD (Cx.tx X T) Wi db) (tD (Cx.tx X T) Wi dc) σ H Q := by
  obtain ⟨B, env, w, F, O, M, s, q⟩ := q
  refine ⟨B, env, w, F, O, M, s, q.bind.imp fun ra w1 q1 x H1 F1 M1 s1 st1 r1 => ?_⟩
  refine ⟨B, env, w1, F1, O, M1, s1, q1.bind.imp fun rb w2 q2 y H2 F2 M2 s2 st2 r2 => ?_⟩
  split at q2
  · rename_i e
    obtain ⟨d, e', ea, eb, eg⟩ := vals2_some e
    refine hr x y d e' _ H2 F2 s2.fh s2.nt (RV.rv s2 (RV.step r1 st2) ea) (RV.rv s2 r2 eb) eg _ fun v H3 F3 xt nw => ?_
    cases nw
    refine ⟨true, rfl, ?_⟩
    rw [if_pos rfl]
    have s3 := s2.xt xt
    have r2' := RV.step r2 (xt.stp (M := M2))
    refine ⟨B, env, w2, F3, O, M2, s3, q2.bind.imp fun rc w4 q4 z H4 F4 M4 s4 st4 r4 => ?_⟩
    obtain ⟨rv, e2, q5⟩ := q4.lift
    obtain ⟨d2, e2', ea2, eb2, eg2⟩ := vals2_some e2
    refine hr' y z d2 e2' rv H4 F4 s4.fh s4.nt (RV.rv s4 (RV.step r2' st4) ea2) (RV.rv s4 r4 eb2) eg2 Q fun v5 H5 F5 xt5 nw5 => ?_
    have st := ((st1.trans st2).trans xt.stp).trans st4
    exact q5 v5 H5 F5 M4 (s4.xt xt5) (st.trans xt5.stp) (RV.of_new nw5 s4 st.th)
  · rename_i e
    obtain ⟨d, e', ea, eb, eg⟩ := vals2_some e
    refine hr x y d e' _ H2 F2 s2.fh s2.nt (RV.rv s2 (RV.step r1 st2) ea) (RV.rv s2 r2 eb) eg _ fun v H3 F3 xt nw => ?_
    cases nw
    refine ⟨false, rfl, ?_⟩
    rw [if_neg Bool.false_ne_true]
    exact q2 _ _ _ _ (s2.xt xt) ((st1.trans st2).trans xt.stp) (.bl false)
  · exact q2.elim
theorem je_chain {op op' : CmpOp} {g g' : D → D → Option RV} (h : OpS X (compareOp op) g) (h' : OpS X (compareOp op') g') (ha : JE X T Wi a da) (hb : JE X T Wi b db) (hc : JE X T Wi c dc) (hm : lastMarks [op, op'] [b, c] = false := by with_unfolding_all rfl) :
    JE X T Wi (.Compare a [op, op'] [b, c] pos) (dChain g g' da db dc) := by
  obtain ⟨r, ho, hr⟩ := h
  obtain ⟨r', ho', hr'⟩ := h'
  exact (pe_chain ho ho' ha hb hc hm).impD fun σ H Q q => chain_read (f := compareOp op) (f' := compareOp op') hr hr' q
theorem jt_chain {op op' : CmpOp} {g g' : D → D → Option RV} (h : OpS X (compareOp op) g) (h' : OpS X (compareOp op') g') (ha : JE X T Wi a da) (hb : JE X T Wi b db) (hc : JE X T Wi c dc) (hm : lastMarks [op, op'] [b, c] = false := by with_unfolding_all rfl) :
    JT X T Wi (.Compare a [op, op'] [b, c] pos) (dTst (dChain g g' da db dc)) := by
  obtain ⟨r, ho, hr⟩ := h
  obtain ⟨r', ho', hr'⟩ := h'
  exact (pt_chain ho ho' ha hb hc hm).impD fun σ H Q q => chain_read (f := compareOp op) (f' := compareOp op') hr hr' (tst_read q)
theorem atI_pair {α β : Type} {F : α → β → Prop} {vs : List α} {l : List β} {i : Int} {d : β} (h : Paired F vs l) (e : atI l i = some d) : ∃ v, atI vs i = some v ∧ F v d := by
  unfold atI at e ⊢
  rw [h.length]
  cases q : ixN l.length i with
  | none => rw [q] at e; cases e
  | some j => rw [q] at e; exact Pr.get h e
def gIx : D → D → Option RV
  | .lst l, .int i => (atI l i).map .dat
  | .tup l, .int i => (atI l i).map .dat
  | .str s, .int i => (atI s.cps.toList i).map fun c => .dat (.str ⟨#[c]⟩)
  | _, _ => none
theorem sOk_mem {s : Str} {c : Nat} (h : SOk s) (hc : c ∈ s.cps.toList) : SOk ⟨#[c]⟩ := by
  obtain ⟨h, _⟩ := h
  refine ⟨?_, by show 1 ≤ sizeLine; rw [sizeLine_eq]; decide⟩
  unfold PyData.strOk at *
  rw [Array.all_eq_true_iff_forall_mem] at h
  have := h c (by simpa using hc)
  simpa using this
theorem atI_mem {α : Type} {l : List α} {i : Int} {d : α} (e : atI l i = some d) : d ∈ l := by
  obtain ⟨j, _, h, _⟩ := atI_get e
  exact List.mem_of_getElem? h
theorem je_ix (ha : JE X T Wi a da) (hb : JE X T Wi b db) (hs : PlainIx b := by exact fun _ _ => rfl) : JE X T Wi (.Subscript a b pos) (dBin gIx da db) := by
  refine (pe_ix ix_seq ha hb hs).impD fun σ H Q q => op_read (f := getItem) (r := rIx X.K) (fun x y d e rv H F fh nt rx ry h Q q => ?_) q
  cases d <;> cases e <;> first | (simp only [gIx] at h; cases h; done) | skip
  · rename_i z i
    simp only [gIx] at h
    cases ec : atI z.cps.toList i with
    | none => rw [ec] at h; cases h
    | some c =>
      rw [ec] at h
      simp only [Option.map_some, Option.some.injEq] at h; subst h
      cases rx with
      | str _ ok =>
        cases ry
        exact .inr (.inr ⟨_, _, c, rfl, rfl, ok.2, ec, new_val fh nt q (.str _ (sOk_mem ok (atI_mem ec)))⟩)
  · rename_i l i
    simp only [gIx] at h
    cases ec : atI l i with
    | none => rw [ec] at h; cases h
    | some c =>
      rw [ec] at h
      simp only [Option.map_some, Option.some.injEq] at h; subst h
      obtain ⟨_, p, vs, e, hs, hp⟩ := rx
      subst e
      cases ry
      obtain ⟨v, ev, rv⟩ := atI_pair hp ec
      exact .inl ⟨p, vs, _, v, rfl, rfl, hs, ev, new_val fh nt q rv⟩
  · rename_i l i
    simp only [gIx] at h
    cases ec : atI l i with
    | none => rw [ec] at h; cases h
    | some c =>
      rw [ec] at h
      simp only [Option.map_some, Option.some.injEq] at h; subst h
      cases rx with
      | tup hz hs hp =>
        cases ry
        obtain ⟨v, ev, rv⟩ := atI_pair hp ec
        exact .inr (.inl ⟨_, _, _, v, rfl, rfl, sqT_mono fh hs, ev, new_val fh nt q rv⟩)
def optI (o : Option Ex) (env : Ev) (w : World) : Out (Option Int) := match o with
  | none => .ok none w
  | some e => (e env w).bind fun r w1 => match r with
    | .dat (.int i) => .ok (some i) w1
    | _ => .stuck
def cutD {α : Type} (l : List α) (lo hi : Option Int) : List α := (l.drop (HT.sIx l.length 0 lo)).take (HT.sIx l.length l.length hi - HT.sIx l.length 0 lo)
def gSl (lo hi : Option Int) : D → Option RV
  | .lst l => some (.fresh (cutD l lo hi))
  | .tup l => some (.dat (.tup (cutD l lo hi)))
  | .str s => some (.dat (.str ⟨(cutD s.cps.toList lo hi).toArray⟩))
  | _ => none
def dSl (a : Ex) (lo hi : Option Ex) : Ex := fun env w => (a env w).bind fun ra w1 => (optI lo env w1).bind fun l w2 => (optI hi env w2).bind fun u w3 => lift (vals1 (gSl l u) ra) w3
end
end Dl
namespace Dl
open PySem PySem.Spec PyProof.Rows L2 NdefX
def RV.arg : RV → Option RV
  | .dat d => some (.dat d)
  | .fresh l => some (.dat (.lst l))
  | .bor _ _ => none
  | .wref k => some (.wref k)
def argAt (X : Tx) (F : Hp) (M : List Addr) (v : V) : RV → Prop
  | .dat d => Rp X.K F v d
  | .wref k => ∃ m, M[k]? = some m ∧ v = .ref m
  | _ => False
abbrev Exs := Ev → World → Out (List RV)
def aNil : Exs := fun _ w => .ok [] w
def aCons (e : Ex) (r : Exs) : Exs := fun env w => (e env w).bind fun x w1 => match x.arg with
  | some a => (r env w1).bind fun as w2 => .ok (a :: as) w2
  | none => .stuck
def rNil : Exs := fun _ w => .ok [] w
def rCons (e : Ex) (r : Exs) : Exs := fun env w => (e env w).bind fun x w1 => (r env w1).bind fun xs w2 => .ok (x :: xs) w2
def tA (X : Tx) (Wi : WX) (e : Exs) : TA := fun σ H Q => ∃ B env w F O M, SR X B env w σ H F O M ∧
  Pst (e env w) (fun rs w' => ∀ vs H' F' M', SR X B env w' σ H' F' O M' → Stp H F M H' F' M' → Paired (argAt X F' M') vs rs → Q vs H') (badX X B Wi)
abbrev JA (X : Cx) (T : Tbs) (Wi : WX) (es : List Expr) (d : Exs) : Prop := PA X es (tA (Cx.tx X T) Wi d)
section
variable {X : Tx} {H F H' F' : Hp} {M M' : List Addr}
theorem Stp.freeze {p : Addr} {o : HO} (st : Stp H F M H' F' M') (hp : H p = none) (hF : F' p = none) : Stp H F M H' (upd F' p o) M' :=
  ⟨st.fg.trans (same_upd hF), st.fr, st.th, fun a h e => by
    by_cases z : a = p
    · subst z; exact absurd hp h
    · rw [upd_ne z]; exact st.nf a h e, st.mw⟩
theorem argAt_step {v : V} {r : RV} (h : argAt X F M v r) (st : Stp H F M H' F' M') : argAt X F' M' v r := by
  obtain ⟨nw, em, _⟩ := id st.mw
  cases r with
  | dat d => exact Rp.mono st.fg _ _ h
  | wref k => obtain ⟨m, e1, e2⟩ := h; exact ⟨m, mem_of_pfx em e1, e2⟩
  | fresh l => exact h.elim
  | bor i l => exact h.elim
theorem keep_arg {B : Base} {env : Ev} {w w1 : World} {σ : St} {O : Nat → Addr} {v : V} {r a : RV} (s : SR X B env w σ H F O M) (s1 : SR X B env w1 σ H' F' O M') (st : Stp H F M H' F' M') (h : r.isAt X H env O H' F' M' v) (e : r.arg = some a) :
    ∃ F1, SR X B env w1 σ H' F1 O M' ∧ Stp H F M H' F1 M' ∧ argAt X F1 M' v a := by
  cases r with
  | dat d => cases e; exact ⟨F', s1, st, h⟩
  | wref k => cases e; exact ⟨F', s1, st, h⟩
  | bor i l => cases e
  | fresh l =>
    cases e
    obtain ⟨hz, p, vs, e1, e2, e3, e4, e5, e6⟩ := h
    have hB : B.H p = none := by
      cases q : B.H p with
      | none => rfl
      | some o => exact absurd e2 (s.st.th p (by rw [q]; simp))
    have hO : ∀ i l, env[i]? = some (.own l) → O i ≠ p := fun i l e z => by
      obtain ⟨_, _, _, _, _, ws, q, _⟩ := s.sl i _ e
      rw [z, e2] at q; cases q
    refine ⟨upd F' p (.lst vs), s1.freeze hB e4 hO e5 e3, st.freeze e2 e3, ?_⟩
    subst e1
    exact .lst hz (SqL.of upd_same) (Rp.monoAll (same_upd e3) _ _ e6)
end
section
variable {X : Cx} {T : Tbs} {Wi : WX} {pos : Pos} {e : Expr} {es : List Expr} {d : Ex} {ds : Exs}
theorem ja_nil : JA X T Wi [] aNil := pa_nil.impD fun σ H Q q => by
  obtain ⟨B, env, w, F, O, M, s, q⟩ := q
  exact q [] H F M s .refl .nil
theorem ja_cons (h : JE X T Wi e d) (hs : JA X T Wi es ds) (hst : starEach (e :: es) X.env = (false, eval e X.env) :: starEach es X.env := by rfl) : JA X T Wi (e :: es) (aCons d ds) := by
  refine (pa_cons h hs hst).impD fun σ H Q q => ?_
  obtain ⟨B, env, w, F, O, M, s, q⟩ := q
  refine ⟨B, env, w, F, O, M, s, q.bind.imp fun r w1 q1 x H1 F1 M1 s1 st1 r1 => ?_⟩
  split at q1
  · rename_i a ea
    obtain ⟨F2, s2, st2, a2⟩ := keep_arg s s1 st1 r1 ea
    exact ⟨B, env, w1, F2, O, M1, s2, q1.bind.imp fun as w3 q3 vs H3 F3 M3 s3 st3 p3 => q3 (x :: vs) H3 F3 M3 s3 (st2.trans st3) (.cons (argAt_step a2 st3) p3)⟩
  · exact q1.elim
theorem jr_nil : JR X T Wi [] rNil := pa_nil.impD fun σ H Q q => by
  obtain ⟨B, env, w, F, O, M, s, q⟩ := q
  exact q [] H F M s .refl .nil
theorem jr_cons (h : JE X T Wi e d) (hs : JR X T Wi es ds) (hst : starEach (e :: es) X.env = (false, eval e X.env) :: starEach es X.env := by rfl) : JR X T Wi (e :: es) (rCons d ds) := by
  refine (pa_cons h hs hst).impD fun σ H Q q => ?_
  obtain ⟨B, env, w, F, O, M, s, q⟩ := q
  refine ⟨B, env, w, F, O, M, s, q.bind.imp fun r w1 q1 x H1 F1 M1 s1 st1 r1 => ?_⟩
  exact ⟨B, env, w1, F1, O, M1, s1, q1.bind.imp fun as w3 q3 vs H3 F3 M3 s3 st3 p3 => q3 (x :: vs) H3 F3 M3 s3 (st1.trans st3) (.cons (RV.step r1 st3) (Paired.mapP p3 fun _ _ z => RV.since z st1.th))⟩
def RV.dd : RV → Option D
  | .dat d => some d
  | _ => none
def dats : List RV → Option (List D)
  | [] => some []
  | r :: rs => match r.dd, dats rs with
    | some d, some ds => some (d :: ds)
    | _, _ => none
theorem dats_at {X : Tx} {F : Hp} {M : List Addr} : ∀ {vs : List V} {rs : List RV} {ds : List D}, Paired (argAt X F M) vs rs → dats rs = some ds → Paired (Rp X.K F) vs ds
  | _, _, _, .nil, e => by cases e; exact .nil
  | _, r :: rs, ds, .cons h t, e => by
    unfold dats at e
    split at e
    · rename_i d ds' e1 e2
      cases e
      refine .cons ?_ (dats_at t e2)
      cases r with
      | dat d' => cases e1; exact h
      | _ => cases e1
    · cases e
def dTup (es : Exs) : Ex := fun env w => (es env w).bind fun rs w1 => match dats rs with
  | some ds => if ds.length ≤ 1000 then .ok (.dat (.tup ds)) w1 else .stuck
  | none => .stuck
def dLst (es : Exs) : Ex := fun env w => (es env w).bind fun rs w1 => match dats rs with
  | some ds => if ds.length ≤ 1000 then .ok (.fresh ds) w1 else .stuck
  | none => .stuck
theorem je_tup {k : Nat} (h : JA X T Wi es ds) : JE X T Wi (.Tuple es k pos) (dTup ds) := by
  refine (pe_tup h).impD fun σ H Q q => ?_
  obtain ⟨B, env, w, F, O, M, s, q⟩ := q
  refine ⟨B, env, w, F, O, M, s, q.bind.imp fun rs w1 q1 vs H1 F1 M1 s1 st1 p1 => ?_⟩
  split at q1
  · rename_i l el
    split at q1
    · rename_i hz
      have pp := dats_at p1 el
      have hz' : l.length ≤ sizeLine := Nat.le_trans hz (by rw [sizeLine_eq]; decide)
      exact ⟨by rw [pp.length]; exact hz', fun p hp => new_tup s1.fh s1.nt (fun v H' F' xt nw => q1 v H' F' M1 (s1.xt xt) (st1.trans xt.stp) (RV.of_new nw s1 st1.th)) hp hz' pp⟩
    · exact q1.elim
  · exact q1.elim
theorem je_lst (h : JA X T Wi es ds) : JE X T Wi (.List es pos) (dLst ds) := by
  refine (pe_lst h).impD fun σ H Q q => ?_
  obtain ⟨B, env, w, F, O, M, s, q⟩ := q
  refine ⟨B, env, w, F, O, M, s, q.bind.imp fun rs w1 q1 vs H1 F1 M1 s1 st1 p1 => ?_⟩
  split at q1
  · rename_i l el
    split at q1
    · rename_i hz
      have pp := dats_at p1 el
      have hz' : l.length ≤ sizeLine := Nat.le_trans hz (by rw [sizeLine_eq]; decide)
      exact ⟨by rw [pp.length]; exact hz', fun p hp => new_lst s1.fh s1.nt (fun v H' F' xt nw => q1 v H' F' M1 (s1.xt xt) (st1.trans xt.stp) (RV.of_new nw s1 st1.th)) hp hz' pp⟩
    · exact q1.elim
  · exact q1.elim
end
structure Cs where
  call : Nat → List RV → World → Out RV
  room : Nat
def spD (X : Tx) (m : List RV → World → Out RV) : Sp := fun vs H Q E => ∃ F M args w, Same F H ∧ NoTbl F ∧ WRel X F H M w ∧ TabsN X.T.tabs H ∧ Paired (argAt X F M) vs args ∧
  Pst (m args w) (fun r w' => ∀ v H' F' M', Same F' H' → NoTbl F' → WRel X F' H' M' w' → TabsN X.T.tabs H' → Stp H F M H' F' M' → r.isAt X H [] (fun _ => 0) H' F' M' v → Q v H')
    (fun x _ w' => ∀ cls d H' F' M', Same F' H' → NoTbl F' → WRel X F' H' M' w' → TabsN X.T.tabs H' → Stp H F M H' F' M' → x.isAt X F' H' cls d → E cls d H')
structure RoomB (k : Nat) (A : Around) : Prop where
  hd : A.handled = none
  dp : A.depth + k + 5 < recursionLimit
  un : A.units + 16 * k + 200 < cLine
theorem RoomB.deeper {k : Nat} {A : Around} (r : RoomB (k + 1) A) (env : Env) : RoomB k (A.deeper env) :=
  ⟨r.hd, by have := r.dp; show A.depth + 1 + k + 5 < _; omega, by have := r.un; show A.units + 3 + 16 * k + 200 < _; omega⟩
theorem RoomB.depth {k : Nat} {A : Around} (r : RoomB k A) : A.depth < recursionLimit := by have := r.dp; omega
structure RoomG (k : Nat) (A : Around) : Prop extends RoomB k A where
  gd : A.guards = some []
theorem RoomG.deep {k : Nat} {A : Around} (r : RoomG (k + 1) A) (env : Env) : RoomG k (A.deeper env) := ⟨r.toRoomB.deeper env, r.gd⟩
structure FnG (P : Program) (w : PySem.World) (K : PySem.W.Frag) (mg : Str → Option Value) (base : Heap) (CX : CXT) (k : Nat) (f : Addr) (fd : FuncData) (ps : List Str) (sp : Sp) : Prop where
  many : ∀ vs H Q E, sp vs H Q E → vs.length = ps.length
  goes : ∀ (A : Around) (outer : List Env) (s : Shared) (H : Hp) (args : Args) (us : List Value) (vs : List V) (Q : VK) (E : XK), RoomG k A → Env0 P w K mg base A outer s H → BindsTo s fd args (ps.zip us) → Vals vs us → sp vs H Q E →
    codeAny (model P w) A (.call (.ref f) args) (CR CX outer P w H s Q E) s
theorem pe_callG {X : Cx} {CX : CXT} {k : Nat} {f : Addr} {fd : FuncData} {ps : List Str} {sp : Sp} {E : St → XK} {x : Str} {p pos : Pos} {e : Expr} {es : List Expr} {t : TA}
    (F : FnG X.prog X.w X.K X.mg X.base CX k f fd ps sp) (hr : RoomG k X.A) (hg : Gl X x) (hm : X.mg x = some (.ref f)) (hk : PySem.W.keepIn X.K (.ref f) = true) (hb : Binds X.K fd ps []) (hx : ∀ σ, PassesAt CX X σ (E σ)) (ha : PA X (e :: es) t)
    (hdb : (x == ("__debug__" : Str)) = false := by decide) (he : starEach (e :: es) X.env = (false, eval e X.env) :: starEach es X.env := by rfl) (hpl : (backTo pos (starEach es X.env)).any (·.1) = false := by rfl) :
    PE X (.Call (.Name x p) (e :: es) [] pos) (tCallS sp E t) := by
  constructor
  intro pins s σ H Q I q
  apply wpAny_Call_Name_kw (ld_glob I hg hm ?_ hdb)
  apply PySem.W.callWith_K (h₀ := X.base) I.ok.mod.kin hk (thn (ha.run pos pins s σ H _ I q) ?_) he hpl
  rintro us s2 ⟨vs, H2, I2, rv, q2⟩
  refine ⟨I2.kIn, wpAny_call (codeAny_mono (F.goes X.A X.stack s2 H2 ⟨us, []⟩ us vs Q (E σ) hr I2.env0 ?_ rv q2) ?_)⟩
  · have b := hb s2 us I2.kIn (by rw [List.append_nil, ← rv.length]; exact F.many _ _ _ _ q2)
    rwa [List.append_nil] at b
  · rintro (e | fl) s3 hq
    · exact hx σ pins H2 s2 e s3 I2 hq
    · cases fl <;> first | exact I2.after hq | exact False.elim hq
structure Cal (X : Cx) (T : Tbs) (n : Nat) (C : Cs) (x : Str) (i : Nat) : Prop where
  ex : ∃ (a : Addr) (fd : FuncData) (ps : List Str), X.mg x = some (.ref a) ∧ PySem.W.keepIn X.K (.ref a) = true ∧ Binds X.K fd ps [] ∧ FnG X.prog X.w X.K X.mg X.base (L2N.CX X.prog X.w) n a fd ps (spD (Cx.tx X T) (C.call i))
def withEnv {α : Type} (env : Ev) (o : Out α) : Out α := match o with
  | .ok a w => .ok a w
  | .exc x _ w => .exc x env w
  | .stuck => .stuck
def dCall (C : Cs) (i : Nat) (as : Exs) : Ex := fun env w => (as env w).bind fun rs w1 => withEnv env (C.call i rs w1)
@[simp] theorem withEnv_ok {α : Type} (env : Ev) (a : α) (w : World) : withEnv env (.ok a w) = .ok a w := rfl
theorem isAt_nil {X : Tx} {Hs H F : Hp} {M : List Addr} {v : V} {r : RV} {env : Ev} {O : Nat → Addr} (h : r.isAt X Hs [] (fun _ => 0) H F M v) : r.isAt X Hs env O H F M v := by
  cases r with
  | bor i l => obtain ⟨e, _⟩ := h; cases i <;> cases e
  | dat d => exact h
  | fresh l => exact h
  | wref k => exact h
section
variable {X : Cx} {T : Tbs} {Wi : WX} {pos p : Pos} {e : Expr} {es : List Expr} {d : Ex} {ds : Exs} {C : Cs} {n i : Nat} {x : Str}
theorem je_call (c : Cal X T n C x i) (hr : RoomG n X.A) (tk : L2N.Takes X Wi) (hg : Gl X x) (h : JA X T Wi (e :: es) ds) (hdb : (x == ("__debug__" : Str)) = false := by decide)
    (he : starEach (e :: es) X.env = (false, eval e X.env) :: starEach es X.env := by rfl) (hpl : (backTo pos (starEach es X.env)).any (·.1) = false := by rfl) : JE X T Wi (.Call (.Name x p) (e :: es) [] pos) (dCall C i ds) := by
  obtain ⟨a, fd, ps, hm, hk, hb, F⟩ := c.ex
  refine (pe_callG F hr hg hm hk hb (fun σ => L2N.passAt tk σ) h hdb he hpl).impD fun σ H Q q => ?_
  obtain ⟨B, env, w, F, O, M, s, q⟩ := q
  refine ⟨B, env, w, F, O, M, s, q.bind.imp fun rs w1 q1 vs H1 F1 M1 s1 st1 p1 => ?_⟩
  refine ⟨F1, M1, rs, w1, s1.fh, s1.nt, s1.wr, s1.tb, p1, ?_⟩
  cases ec : C.call i rs w1 with
  | stuck => rw [ec] at q1; exact q1.elim
  | ok r w2 =>
    rw [ec] at q1
    intro v H2 F2 M2 fh nt wr tb st2 r2
    exact q1 v H2 F2 M2 (s1.step st2 fh nt wr tb) (st1.trans st2) (RV.since (isAt_nil r2) st1.th)
  | exc x' env' w2 =>
    rw [ec] at q1
    intro cls d' H2 F2 M2 fh nt wr tb st2 r2
    exact q1 cls d' σ H2 F2 O M2 (s1.step st2 fh nt wr tb) r2
end
def CaS (X : Cx) (f : Value) (g : List D → Option RV) : Prop :=
  ∃ r, CallR X f r ∧ ∀ xs ds rv H F, Same F H → NoTbl F → Paired (Rv X.K F H) xs ds → g ds = some rv → ∀ Q : VK, (∀ v H' F', Xt H F H' F' → rv.newAt X.K H H' F' v → Q v H') → r xs H Q
def vals : List RV → Option (List D)
  | [] => some []
  | r :: rs => match r.val, vals rs with
    | some d, some ds => some (d :: ds)
    | _, _ => none
def dBlt (g : List D → Option RV) (es : Exs) : Ex := fun env w => (es env w).bind fun rs w1 => match vals rs with
  | some ds => lift (g ds) w1
  | none => .stuck
theorem vals_at {X : Tx} {B : Base} {env : Ev} {w : World} {σ : St} {Hs H F : Hp} {O : Nat → Addr} {M : List Addr} (s : SR X B env w σ H F O M) : ∀ {vs : List V} {rs : List RV} {ds : List D}, Paired (fun v r => RV.isAt X Hs env O H F M v r) vs rs → vals rs = some ds → Paired (Rv X.K F H) vs ds
  | _, _, _, .nil, e => by cases e; exact .nil
  | _, r :: rs, ds, .cons h t, e => by
    unfold vals at e
    split at e
    · rename_i d ds' e1 e2
      cases e
      exact .cons (RV.rv s h e1) (vals_at s t e2)
    · cases e
section
variable {X : Cx} {T : Tbs} {Wi : WX} {pos p : Pos} {e : Expr} {es : List Expr} {d : Ex} {ds : Exs} {x : Str}
theorem blt_read {g : List D → Option RV} {r : List V → Hp → VK → Prop} (hr : ∀ xs ds rv H F, Same F H → NoTbl F → Paired (Rv X.K F H) xs ds → g ds = some rv → ∀ Q : VK, (∀ v H' F', Xt H F H' F' → rv.newAt X.K H H' F' v → Q v H') → r xs H Q)
    {σ : St} {H : Hp} {Q : VK} (q : tD (Cx.tx X T) Wi (dBlt g ds) σ H Q) : tR (Cx.tx X T) Wi ds σ H (fun vs H1 => r vs H1 Q) := by
  obtain ⟨B, env, w, F, O, M, s, q⟩ := q
  refine ⟨B, env, w, F, O, M, s, q.bind.imp fun rs w1 q1 vs H1 F1 M1 s1 st1 p1 => ?_⟩
  split at q1
  · rename_i l el
    obtain ⟨rv, e, q3⟩ := q1.lift
    refine hr vs l rv H1 F1 s1.fh s1.nt (vals_at s1 p1 el) e Q fun v H' F' xt nw => ?_
    exact q3 v H' F' M1 (s1.xt xt) (st1.trans xt.stp) (RV.of_new nw s1 st1.th)
  · exact q1.elim
theorem je_blt {id : String} {g : List D → Option RV} (hc : CaS X (.builtin id) g) (hg : Gl X x) (hm : X.mg x = none) (hv : bootBuiltins x = some (.builtin id)) (h : JR X T Wi (e :: es) ds)
    (hd : (x == ("__debug__" : Str)) = false := by decide) (hn : x ≠ "__name__" := by decide)
    (he : starEach (e :: es) X.env = (false, eval e X.env) :: starEach es X.env := by rfl) (hpl : (backTo pos (starEach es X.env)).any (·.1) = false := by rfl) : JE X T Wi (.Call (.Name x p) (e :: es) [] pos) (dBlt g ds) := by
  obtain ⟨r, hc, hr⟩ := hc
  exact (pe_callB hc hg hm hv h hn hd he hpl).impD fun σ H Q q => blt_read hr q
theorem je_bty {id : String} {g : List D → Option RV} (hc : CaS X (.type id) g) (hg : Gl X x) (hm : X.mg x = none) (hv : bootBuiltins x = some (.type id)) (h : JR X T Wi (e :: es) ds)
    (hd : (x == ("__debug__" : Str)) = false := by decide) (hn : x ≠ "__name__" := by decide)
    (he : starEach (e :: es) X.env = (false, eval e X.env) :: starEach es X.env := by rfl) (hpl : (backTo pos (starEach es X.env)).any (·.1) = false := by rfl) : JE X T Wi (.Call (.Name x p) (e :: es) [] pos) (dBlt g ds) := by
  obtain ⟨r, hc, hr⟩ := hc
  exact (pe_callTy hc hg hm hv h hn hd he hpl).impD fun σ H Q q => blt_read hr q
end
end Dl
namespace Dl
open PySem PySem.Spec PyProof.Rows L2 NdefX
def intsOf : List D → Option (List Int)
  | [] => some []
  | .int i :: l => (intsOf l).map (i :: ·)
  | _ :: _ => none
def bolsOf : List D → Option (List Bool)
  | [] => some []
  | .bl i :: l => (bolsOf l).map (i :: ·)
  | _ :: _ => none
theorem ints_at {K : PySem.W.Frag} {F : Hp} : ∀ {vs : List V} {l : List D} {ns : List Int}, Paired (Rp K F) vs l → intsOf l = some ns → vs = ns.map V.int
  | _, _, _, .nil, e => by cases e; rfl
  | v :: vs, d :: l, ns, .cons h t, e => by
    cases d <;> first | (simp only [intsOf] at e; cases e; done) | skip
    rename_i i
    simp only [intsOf] at e
    cases q : intsOf l with
    | none => rw [q] at e; cases e
    | some ms =>
      rw [q] at e
      simp only [Option.map_some, Option.some.injEq] at e; subst e
      cases h
      rw [ints_at t q]
      rfl
theorem bols_at {K : PySem.W.Frag} {F : Hp} : ∀ {vs : List V} {l : List D} {ns : List Bool}, Paired (Rp K F) vs l → bolsOf l = some ns → vs = ns.map V.bl
  | _, _, _, .nil, e => by cases e; rfl
  | v :: vs, d :: l, ns, .cons h t, e => by
    cases d <;> first | (simp only [bolsOf] at e; cases e; done) | skip
    rename_i i
    simp only [bolsOf] at e
    cases q : bolsOf l with
    | none => rw [q] at e; cases e
    | some ms =>
      rw [q] at e
      simp only [Option.map_some, Option.some.injEq] at e; subst e
      cases h
      rw [bols_at t q]
      rfl
@[simp] theorem intsOf_map (ns : List Int) : intsOf (ns.map D.int) = some ns := by
  induction ns with
  | nil => rfl
  | cons n ns ih => simp [intsOf, ih]
@[simp] theorem bolsOf_map (ns : List Bool) : bolsOf (ns.map D.bl) = some ns := by
  induction ns with
  | nil => rfl
  | cons n ns ih => simp [bolsOf, ih]
def D.items : D → Option (List D)
  | .lst l => some l
  | .tup l => some l
  | _ => none
def cLen : List D → Option RV
  | [.str s] => some (.dat (.int s.length))
  | [.lst l] => some (.dat (.int l.length))
  | [.tup l] => some (.dat (.int l.length))
  | _ => none
def cInt : List D → Option RV
  | [.int i] => some (.dat (.int i))
  | [.bl b] => some (.dat (.int (if b then 1 else 0)))
  | _ => none
def cTuple : List D → Option RV
  | [.lst l] => some (.dat (.tup l))
  | [.tup l] => some (.dat (.tup l))
  | _ => none
def cList : List D → Option RV
  | [.lst l] => some (.fresh l)
  | [.tup l] => some (.fresh l)
  | _ => none
def cSum : List D → Option RV
  | [.lst l] => (intsOf l).map fun ns => .dat (.int ns.sum)
  | _ => none
def cAll : List D → Option RV
  | [.lst l] => (bolsOf l).map fun ns => .dat (.bl (ns.all id))
  | _ => none
def cAny : List D → Option RV
  | [.lst l] => (bolsOf l).map fun ns => .dat (.bl (ns.any id))
  | _ => none
def cMax2 : List D → Option RV
  | [.int i, .int j] => some (.dat (.int (if j > i then j else i)))
  | _ => none
def cMin2 : List D → Option RV
  | [.int i, .int j] => some (.dat (.int (if j < i then j else i)))
  | _ => none
section
variable {X : Cx}
theorem cs_len : CaS X (.builtin "len") cLen := by
  refine ⟨_, call_len_str.or call_len_seq, fun xs ds rv H F fh nt p h Q q => ?_⟩
  unfold cLen at h
  split at h
  · simp only [Option.some.injEq] at h; subst h
    cases p with | cons h1 h2 => cases h2; cases h1 with | str _ ok => exact .inl ⟨_, rfl, ok.2, new_val fh nt q (.int _)⟩
  · simp only [Option.some.injEq] at h; subst h
    cases p with
    | cons h1 h2 =>
      cases h2
      obtain ⟨_, a, vs, e, h3, h4⟩ := h1
      subst e
      refine .inr ⟨a, vs, rfl, .inl h3, ?_⟩
      rw [h4.length]
      exact new_val fh nt q (.int _)
  · simp only [Option.some.injEq] at h; subst h
    cases p with
    | cons h1 h2 =>
      cases h2
      cases h1 with
      | tup hz h3 h4 =>
        refine .inr ⟨_, _, rfl, .inr (sqT_mono fh h3), ?_⟩
        rw [h4.length]
        exact new_val fh nt q (.int _)
  · cases h
theorem cs_int : CaS X (.type "int") cInt := by
  refine ⟨_, call_int1, fun xs ds rv H F fh nt p h Q q => ?_⟩
  unfold cInt at h
  split at h
  · simp only [Option.some.injEq] at h; subst h
    cases p with | cons h1 h2 => cases h2; cases h1; exact .inl ⟨_, rfl, new_val fh nt q (.int _)⟩
  · simp only [Option.some.injEq] at h; subst h
    cases p with | cons h1 h2 => cases h2; cases h1; exact .inr ⟨_, rfl, new_val fh nt q (.int _)⟩
  · cases h
theorem cs_tuple : CaS X (.type "tuple") cTuple := by
  refine ⟨_, call_tuple_of, fun xs ds rv H F fh nt p h Q q => ?_⟩
  unfold cTuple at h
  split at h
  · simp only [Option.some.injEq] at h; subst h
    cases p with
    | cons h1 h2 =>
      cases h2
      obtain ⟨hz, a, vs, e, h3, h4⟩ := h1
      subst e
      exact ⟨a, vs, rfl, .inl ⟨h3, fun p hp => new_tup fh nt q hp hz h4⟩⟩
  · simp only [Option.some.injEq] at h; subst h
    cases p with
    | cons h1 h2 =>
      cases h2
      cases h1 with
      | tup hz h3 h4 => exact ⟨_, _, rfl, .inr ⟨sqT_mono fh h3, new_val fh nt q (.tup hz h3 h4)⟩⟩
  · cases h
theorem cs_list : CaS X (.type "list") cList := by
  refine ⟨_, call_list_of, fun xs ds rv H F fh nt p h Q q => ?_⟩
  unfold cList at h
  split at h
  · simp only [Option.some.injEq] at h; subst h
    cases p with
    | cons h1 h2 =>
      cases h2
      obtain ⟨hz, a, vs, e, h3, h4⟩ := h1
      subst e
      exact ⟨a, vs, rfl, .inl h3, fun p hp => new_lst fh nt q hp hz h4⟩
  · simp only [Option.some.injEq] at h; subst h
    cases p with
    | cons h1 h2 =>
      cases h2
      cases h1 with
      | tup hz h3 h4 => exact ⟨_, _, rfl, .inr (sqT_mono fh h3), fun p hp => new_lst fh nt q hp hz h4⟩
  · cases h
theorem cs_sum (hc : X.calm = true) : CaS X (.builtin "sum") cSum := by
  refine ⟨_, cr_sum hc, fun xs ds rv H F fh nt p h Q q => ?_⟩
  unfold cSum at h
  split at h
  · rename_i l
    cases e : intsOf l with
    | none => rw [e] at h; cases h
    | some ns =>
      rw [e] at h
      simp only [Option.map_some, Option.some.injEq] at h; subst h
      cases p with
      | cons h1 h2 =>
        cases h2
        obtain ⟨hz, a, vs, e1, h3, h4⟩ := h1
        subst e1
        rw [ints_at h4 e] at h3
        exact ⟨a, ns, rfl, h3, new_val fh nt q (.int _)⟩
  · cases h
theorem cs_all (hc : X.calm = true) : CaS X (.builtin "all") cAll := by
  refine ⟨_, cr_all hc, fun xs ds rv H F fh nt p h Q q => ?_⟩
  unfold cAll at h
  split at h
  · rename_i l
    cases e : bolsOf l with
    | none => rw [e] at h; cases h
    | some ns =>
      rw [e] at h
      simp only [Option.map_some, Option.some.injEq] at h; subst h
      cases p with
      | cons h1 h2 =>
        cases h2
        obtain ⟨hz, a, vs, e1, h3, h4⟩ := h1
        subst e1
        rw [bols_at h4 e] at h3
        exact ⟨a, ns, rfl, h3, new_val fh nt q (.bl _)⟩
  · cases h
end
def D.tyName : D → String
  | .non => "NoneType"
  | .bl _ => "bool"
  | .int _ => "int"
  | .str _ => "str"
  | .lst _ => "list"
  | .tup _ => "tuple"
  | .dic _ => "dict"
inductive Ty where
  | int | bool | str | tuple | list | dict
def Ty.nm : Ty → String
  | .int => "int"
  | .bool => "bool"
  | .str => "str"
  | .tuple => "tuple"
  | .list => "list"
  | .dict => "dict"
def D.isTy : D → Ty → Bool
  | .int _, .int => true
  | .bl _, .int => true
  | .bl _, .bool => true
  | .str _, .str => true
  | .tup _, .tuple => true
  | .lst _, .list => true
  | .dic _, .dict => true
  | _, _ => false
theorem kit_isTy (d : D) (t : Ty) : kitB d.tyName t.nm = some (d.isTy t) := by
  cases d <;> cases t <;> (show kitB _ _ = some _; simp only [D.tyName, Ty.nm, D.isTy]; decide +kernel)
def gIsi (ts : List Ty) (d : D) : Option RV := some (.dat (.bl (ts.any d.isTy)))
theorem tyX_of {K : PySem.W.Frag} {F H : Hp} {v : V} {d : D} (fh : Same F H) (h : Rv K F H v d) : TyX K H v (.type d.tyName) := by
  cases d with
  | non => cases h; exact .base .non
  | bl b => cases h; exact .base (.bl b)
  | int i => cases h; exact .base (.int i)
  | str s => cases h; exact .base (.str s)
  | lst l =>
    obtain ⟨_, p, vs, e, h1, _⟩ := h
    subst e
    rcases h1 with (h1 | ⟨o, h1⟩) | ⟨o, its, n, h1, h2, _⟩
    · exact .base (.lst h1)
    · exact .base (.frz h1)
    · exact .kList h1 h2
  | tup l =>
    cases h with
    | tup hz h1 _ =>
      rcases h1 with (h1 | ⟨o, h1⟩) | ⟨o, its, n, h1, h2, _⟩
      · exact .base (.tup (fh _ _ h1))
      · exact .fTuple (fh _ _ h1)
      · exact .kTuple h1 h2
  | dic kvs =>
    cases h with
    | dic hk q => exact .base (.dK (fh _ _ q))
section
variable {X : Cx} {T : Tbs} {Wi : WX} {pos p p1 p2 pt : Pos} {a : Expr} {da : Ex} {x : Str}
theorem tyX_obj {X : Tx} {F H : Hp} {m : Addr} {x : Str} {M : List Addr} {fs : List (Str × FV)} (h : ObjAt X F H M m x fs) : ∃ C, ObjC X.K X.mg x C ∧ TyX X.K H (.ref m) (.ref C) := by
  obtain ⟨C, dx, gs, c, e, _⟩ := h.ex
  exact ⟨C, c, .base (.ins e c.cls c.ha c.hn c.htk c.hm)⟩
theorem Ty.nm_mem (t : Ty) : t.nm ∈ ["int", "bool", "str", "tuple", "list", "dict"] := by cases t <;> decide
def isiK (ts : List Ty) (r : RV) (w : World) : Out RV := match r with
  | .wref k => (match w[k]? with
    | some (.obj _ _) => .ok (.dat (.bl false)) w
    | _ => .stuck)
  | r => lift (vals1 (gIsi ts) r) w
def dIsi (t : Ty) (a : Ex) : Ex := fun env w => (a env w).bind (isiK [t])
theorem je_isi {t : Ty} {y : Str} (hg : Gl X "isinstance") (hm : X.mg "isinstance" = none) (hgt : Gl X y) (hmt : X.mg y = none) (hvt : bootBuiltins y = some (.type t.nm)) (ha : JE X T Wi a da)
    (hnt : y ≠ "__name__" := by decide) (hdt : (y == ("__debug__" : Str)) = false := by decide)
    (he : starEach (a :: [.Name y p1]) X.env = (false, eval a X.env) :: starEach [.Name y p1] X.env := by rfl) (hpl : (backTo pos (starEach [.Name y p1] X.env)).any (·.1) = false := by rfl)
    (he2 : starEach [.Name y p1] X.env = (false, eval (.Name y p1) X.env) :: starEach [] X.env := by rfl) : JE X T Wi (.Call (.Name "isinstance" p) [a, .Name y p1] [] pos) (dIsi t da) := by
  refine (pe_callB call_isi hg hm boot_isinstance (pa_cons ha (pa_cons (pe_bltn hgt hmt hvt (v := .ty t.nm) rfl hnt hdt) pa_nil he2) he) (by decide) (by decide) he hpl).impD fun σ H Q q => ?_
  obtain ⟨B, env, w, F, O, M, s, q⟩ := q
  refine ⟨B, env, w, F, O, M, s, q.bind.imp fun ra w1 q1 x H1 F1 M1 s1 st1 r1 => ?_⟩
  have dat : lift (vals1 (gIsi [t]) ra) w1 = isiK [t] ra w1 → rIsi X.K [x, .ty t.nm] H1 Q := fun e => by
    rw [← e] at q1
    obtain ⟨rv, e1, q3⟩ := q1.lift
    obtain ⟨d, ea, eg⟩ := vals1_some e1
    simp only [gIsi, Option.some.injEq] at eg
    subst eg
    refine ⟨x, .ty t.nm, .type d.tyName, .type t.nm, d.isTy t, rfl, .ty _, tyX_of s1.fh (RV.rv s1 r1 ea), kit_ty (kit_isTy d t), ?_⟩
    have := q3 (.bl ([t].any d.isTy)) H1 F1 M1 s1 st1 (.bl _)
    simpa only [List.any_cons, List.any_nil, Bool.or_false] using this
  cases ra with
  | dat d => exact dat rfl
  | fresh l => exact dat rfl
  | bor i l => exact dat rfl
  | wref k =>
    unfold isiK at q1
    simp only at q1
    split at q1
    · rename_i y fs ew
      obtain ⟨m, em, hF, ho⟩ := Pr.get s1.wr.at_ ew
      obtain ⟨m', em', ev⟩ := r1
      rw [em] at em'
      cases em'
      subst ev
      obtain ⟨C, c, ty⟩ := tyX_obj ho
      exact ⟨.ref m, .ty t.nm, .ref C, .type t.nm, false, rfl, .ty _, ty, c.kit _ t.nm_mem, q1 _ H1 F1 M1 s1 st1 (.bl _)⟩
    · exact q1.elim
end
end Dl
namespace Dl
open PySem PySem.Spec PyProof.Rows L2 NdefX
abbrev Src := Ev → World → Out (List D)
structure Walk (K : PySem.W.Frag) (l : List D) (F0 : Hp) (J : It) : Prop where
  bd : l.length ≤ sizeLine
  go : ∀ i H F, Same F0 F → Same F H → i < l.length → J.go i H
  stop : ∀ i H F, Same F0 F → Same F H → l.length ≤ i → J.stop i H
  yld : ∀ i H F x H' d, Same F0 F → Same F H → NoTbl F → J.yld i H x H' → l[i]? = some d → ∃ F', Xt H F H' F' ∧ Rp K F' x d
def tIt (X : Tx) (Wi : WX) (e : Src) : TI := fun σ H R => ∃ B env w F O M, SR X B env w σ H F O M ∧
  Pst (e env w) (fun l w' => ∀ J H' F' M', SR X B env w' σ H' F' O M' → Stp H F M H' F' M' → Walk X.K l F' J → R J H') (badX X B Wi)
abbrev JI (X : Cx) (T : Tbs) (Wi : WX) (tg it : Expr) (d : Src) : Prop := PI X tg it (tIt (Cx.tx X T) Wi d)
def RV.its (r : RV) : Option (List D) := match r.arg with
  | some (.dat d) => d.items
  | _ => none
def iSeq (e : Ex) : Src := fun env w => (e env w).bind fun r w1 => match r.its with
  | some l => .ok l w1
  | none => .stuck
theorem walk_lst {K : PySem.W.Frag} {F : Hp} {a : Addr} {vs : List V} {l : List D} (hz : l.length ≤ sizeLine) (h : SqL K F a vs) (p : Paired (Rp K F) vs l) : Walk K l F (Itl K a) := by
  refine ⟨hz, fun i H F1 e1 e2 hi => ?_, fun i H F1 e1 e2 hi => ?_, fun i H F1 x H' d e1 e2 nt y hd => ?_⟩
  · have hv : i < vs.length := by rw [p.length]; exact hi
    exact ⟨vs, vs[i], e2.seq (e1.seq h), List.getElem?_eq_getElem hv⟩
  · exact ⟨vs, e2.seq (e1.seq h), by rw [p.length]; exact hi⟩
  · obtain ⟨rfl, y⟩ := y
    have q := y vs (e2.seq (e1.seq h))
    obtain ⟨v, ev, rv⟩ := Pr.get p hd
    rw [ev] at q; cases q
    exact ⟨F1, Xt.refl e2 nt, rv.mono e1⟩
theorem walk_tup {K : PySem.W.Frag} {F : Hp} {a : Addr} {vs : List V} {l : List D} (hz : l.length ≤ sizeLine) (h : SqT K F a vs) (p : Paired (Rp K F) vs l) : Walk K l F (Itt K a) := by
  refine ⟨hz, fun i H F1 e1 e2 hi => ?_, fun i H F1 e1 e2 hi => ?_, fun i H F1 x H' d e1 e2 nt y hd => ?_⟩
  · have hv : i < vs.length := by rw [p.length]; exact hi
    exact ⟨vs, vs[i], sqT_mono e2 (sqT_mono e1 h), List.getElem?_eq_getElem hv⟩
  · exact ⟨vs, sqT_mono e2 (sqT_mono e1 h), by rw [p.length]; exact hi⟩
  · obtain ⟨rfl, y⟩ := y
    have q := y vs (sqT_mono e2 (sqT_mono e1 h))
    obtain ⟨v, ev, rv⟩ := Pr.get p hd
    rw [ev] at q; cases q
    exact ⟨F1, Xt.refl e2 nt, rv.mono e1⟩
theorem walk_rng {K : PySem.W.Frag} {F : Hp} {lo : Int} {n : Nat} {l : List D} (hz : n ≤ sizeLine) (hl : l = (List.range n).map fun (i : Nat) => D.int (lo + i)) : Walk K l F (Itr lo n) := by
  subst hl
  refine ⟨by simpa using hz, fun i H F1 e1 e2 hi => by show i < n; simpa using hi, fun i H F1 e1 e2 hi => by show n ≤ i; simpa using hi, fun i H F1 x H' d e1 e2 nt y hd => ?_⟩
  obtain ⟨rfl, rfl⟩ := y
  simp only [List.getElem?_map, List.getElem?_range] at hd
  by_cases hi : i < n
  · rw [List.getElem?_range hi] at hd
    simp only [Option.map_some, Option.some.injEq] at hd; subst hd
    exact ⟨F1, Xt.refl e2 nt, .int _⟩
  · rw [List.getElem?_eq_none (by simpa using hi)] at hd; cases hd
section
variable {X : Cx} {T : Tbs} {Wi : WX} {pos p : Pos} {e a b tg : Expr} {d : Ex} {ds : Exs}
theorem pi_or {wi wi' : TI} (h : PI X tg e wi) (h' : PI X tg e wi') : PI X tg e (fun σ H R => wi σ H R ∨ wi' σ H R) :=
  ⟨fun pins s σ H R I q => q.elim (h.run pins s σ H R I) (h'.run pins s σ H R I)⟩
theorem _root_.L2.PI.impD {t t' : TI} (h : PI X tg e t) (k : ∀ σ H Q, t' σ H Q → t σ H Q) : PI X tg e t' := ⟨fun pins s σ H Q I q => h.run pins s σ H Q I (k σ H Q q)⟩
theorem ji_seq (h : JE X T Wi e d) : JI X T Wi tg e (iSeq d) := by
  refine (pi_or (pi_list h) (pi_tup h)).impD fun σ H Q q => ?_
  obtain ⟨B, env, w, F, O, M, s, q⟩ := q
  have q := q.bind
  cases eo : d env w with
  | stuck => rw [eo] at q; exact q.elim
  | exc x env' w' =>
    rw [eo] at q
    exact .inl ⟨B, env, w, F, O, M, s, by rw [eo]; exact q⟩
  | ok r w1 =>
    rw [eo] at q
    have q1 : Pst (match r.its with
      | some l => Out.ok l w1
      | none => .stuck) _ _ := q
    split at q1
    · rename_i l el
      unfold RV.its at el
      split at el
      · rename_i dd ea
        cases dd with
        | lst m =>
          cases el
          refine .inl ⟨B, env, w, F, O, M, s, ?_⟩
          rw [eo]
          intro v H1 F1 M1 s1 st1 r1
          obtain ⟨F2, s2, st2, a2⟩ := keep_arg s s1 st1 r1 ea
          cases a2 with
          | lst hz h1 h2 => exact ⟨_, rfl, ⟨_, s2.fh.seq h1⟩, q1 _ H1 F2 M1 s2 st2 (walk_lst hz h1 h2)⟩
        | tup m =>
          cases el
          refine .inr ⟨B, env, w, F, O, M, s, ?_⟩
          rw [eo]
          intro v H1 F1 M1 s1 st1 r1
          obtain ⟨F2, s2, st2, a2⟩ := keep_arg s s1 st1 r1 ea
          cases a2 with
          | tup hz h1 h2 => exact ⟨_, rfl, ⟨_, sqT_mono s2.fh h1⟩, q1 _ H1 F2 M1 s2 st2 (walk_tup hz h1 h2)⟩
        | _ => cases el
      · cases el
    · exact q1.elim
def rngD (lo hi : Int) : List D := (List.range (hi - lo).toNat).map fun (i : Nat) => D.int (lo + i)
def iRange (g : List D → Option (Int × Int)) (es : Exs) : Src := fun env w => (es env w).bind fun rs w1 => match vals rs with
  | some ds => (match g ds with
    | some (lo, hi) => if (hi - lo).toNat ≤ 16777216 ∧ -(2 ^ 62) ≤ lo ∧ lo < 2 ^ 62 ∧ -(2 ^ 62) ≤ hi ∧ hi < 2 ^ 62 then .ok (rngD lo hi) w1 else .stuck
    | none => .stuck)
  | none => .stuck
def rg1 : List D → Option (Int × Int)
  | [.int j] => some (0, j)
  | _ => none
def rg2 : List D → Option (Int × Int)
  | [.int i, .int j] => some (i, j)
  | _ => none
theorem ji_range1 (hg : Gl X "range") (hm : X.mg "range" = none) (h : JR X T Wi [a] ds) (hs : starEach [a] X.env = [(false, eval a X.env)] := by rfl) : JI X T Wi tg (.Call (.Name "range" p) [a] [] pos) (iRange rg1 ds) := by
  refine (pi_range1 hg hm h hs).impD fun σ H Q q => ?_
  obtain ⟨B, env, w, F, O, M, s, q⟩ := q
  refine ⟨B, env, w, F, O, M, s, q.bind.imp fun rs w1 q1 vs H1 F1 M1 s1 st1 p1 => ?_⟩
  split at q1
  · rename_i l el
    split at q1
    · rename_i lo hi eg
      split at q1
      · rename_i hc
        have pv := vals_at s1 p1 el
        unfold rg1 at eg
        split at eg
        · cases eg
          cases pv with
          | cons h1 h2 =>
            cases h2; cases h1
            refine ⟨_, rfl, hc.2.2.2.1, hc.2.2.2.2, q1 _ H1 F1 M1 s1 st1 ?_⟩
            have := hc.1
            refine walk_rng (by rw [sizeLine_eq]; omega) ?_
            unfold rngD
            rw [Int.sub_zero]
        · cases eg
      · exact q1.elim
    · exact q1.elim
  · exact q1.elim
end
abbrev Tgt := D → Ev → Option Ev
abbrev Tgts := List D → Ev → Option Ev
def gN (i : Nat) : Tgt := fun d env => some (env.set i (.dat d))
def gT (n : Nat) (ts : Tgts) : Tgt := fun d env => match d with
  | .tup l => if l.length = n then ts l env else none
  | .lst l => if l.length = n then ts l env else none
  | _ => none
def gsNil : Tgts := fun l env => match l with
  | [] => some env
  | _ => none
def gsCons (t : Tgt) (ts : Tgts) : Tgts := fun l env => match l with
  | d :: r => (t d env).bind fun env' => ts r env'
  | [] => none
section
variable {X : Tx} {B : Base} {env : Ev} {w : World} {σ : St} {H F : Hp} {O : Nat → Addr} {M : List Addr}
theorem SR.setDat {i : Nat} {v : V} {d : D} (s : SR X B env w σ H F O M) (r : Rp X.K F v d) : SR X B (env.set i (.dat d)) w (σ.set i (some v)) H F O M := by
  refine ⟨by simpa using s.len, s.fh, s.nt, s.st, s.wr, s.tb, fun j sl e => ?_, fun j k lj lk e1 e2 => ?_⟩
  · by_cases hj : i = j
    · subst hj
      have hlt : i < env.length := by simpa using (List.getElem?_eq_some_iff.mp e).1
      rw [List.getElem?_set_self hlt] at e
      cases e
      refine ⟨v, ?_, r⟩
      rw [List.getElem?_set_self (by rw [s.len]; exact hlt)]
    · rw [List.getElem?_set_ne hj] at e
      have := s.sl j sl e
      rw [List.getElem?_set_ne hj]
      exact this
  · have e1' : env[j]? = some (.own lj) := by
      by_cases hj : i = j
      · subst hj
        have hlt : i < env.length := by simpa using (List.getElem?_eq_some_iff.mp e1).1
        rw [List.getElem?_set_self hlt] at e1; cases e1
      · rw [List.getElem?_set_ne hj] at e1; exact e1
    have e2' : env[k]? = some (.own lk) := by
      by_cases hj : i = k
      · subst hj
        have hlt : i < env.length := by simpa using (List.getElem?_eq_some_iff.mp e2).1
        rw [List.getElem?_set_self hlt] at e2; cases e2
      · rw [List.getElem?_set_ne hj] at e2; exact e2
    exact s.inj j k lj lk e1' e2'
def wipeE (env : Ev) : List Nat → Ev
  | [] => env
  | v :: vs => (wipeE env vs).set v .un
theorem SR.setUn {i : Nat} (s : SR X B env w σ H F O M) : SR X B (env.set i .un) w (σ.set i none) H F O M := by
  refine ⟨by simpa using s.len, s.fh, s.nt, s.st, s.wr, s.tb, fun j sl e => ?_, fun j k lj lk e1 e2 => ?_⟩
  · by_cases hj : i = j
    · subst hj
      have hlt : i < env.length := by simpa using (List.getElem?_eq_some_iff.mp e).1
      rw [List.getElem?_set_self hlt] at e
      cases e
      trivial
    · rw [List.getElem?_set_ne hj] at e
      have := s.sl j sl e
      rw [List.getElem?_set_ne hj]
      exact this
  · have e1' : env[j]? = some (.own lj) := by
      by_cases hj : i = j
      · subst hj
        have hlt : i < env.length := by simpa using (List.getElem?_eq_some_iff.mp e1).1
        rw [List.getElem?_set_self hlt] at e1; cases e1
      · rw [List.getElem?_set_ne hj] at e1; exact e1
    have e2' : env[k]? = some (.own lk) := by
      by_cases hj : i = k
      · subst hj
        have hlt : i < env.length := by simpa using (List.getElem?_eq_some_iff.mp e2).1
        rw [List.getElem?_set_self hlt] at e2; cases e2
      · rw [List.getElem?_set_ne hj] at e2; exact e2
    exact s.inj j k lj lk e1' e2'
theorem SR.wipe (s : SR X B env w σ H F O M) : ∀ vs : List Nat, SR X B (wipeE env vs) w (L2.wipe σ vs) H F O M
  | [] => s
  | v :: vs => (SR.wipe s vs).setUn
theorem wipe_set {σ : St} {i : Nat} {x : Option V} : ∀ {vs : List Nat}, i ∈ vs → L2.wipe (σ.set i x) vs = L2.wipe σ vs
  | [], h => by cases h
  | v :: vs, h => by
    unfold L2.wipe
    by_cases hi : i ∈ vs
    · rw [wipe_set hi]
    · have hv : i = v := by
        rcases List.mem_cons.mp h with z | z
        · exact z
        · exact absurd z hi
      subst hv
      have go : ∀ {us : List Nat}, i ∉ us → L2.wipe (σ.set i x) us = (L2.wipe σ us).set i x := by
        intro us
        induction us with
        | nil => intro _; rfl
        | cons u us ih =>
          intro hu
          unfold L2.wipe
          rw [ih (fun z => hu (List.mem_cons_of_mem _ z)), List.set_comm _ _ (fun z => hu (by rw [z]; exact List.mem_cons_self))]
      rw [go hi, List.set_set]
end
def tG (X : Tx) (g : Tgt) (vs : List Nat) : TG := fun v σ H Q => ∃ B env w F O M d env', SR X B env w σ H F O M ∧ Rp X.K F v d ∧ g d env = some env' ∧
  ∀ σ', SR X B env' w σ' H F O M → (∀ us : List Nat, (∀ i ∈ vs, i ∈ us) → wipe σ' us = wipe σ us) → Q σ' H
def tGs (X : Tx) (g : Tgts) (vs : List Nat) : TGs := fun v σ H Q => ∃ B env w F O M d env', SR X B env w σ H F O M ∧ Paired (Rp X.K F) v d ∧ g d env = some env' ∧
  ∀ σ', SR X B env' w σ' H F O M → (∀ us : List Nat, (∀ i ∈ vs, i ∈ us) → wipe σ' us = wipe σ us) → Q σ' H
abbrev JG (X : Cx) (T : Tbs) (tg : Expr) (g : Tgt) (vs : List Nat) : Prop := PG X tg (tG (Cx.tx X T) g vs)
abbrev JGs (X : Cx) (T : Tbs) (tg : List Expr) (g : Tgts) (vs : List Nat) : Prop := PGs X tg (tGs (Cx.tx X T) g vs)
section
variable {X : Cx} {T : Tbs} {pos : Pos} {e : Expr} {es : List Expr}
theorem _root_.L2.PG.impD {t t' : TG} (h : PG X e t) (k : ∀ v σ H Q, t' v σ H Q → t v σ H Q) : PG X e t' := ⟨fun pins s σ H v u Q I r q => h.run pins s σ H v u Q I r (k v σ H Q q)⟩
theorem _root_.L2.PGs.impD {t t' : TGs} (h : PGs X es t) (k : ∀ v σ H Q, t' v σ H Q → t v σ H Q) : PGs X es t' := ⟨fun pins s σ H v u Q I r q => h.run pins s σ H v u Q I r (k v σ H Q q)⟩
theorem jg_name {i : Nat} {x : Str} (h : PG X (.Name x pos) (gName i)) : JG X T (.Name x pos) (gN i) [i] := by
  refine h.impD fun v σ H Q q => ?_
  obtain ⟨B, env, w, F, O, M, d, env', s, r, e, q⟩ := q
  cases e
  exact q _ (s.setDat r) fun us hu => wipe_set (hu i (by simp))
theorem jgs_nil : JGs X T [] gsNil [] := pgs_nil.impD fun v σ H Q q => by
  obtain ⟨B, env, w, F, O, M, d, env', s, p, e, q⟩ := q
  unfold gsNil at e
  split at e
  · cases e
    cases p
    exact ⟨rfl, q σ s fun _ _ => rfl⟩
  · cases e
theorem jgs_cons {g : Tgt} {gs : Tgts} {vs us : List Nat} (h : JG X T e g vs) (hs : JGs X T es gs us) (hst : (assignEach (e :: es) X.env).map (·.2) = assign e X.env :: (assignEach es X.env).map (·.2) := by rfl) : JGs X T (e :: es) (gsCons g gs) (vs ++ us) := by
  refine (pgs_cons h hs hst).impD fun v σ H Q q => ?_
  obtain ⟨B, env, w, F, O, M, d, env', s, p, e, q⟩ := q
  unfold gsCons at e
  split at e
  · rename_i d0 r0
    cases eg : g d0 env with
    | none => rw [eg] at e; cases e
    | some env1 =>
      rw [eg] at e
      cases p with
      | @cons v0 _ vr _ p1 p2 =>
        refine ⟨v0, vr, rfl, B, env, w, F, O, M, d0, env1, s, p1, eg, fun σ1 s1 h1 => ?_⟩
        refine ⟨B, env1, w, F, O, M, r0, env', s1, p2, e, fun σ2 s2 h2 => q σ2 s2 fun ts ht => ?_⟩
        rw [h2 ts (fun i hi => ht i (List.mem_append_right _ hi)), h1 ts (fun i hi => ht i (List.mem_append_left _ hi))]
  · cases e
theorem pg_any {es : List Expr} {k : Nat} {t : TGs} {n : Nat} (hc : X.calm = true) (h : PGs X es t)
    (hn : (assignEach es X.env).length = n) (hst : (assignEach es X.env).findIdx? (·.1) = none) : PG X (.Tuple es k pos) (fun v σ H Q => gTup X.K n t v σ H Q ∨ gLst X.K n t v σ H Q) :=
  ⟨fun pins s σ H v u Q I r hw => hw.elim ((pg_tup hc h hn hst).run pins s σ H v u Q I r) ((pg_lst hc h hn hst).run pins s σ H v u Q I r)⟩
theorem jg_tup {k n : Nat} {gs : Tgts} {vs : List Nat} (hc : X.calm = true) (h : JGs X T es gs vs) (hn : (assignEach es X.env).length = n := by rfl) (hst : (assignEach es X.env).findIdx? (·.1) = none := by rfl) : JG X T (.Tuple es k pos) (gT n gs) vs := by
  refine (pg_any hc h hn hst).impD fun v σ H Q q => ?_
  obtain ⟨B, env, w, F, O, M, d, env', s, p, e, q⟩ := q
  unfold gT at e
  split at e
  · split at e
    · rename_i hl
      cases p with
      | @tup a xs _ hz h1 h2 =>
        exact .inl ⟨a, xs, rfl, sqT_mono s.fh h1, by rw [h2.length]; exact hl, B, env, w, F, O, M, _, env', s, h2, e, q⟩
    · cases e
  · split at e
    · rename_i hl
      cases p with
      | @lst a xs _ hz h1 h2 =>
        exact .inr ⟨a, xs, rfl, s.fh.seq h1, by rw [h2.length]; exact hl, B, env, w, F, O, M, _, env', s, h2, e, q⟩
    · cases e
  · cases e
end
def noX {α : Type} (o : Out α) : Out α := match o with
  | .ok a w => .ok a w
  | _ => .stuck
@[simp] theorem noX_ok {α : Type} (a : α) (w : World) : noX (.ok a w) = .ok a w := rfl
theorem Pst.noX {α : Type} {o : Out α} {g : α → World → Prop} {b b' : Exn → Ev → World → Prop} (h : Pst (Dl.noX o) g b) : Pst o g b' := by
  cases o with
  | ok a w => exact h
  | exc x e w => exact h.elim
  | stuck => exact h.elim
def RV.st : RV → Option D
  | .dat d => some d
  | .fresh l => some (.lst l)
  | _ => none
theorem st_arg {r : RV} {d : D} (h : r.st = some d) : r.arg = some (.dat d) := by
  cases r <;> first | (cases h; done) | (cases h; rfl)
def compGo (g : Tgt) (tt : Tst) (elt : Ex) (env0 : Ev) : List D → World → Out (List D)
  | [], w => .ok [] w
  | d :: ds, w => match g d env0 with
    | none => .stuck
    | some env1 => (noX (tt env1 w)).bind fun b w1 => if b = true then (noX (elt env1 w1)).bind fun r w2 => (match r.st with
        | some x => (compGo g tt elt env0 ds w2).bind fun xs w3 => .ok (x :: xs) w3
        | none => .stuck)
      else compGo g tt elt env0 ds w1
def dComp (src : Src) (vs : List Nat) (g : Tgt) (tt : Tst) (elt : Ex) : Ex := fun env w => (src env w).bind fun l w1 => (compGo g tt elt (wipeE env vs) l w1).bind fun xs w2 => .ok (.fresh xs) w2
def tYes' : Tst := fun _ w => .ok true w
abbrev noW : WX := fun _ _ _ _ => False
abbrev JTs (X : Cx) (T : Tbs) (es : List Expr) (d : Tst) : Prop := PTs X es (tT (Cx.tx X T) noW d)
section
variable {X : Cx} {T : Tbs} {Wi : WX} {pos : Pos}
theorem _root_.L2.PTs.impD {X : Cx} {es : List Expr} {t t' : TT} (h : PTs X es t) (k : ∀ σ H Q, t' σ H Q → t σ H Q) : PTs X es t' := ⟨fun pins s σ H Q I q => h.run pins s σ H Q I (k σ H Q q)⟩
theorem jts_nil : JTs X T [] tYes' := pts_nil.impD fun σ H Q q => by
  obtain ⟨B, env, w, F, O, M, s, q⟩ := q
  exact q H F M s .refl
theorem jts_one {c : Expr} {t : Tst} (h : JT X T noW c t) : JTs X T [c] t := pts_one h
theorem tab_updL {T : List NTab} {H : Hp} {D : Addr} {vs ws : List V} (t : TabsN T H) (e : H D = some (.lst vs)) : TabsN T (upd H D (.lst ws)) := fun p hp => by
  obtain ⟨ps, h1, h2, h3⟩ := t p hp
  have n1 : p.1 ≠ D := ne_of h1 e (by simp)
  refine ⟨ps, by rw [upd_ne n1]; exact h1, h2, fun pos cv hc => ?_⟩
  obtain ⟨c, e1, e2⟩ := h3 pos cv hc
  have n2 : c ≠ D := ne_of e2 e (by unfold LamX.CodeO; simp)
  exact ⟨c, e1, by rw [upd_ne n2]; exact e2⟩
theorem SR.updFree {X : Tx} {B : Base} {env : Ev} {w : World} {σ : St} {H F : Hp} {O : Nat → Addr} {M : List Addr} {D : Addr} {vs ws : List V} (s : SR X B env w σ H F O M) (e : H D = some (.lst vs)) (hB : B.H D = none) (hF : F D = none) (hM : D ∉ M)
    (hO : ∀ i l, env[i]? = some (.own l) → O i ≠ D) : SR X B env w σ (upd H D (.lst ws)) F O M := by
  have ne : ∀ {a : Addr} {o : HO}, H a = some o → a ≠ D → upd H D (.lst ws) a = some o := fun h n => by rw [upd_ne n]; exact h
  refine ⟨s.len, fun b o q => ?_, s.nt, ⟨s.st.fg, fun a o hM' ht q => ?_, fun a h => ?_, s.st.nf, s.st.mw⟩, ⟨s.wr.nd, ?_⟩, tab_updL s.tb e, fun i sl e' => ?_, s.inj⟩
  · exact ne (s.fh _ _ q) (fun z => by subst z; rw [hF] at q; cases q)
  · exact ne (s.st.fr a o hM' ht q) (fun z => by subst z; rw [hB] at q; cases q)
  · by_cases z : a = D
    · subst z; rw [upd_same]; simp
    · rw [upd_ne z]; exact s.st.th a h
  · have go : ∀ {N M : List Addr} {w : World}, D ∉ M → Paired (fun m o => F m = none ∧ WO.isAt X F H N m o) M w → Paired (fun m o => F m = none ∧ WO.isAt X F (upd H D (.lst ws)) N m o) M w := by
      intro N M w hM h
      induction h with
      | nil => exact .nil
      | @cons m o _ _ h1 _ ih =>
        have nm : m ≠ D := fun z => hM (by rw [← z]; exact List.mem_cons_self)
        refine .cons ⟨h1.1, ?_⟩ (ih fun z => hM (List.mem_cons_of_mem _ z))
        cases o with
        | lst l => obtain ⟨_, ez, us, e1, e2⟩ := h1; exact ⟨ez, us, ne e1 nm, e2⟩
        | clo i caps => exact CloAt.keep h1.2 (keepE_upd e) (Same.refl _) (fun _ _ e => e)
        | obj y gs => exact ObjAt.keep h1.2 (Same.refl _) fun _ _ _ q => ne q nm
        | fls es => exact FlsAt.keep h1.2 (Same.refl _) fun _ q => ne q nm
        | dic kvs => exact DicAt.keep h1.2 (Same.refl _) fun _ q => ne q nm
    exact go hM s.wr.at_
  · have h := s.sl i sl e'
    cases sl with
    | un => trivial
    | dat d => exact h
    | own l =>
      obtain ⟨e1, e2, e3, e4, ez, us, e5, e6⟩ := h
      exact ⟨e1, e2, e3, e4, ez, us, ne e5 (hO i l e'), e6⟩
    | wref k => exact h
    | exn x => obtain ⟨a, cls, d, e1, e2, e3⟩ := h; exact ⟨a, cls, d, e1, e2, Exn.keep e3 (Same.refl _) (keepX_upd fun fs z => by rw [e] at z; cases z)⟩
theorem lc_read {src : Src} {g : Tgt} {tt : Tst} {elt : Ex} {vs us : List Nat} (hvs : ∀ i ∈ us, i ∈ vs) {σ : St} {H : Hp} {Q : VK} (q : tD (Cx.tx X T) Wi (dComp src vs g tt elt) σ H Q) :
    tLc (tIt (Cx.tx X T) Wi src) (tG (Cx.tx X T) g us) (tT (Cx.tx X T) noW tt) (tD (Cx.tx X T) noW elt) vs σ H Q := by
  obtain ⟨B, env, w, F, O, M, s, q⟩ := q
  refine ⟨B, env, w, F, O, M, s, q.bind.imp fun l w1 q1 J H1 F1 M1 s1 st1 wk D hD => ?_⟩
  have q1 := q1.bind
  have hB : B.H D = none := by
    cases z : B.H D with
    | none => rfl
    | some o => exact absurd hD (s1.st.th D (by rw [z]; simp))
  have hH : H D = none := by
    cases z : H D with
    | none => rfl
    | some o => exact absurd hD (st1.th D (by rw [z]; simp))
  have hO : ∀ i k, env[i]? = some (.own k) → O i ≠ D := fun i k e z => by
    obtain ⟨_, _, _, _, _, ws, q', _⟩ := s.sl i _ e
    rw [z, hH] at q'; cases q'
  refine ⟨fun i m H' => m = l.length - i ∧ i ≤ l.length ∧ ∃ w' es F' M' vsD, es.length ≤ i ∧ SR (Cx.tx X T) B env w' σ H' F' O M' ∧ Stp H F M H' F' M' ∧ Same F1 F' ∧ H' D = some (.lst vsD) ∧ F' D = none ∧ D ∉ M' ∧ Paired (Rp X.K F') vsD es ∧
      Pst (compGo g tt elt (wipeE env vs) (l.drop i) w') (fun rest w2 => ∀ v H2 F2 M2, SR (Cx.tx X T) B env w2 σ H2 F2 O M2 → Stp H F M H2 F2 M2 → RV.isAt (Cx.tx X T) H env O H2 F2 M2 v (.fresh (es ++ rest)) → Q v H2) (fun _ _ _ => False), ⟨l.length, by simp, Nat.zero_le _, w1, [], F1, M1, [], Nat.le_refl _, ?_⟩, ?_⟩
  · have xt : Xt H1 F1 (upd H1 D (.lst [])) F1 := Xt.newL s1.fh s1.nt hD
    refine ⟨s1.xt xt, st1.trans xt.stp, Same.refl _, upd_same, s1.fh.free hD, fun z => s1.wr.there z hD, .nil, ?_⟩
    rw [List.drop_zero]
    cases eg : compGo g tt elt (wipeE env vs) l w1 with
    | stuck => rw [eg] at q1; exact q1.elim
    | ok rest w2 => rw [eg] at q1; exact fun v H2 F2 M2 s2 st2 r2 => q1 v H2 F2 M2 s2 st2 r2
    | exc x e' w2 =>
      exfalso
      have nx : ∀ (l : List Dl.D) (w : World) (x : Exn) (e : Ev) (w2 : World), compGo g tt elt (wipeE env vs) l w ≠ .exc x e w2 := by
        intro l
        induction l with
        | nil => intro w x e w2 z; cases z
        | cons d ds ih =>
          intro w x e w2 z
          unfold compGo at z
          split at z
          · cases z
          · rename_i env1 _
            cases h1 : tt env1 w with
            | stuck => rw [h1] at z; cases z
            | exc _ _ _ => rw [h1] at z; cases z
            | ok b w3 =>
              rw [h1] at z
              simp only [noX_ok, bind_ok] at z
              split at z
              · cases h2 : elt env1 w3 with
                | stuck => rw [h2] at z; cases z
                | exc _ _ _ => rw [h2] at z; cases z
                | ok r w4 =>
                  rw [h2] at z
                  simp only [noX_ok, bind_ok] at z
                  split at z
                  · cases h3 : compGo g tt elt (wipeE env vs) ds w4 with
                    | stuck => rw [h3] at z; cases z
                    | exc a b c => exact ih _ _ _ _ h3
                    | ok a b => rw [h3] at z; cases z
                  · cases z
              · exact ih _ _ _ _ z
      exact nx l w1 x e' w2 eg
  · rintro i m H' ⟨rfl, hi, w', es, F', M', vsD, hes, sr, st, sf, hDl, hFD, hMD, pd, qq⟩
    by_cases hlt : i < l.length
    · refine .inr ⟨wk.go i H' F' sf sr.fh hlt, fun H'' => i + 1 ≤ l.length ∧ ∃ w' es F' M' vsD, es.length ≤ i + 1 ∧ SR (Cx.tx X T) B env w' σ H'' F' O M' ∧ Stp H F M H'' F' M' ∧ Same F1 F' ∧ H'' D = some (.lst vsD) ∧ F' D = none ∧ D ∉ M' ∧ Paired (Rp X.K F') vsD es ∧
          Pst (compGo g tt elt (wipeE env vs) (l.drop (i + 1)) w') (fun rest w2 => ∀ v H2 F2 M2, SR (Cx.tx X T) B env w2 σ H2 F2 O M2 → Stp H F M H2 F2 M2 → RV.isAt (Cx.tx X T) H env O H2 F2 M2 v (.fresh (es ++ rest)) → Q v H2) (fun _ _ _ => False), fun H'' ⟨z1, z2⟩ => ⟨l.length - (i + 1), by omega, rfl, z1, z2⟩, fun x H2 hy => ?_⟩
      obtain ⟨F2, xt2, rx⟩ := wk.yld i H' F' x H2 l[i] sf sr.fh sr.nt hy (List.getElem?_eq_getElem hlt)
      have sr2 := sr.xt xt2
      rw [List.drop_eq_getElem_cons hlt] at qq
      unfold compGo at qq
      split at qq
      · exact qq.elim
      · rename_i env1 eg
        refine ⟨B, wipeE env vs, w', F2, O, M', l[i], env1, sr2.wipe vs, rx, eg, fun σ2 s2 hw => ⟨?_, ?_⟩⟩
        · rw [hw vs hvs]
          have idem : ∀ us : List Nat, (∀ i ∈ us, i ∈ vs) → wipe (wipe σ vs) us = wipe σ vs := by
            intro us
            induction us with
            | nil => intro _; rfl
            | cons u us ih =>
              intro hu
              show (wipe (wipe σ vs) us).set u none = wipe σ vs
              rw [ih fun i hi => hu i (List.mem_cons_of_mem _ hi)]
              have hu' := hu u List.mem_cons_self
              have : ∀ {ws : List Nat}, u ∈ ws → (wipe σ ws).set u none = wipe σ ws := by
                intro ws
                induction ws with
                | nil => intro h; cases h
                | cons a ws ih2 =>
                  intro h
                  show ((wipe σ ws).set a none).set u none = (wipe σ ws).set a none
                  by_cases ha : a = u
                  · subst ha; rw [List.set_set]
                  · rcases List.mem_cons.mp h with z | z
                    · exact absurd z.symm ha
                    · rw [List.set_comm _ _ ha, ih2 z]
              exact this hu'
          exact idem vs fun _ h => h
        · have qt := qq.bind.noX (b' := badX (Cx.tx X T) B noW)
          refine ⟨B, env1, w', F2, O, M', s2, qt.imp fun b w3 q3 H3 F3 M3 s3 st3 => ?_⟩
          have sr3 := sr2.step st3 s3.fh s3.nt s3.wr s3.tb
          have hDl3 : H3 D = some (.lst vsD) := st3.fr D _ (fun z => absurd z hMD) (fun _ z => by cases z) (xt2.hh _ _ hDl)
          have hMD3 : D ∉ M3 := notM' st3 hMD (by rw [xt2.hh _ _ hDl]; simp)
          have hFD2 : F2 D = none := xt2.nf D (by rw [hDl]; simp) hFD
          have hFD3 : F3 D = none := st3.nf D (by rw [xt2.hh _ _ hDl]; simp) hFD2
          have st03 := (st.trans xt2.stp).trans st3
          cases b with
          | false =>
            simp only [Bool.false_eq_true, if_false] at q3 ⊢
            exact ⟨hlt, w3, es, F3, M3, vsD, by omega, sr3, st03, (sf.trans xt2.ff).trans st3.fg, hDl3, hFD3, hMD3, Rp.monoAll (xt2.ff.trans st3.fg) _ _ pd, q3⟩
          | true =>
            simp only [if_true] at q3 ⊢
            have qe := q3.bind.noX (b' := badX (Cx.tx X T) B noW)
            refine ⟨B, env1, w3, F3, O, M3, s3, qe.imp fun r w4 q4 y H4 F4 M4 s4 st4 r4 => ?_⟩
            split at q4
            · rename_i d ed
              obtain ⟨F5, s5, st5, a5⟩ := keep_arg s3 s4 st4 r4 (st_arg ed)
              have hDl4 : H4 D = some (.lst vsD) := st5.fr D _ (fun z => absurd z hMD3) (fun _ z => by cases z) hDl3
              have hMD4 : D ∉ M4 := notM' st5 hMD3 (by rw [hDl3]; simp)
              have hFD5 : F5 D = none := st5.nf D (by rw [hDl3]; simp) hFD3
              have sr5 := sr3.step st5 s5.fh s5.nt s5.wr s5.tb
              have st05 := st03.trans st5
              have sr6 := sr5.updFree (ws := vsD ++ [y]) hDl4 hB hFD5 hMD4 hO
              have pd5 := Rp.monoAll ((xt2.ff.trans st3.fg).trans st5.fg) _ _ pd
              have hvl : vsD.length ≤ i := by rw [pd.length]; exact hes
              have hbd := wk.bd
              refine ⟨vsD, hDl4, by omega, hlt, w4, es ++ [d], F5, M4, vsD ++ [y], ?_, sr6, ?_, ((sf.trans xt2.ff).trans st3.fg).trans st5.fg, upd_same, hFD5, hMD4, Pr.append pd5 (.cons a5 .nil), ?_⟩
              · rw [List.length_append, List.length_singleton]; omega
              · exact ⟨st05.fg, fun a o hM' ht q' => by
                  have := st05.fr a o hM' ht q'
                  have na : a ≠ D := fun z => by subst z; rw [hH] at q'; cases q'
                  rw [upd_ne na]; exact this, fun a h => by
                  by_cases z : a = D
                  · subst z; rw [upd_same]; simp
                  · rw [upd_ne z]; exact st05.th a h, st05.nf, st05.mw⟩
              · have q5 := q4.bind
                refine q5.imp fun rest w5 q6 v H6 F6 M6 s6 st6 r6 => q6 v H6 F6 M6 s6 st6 ?_
                rw [List.append_assoc] at r6
                exact r6
            · exact q4.elim
    · have hil : i = l.length := by omega
      subst hil
      refine .inl ⟨wk.stop _ H' F' sf sr.fh (Nat.le_refl _), ?_⟩
      rw [List.drop_length] at qq
      have qq' : ∀ v H2 F2 M2, SR (Cx.tx X T) B env w' σ H2 F2 O M2 → Stp H F M H2 F2 M2 → RV.isAt (Cx.tx X T) H env O H2 F2 M2 v (.fresh (es ++ [])) → Q v H2 := qq
      rw [List.append_nil] at qq'
      exact qq' _ H' F' M' sr st ⟨Nat.le_trans hes wk.bd, D, vsD, rfl, hH, hFD, hMD, hDl, pd⟩
theorem je_comp {elt tg iter : Expr} {ifs : List Expr} {scope : Scope} {own : List (Str × Nat)} {src : Src} {g : Tgt} {tt : Tst} {de : Ex} {us vs : List Nat} (hc : X.calm = true) (hN : X.N.Nodup) (hi : JI X T Wi tg iter src) (ok : BlkOk X.N X.env.scope scope own)
    (hv : own.map (·.2) = vs) (hvs : ∀ i ∈ us, i ∈ vs)
    (hg : ∀ (s : Shared) (H : Hp) (C : Addr) (cl : List (Str × Addr)) (fp : List Addr), JG (X.blk s H scope (compEnvC scope cl C X.env) fp) T tg g us)
    (ht : ∀ (s : Shared) (H : Hp) (C : Addr) (cl : List (Str × Addr)) (fp : List Addr), JTs (X.blk s H scope (compEnvC scope cl C X.env) fp) T ifs tt)
    (he : ∀ (s : Shared) (H : Hp) (C : Addr) (cl : List (Str × Addr)) (fp : List Addr), JE (X.blk s H scope (compEnvC scope cl C X.env) fp) T noW elt de) (hs : ∀ x, foldedSetIterable iter X.env x = pure x := by intro _; rfl) :
    JE X T Wi (.ListComp elt [⟨tg, iter, ifs, 0⟩] scope pos) (dComp src vs g tt de) := by
  subst hv
  exact (pe_lc hc hN hi ok hg ht he hs).impD fun σ H Q q => lc_read hvs q
end
end Dl
namespace Dl
open PySem PySem.Spec PyProof.Rows L2 NdefX
inductive Fl where
  | nx (env : Ev) | rt (r : RV) | bk (env : Ev) | ct (env : Ev)
abbrev Sd := Ev → World → Out Fl
structure RetAt (X : Tx) (B : Base) (w : World) (H F : Hp) (M : List Addr) (v : V) (r : RV) : Prop where
  st : Stp B.H B.F B.M H F M
  fh : Same F H
  nt : NoTbl F
  wr : WRel X F H M w
  tb : TabsN X.T.tabs H
  at_ : r.isAt X B.H [] (fun _ => 0) H F M v
def flG (X : Tx) (B : Base) (F0 : Hp) (Dn : Ends) (f : Fl) (w : World) : Prop := match f with
  | .nx env => ∀ σ H F O M, SR X B env w σ H F O M → Same F0 F → Dn.nx σ H
  | .rt r => ∀ v H F M, RetAt X B w H F M v r → Dn.rt v H
  | .bk env => ∀ σ H F O M, SR X B env w σ H F O M → Same F0 F → Dn.bk σ H
  | .ct env => ∀ σ H F O M, SR X B env w σ H F O M → Same F0 F → Dn.ct σ H
theorem flG.later {X : Tx} {B : Base} {F0 F1 : Hp} {Dn : Ends} {f : Fl} {w : World} (h : flG X B F0 Dn f w) (e : Same F0 F1) : flG X B F1 Dn f w := by
  cases f with
  | nx env => exact fun σ H F O M s k => h σ H F O M s (e.trans k)
  | bk env => exact fun σ H F O M s k => h σ H F O M s (e.trans k)
  | ct env => exact fun σ H F O M s k => h σ H F O M s (e.trans k)
  | rt r => exact h
def tS (X : Tx) (Wi : WX) (s : Sd) : TS := fun Dn σ H => ∃ B env w F O M, SR X B env w σ H F O M ∧ Pst (s env w) (flG X B F Dn) (badX X B Wi)
abbrev JS (X : Cx) (T : Tbs) (Wi : WX) (st : Stmt) (d : Sd) : Prop := PS X st (tS (Cx.tx X T) Wi d)
abbrev JSs (X : Cx) (T : Tbs) (Wi : WX) (st : List Stmt) (d : Sd) : Prop := PSs X st (tS (Cx.tx X T) Wi d)
def sNil : Sd := fun env w => .ok (.nx env) w
def sSeq (a b : Sd) : Sd := fun env w => (a env w).bind fun f w1 => match f with
  | .nx env1 => b env1 w1
  | f => .ok f w1
section
variable {X : Cx} {T : Tbs} {Wi : WX} {pos : Pos} {st : Stmt} {sts : List Stmt} {a b : Sd} {e : Expr} {d : Ex}
theorem jss_nil : JSs X T Wi [] sNil := pss_nil.impD fun D σ H q => by
  obtain ⟨B, env, w, F, O, M, s, q⟩ := q
  exact q σ H F O M s (Same.refl _)
theorem jss_cons (h : JS X T Wi st a) (hs : JSs X T Wi sts b) : JSs X T Wi (st :: sts) (sSeq a b) := (pss_cons h hs).impD fun D σ H q => by
  obtain ⟨B, env, w, F, O, M, s, q⟩ := q
  refine ⟨B, env, w, F, O, M, s, q.bind.imp fun f w1 q1 => ?_⟩
  cases f with
  | nx env1 => exact fun σ1 H1 F1 O1 M1 s1 k => ⟨B, env1, w1, F1, O1, M1, s1, q1.imp fun f w z => z.later k⟩
  | rt r => exact q1
  | bk env1 => exact q1
  | ct env1 => exact q1
theorem jss_one (h : JS X T Wi st a) : JSs X T Wi [st] a := pss_one h
def sPass : Sd := fun env w => .ok (.nx env) w
def sBreak : Sd := fun env w => .ok (.bk env) w
def sCont : Sd := fun env w => .ok (.ct env) w
def sNever : Sd := fun _ _ => .stuck
theorem js_break : JS X T Wi (.Break pos) sBreak := ps_break.impD fun D σ H q => by
  obtain ⟨B, env, w, F, O, M, s, q⟩ := q
  exact q σ H F O M s (Same.refl _)
theorem js_never : JS X T Wi st sNever := ps_never.impD fun D σ H q => by
  obtain ⟨B, env, w, F, O, M, s, q⟩ := q
  exact q.elim
def sExpr (e : Ex) : Sd := fun env w => (e env w).bind fun _ w1 => .ok (.nx env) w1
theorem js_expr (h : JE X T Wi e d) (hs : swapsWith e none pos.line X.env = pure false := by rfl) : JS X T Wi (.Expr e pos) (sExpr d) := (ps_expr h hs).impD fun D σ H q => by
  obtain ⟨B, env, w, F, O, M, s, q⟩ := q
  exact ⟨B, env, w, F, O, M, s, q.bind.imp fun r w1 q1 v H1 F1 M1 s1 st1 r1 => q1 σ H1 F1 O M1 s1 st1.fg⟩
def RV.ret : RV → RV
  | .bor _ l => .fresh l
  | r => r
def sRet (e : Ex) : Sd := fun env w => (e env w).bind fun r w1 => .ok (.rt r.ret) w1
theorem ret_at {X : Tx} {B : Base} {env : Ev} {w w1 : World} {σ : St} {H F H1 F1 : Hp} {O : Nat → Addr} {M M1 : List Addr} {v : V} {r : RV} (s : SR X B env w σ H F O M) (s1 : SR X B env w1 σ H1 F1 O M1) (h : r.isAt X H env O H1 F1 M1 v) : RetAt X B w1 H1 F1 M1 v r.ret := by
  refine ⟨s1.st, s1.fh, s1.nt, s1.wr, s1.tb, ?_⟩
  cases r with
  | dat d => exact h
  | wref k => exact h
  | fresh l => exact RV.since (r := .fresh l) (env := []) (O := fun _ => 0) h s.st.th
  | bor i l =>
    obtain ⟨e1, e2⟩ := h
    obtain ⟨_, e4, e5, e6, ez, vs, e7, e8⟩ := s1.sl i _ e1
    exact ⟨ez, O i, vs, e2, e4, e5, e6, e7, e8⟩
theorem js_ret (h : JE X T Wi e d) : JS X T Wi (.Return (some e) pos) (sRet d) := (ps_ret h).impD fun D σ H q => by
  obtain ⟨B, env, w, F, O, M, s, q⟩ := q
  exact ⟨B, env, w, F, O, M, s, q.bind.imp fun r w1 q1 v H1 F1 M1 s1 st1 r1 => q1 v H1 F1 M1 (ret_at s s1 r1)⟩
def sRetN : Sd := fun _ w => .ok (.rt (.dat .non)) w
def sIf (c : Tst) (a b : Sd) : Sd := fun env w => (c env w).bind fun k w1 => if k = true then a env w1 else b env w1
theorem js_if {c : Expr} {tc : Tst} {sa sb : List Stmt} (hc : JT X T Wi c tc) (ha : JSs X T Wi sa a) (hb : JSs X T Wi sb b) : JS X T Wi (.If c sa sb pos) (sIf tc a b) := (ps_if hc ha hb).impD fun D σ H q => by
  obtain ⟨B, env, w, F, O, M, s, q⟩ := q
  refine ⟨B, env, w, F, O, M, s, q.bind.imp fun k w1 q1 H1 F1 M1 s1 st1 => ?_⟩
  cases k with
  | true => rw [if_pos rfl] at q1 ⊢; exact ⟨B, env, w1, F1, O, M1, s1, q1.imp fun f w z => z.later st1.fg⟩
  | false => rw [if_neg Bool.false_ne_true] at q1 ⊢; exact ⟨B, env, w1, F1, O, M1, s1, q1.imp fun f w z => z.later st1.fg⟩
section
variable {X : Tx} {B : Base} {env : Ev} {w : World} {σ : St} {H F Hs : Hp} {O : Nat → Addr} {M : List Addr}
theorem own_of_set {sl : Sl} {i j : Nat} {l : List D} (h : (env.set i sl)[j]? = some (.own l)) (hn : ∀ l, sl ≠ .own l) : env[j]? = some (.own l) ∧ i ≠ j := by
  by_cases hj : i = j
  · subst hj
    have hlt : i < env.length := by simpa using (List.getElem?_eq_some_iff.mp h).1
    rw [List.getElem?_set_self hlt] at h
    exact absurd (Option.some.inj h) (hn l)
  · rw [List.getElem?_set_ne hj] at h; exact ⟨h, hj⟩
theorem SR.setOwn {i : Nat} {p : Addr} {vs : List V} {l : List D} (s : SR X B env w σ H F O M) (hz : l.length ≤ sizeLine) (hB : B.H p = none) (hF : F p = none) (hM : p ∉ M) (hp : H p = some (.lst vs)) (pp : Paired (Rp X.K F) vs l)
    (hO : ∀ j k, j ≠ i → env[j]? = some (.own k) → O j ≠ p) : SR X B (env.set i (.own l)) w (σ.set i (some (.ref p))) H F (fun j => if j = i then p else O j) M := by
  refine ⟨by simpa using s.len, s.fh, s.nt, s.st, s.wr, s.tb, fun j sl e => ?_, fun j k lj lk e1 e2 h => ?_⟩
  · by_cases hj : i = j
    · subst hj
      have hlt : i < env.length := by simpa using (List.getElem?_eq_some_iff.mp e).1
      rw [List.getElem?_set_self hlt] at e
      cases e
      rw [List.getElem?_set_self (by rw [s.len]; exact hlt)]
      show (some (some (V.ref p)) : Option (Option V)) = some (some (.ref (if i = i then p else O i))) ∧ B.H (if i = i then p else O i) = none ∧ F (if i = i then p else O i) = none ∧ (if i = i then p else O i) ∉ M ∧ l.length ≤ sizeLine ∧ ∃ vs, H (if i = i then p else O i) = some (.lst vs) ∧ Paired (Rp X.K F) vs l
      rw [if_pos rfl]
      exact ⟨rfl, hB, hF, hM, hz, vs, hp, pp⟩
    · rw [List.getElem?_set_ne hj] at e ⊢
      have h := s.sl j sl e
      cases sl with
      | own k =>
        show σ[j]? = some (some (.ref (if j = i then p else O j))) ∧ B.H (if j = i then p else O j) = none ∧ F (if j = i then p else O j) = none ∧ (if j = i then p else O j) ∉ M ∧ k.length ≤ sizeLine ∧ ∃ vs, H (if j = i then p else O j) = some (.lst vs) ∧ Paired (Rp X.K F) vs k
        rw [if_neg (fun z => hj z.symm)]
        exact h
      | un => trivial
      | dat d => exact h
      | wref k => exact h
      | exn x => exact h
  · have h : (if j = i then p else O j) = (if k = i then p else O k) := h
    by_cases hj : j = i
    · by_cases hk : k = i
      · rw [hj, hk]
      · rw [if_pos hj, if_neg hk] at h
        rw [List.getElem?_set_ne (fun z => hk z.symm)] at e2
        exact absurd h.symm (hO k lk hk e2)
    · rw [List.getElem?_set_ne (fun z => hj z.symm)] at e1
      by_cases hk : k = i
      · rw [if_neg hj, if_pos hk] at h
        exact absurd h (hO j lj hj e1)
      · rw [if_neg hj, if_neg hk] at h
        rw [List.getElem?_set_ne (fun z => hk z.symm)] at e2
        exact s.inj j k lj lk e1 e2 h
theorem SR.setRef {i k : Nat} {m : Addr} (s : SR X B env w σ H F O M) (hm : M[k]? = some m) : SR X B (env.set i (.wref k)) w (σ.set i (some (.ref m))) H F O M := by
  refine ⟨by simpa using s.len, s.fh, s.nt, s.st, s.wr, s.tb, fun j sl e => ?_, fun j k lj lk e1 e2 => ?_⟩
  · by_cases hj : i = j
    · subst hj
      have hlt : i < env.length := by simpa using (List.getElem?_eq_some_iff.mp e).1
      rw [List.getElem?_set_self hlt] at e
      cases e
      exact ⟨m, hm, by rw [List.getElem?_set_self (by rw [s.len]; exact hlt)]⟩
    · rw [List.getElem?_set_ne hj] at e
      have := s.sl j sl e
      rw [List.getElem?_set_ne hj]
      exact this
  · exact s.inj j k lj lk (own_of_set e1 (fun _ z => by cases z)).1 (own_of_set e2 (fun _ z => by cases z)).1
theorem fresh_out {r : RV} {l : List D} {w0 : World} {H0 F0 : Hp} {M0 : List Addr} {v : V} (s0 : SR X B env w0 σ H0 F0 O M0) (h : (RV.fresh l).isAt X H0 env O H F M v) : l.length ≤ sizeLine ∧ ∃ p vs, v = .ref p ∧ B.H p = none ∧ F p = none ∧ p ∉ M ∧ H p = some (.lst vs) ∧ Paired (Rp X.K F) vs l ∧ ∀ j k, env[j]? = some (.own k) → O j ≠ p := by
  obtain ⟨hz, p, vs, e1, e2, e3, e4, e5, e6⟩ := h
  refine ⟨hz, p, vs, e1, ?_, e3, e4, e5, e6, fun j k e z => ?_⟩
  · cases q : B.H p with
    | none => rfl
    | some o => exact absurd e2 (s0.st.th p (by rw [q]; simp))
  · obtain ⟨_, _, _, _, _, ws, q, _⟩ := s0.sl j _ e
    rw [z, e2] at q; cases q
end
def sSet (i : Nat) (e : Ex) : Sd := fun env w => (e env w).bind fun r w1 => match r with
  | .dat d => .ok (.nx (env.set i (.dat d))) w1
  | .fresh l => .ok (.nx (env.set i (.own l))) w1
  | .wref k => .ok (.nx (env.set i (.wref k))) w1
  | .bor _ _ => .stuck
theorem set_read {i : Nat} {D : Ends} {σ : St} {H : Hp} (q : tS (Cx.tx X T) Wi (sSet i d) D σ H) : tAsg (tD (Cx.tx X T) Wi d) (gName i) D σ H := by
  obtain ⟨B, env, w, F, O, M, s, q⟩ := q
  refine ⟨B, env, w, F, O, M, s, q.bind.imp fun r w1 q1 v H1 F1 M1 s1 st1 r1 => ?_⟩
  cases r with
  | dat d => exact q1 _ H1 F1 O M1 (s1.setDat r1) st1.fg
  | wref k => obtain ⟨m, e1, e2⟩ := r1; subst e2; exact q1 _ H1 F1 O M1 (s1.setRef e1) st1.fg
  | bor i l => exact q1.elim
  | fresh l =>
    obtain ⟨hz, p, vs, e1, e2, e3, e4, e5, e6, e7⟩ := fresh_out (r := .dat .non) s r1
    subst e1
    exact q1 _ H1 F1 _ M1 (s1.setOwn hz e2 e3 e4 e5 e6 fun j k _ e => e7 j k e) st1.fg
theorem js_set {i : Nat} {x : Str} {pos' : Pos} (hN : X.N.Nodup) (hi : X.N[i]? = some x) (hx : Loc X.env.scope x) (h : JE X T Wi e d) (hs : swapsWith e (some (.Name x pos')) pos.line X.env = pure false := by rfl)
    (hf : X.fn x = true ∨ X.env.scope.names.lookup x = some .local := by first | exact .inl rfl | exact .inr rfl | assumption) : JS X T Wi (.Assign [.Name x pos'] e pos) (sSet i d) :=
  (ps_set hN hi hx h hs hf).impD fun D σ H q => set_read q
def sSetW (i : Nat) (e : Ex) : Sd := fun env w => (e env w).bind fun r w1 => match r with
  | .fresh l => .ok (.nx (env.set i (.wref w1.length))) (w1 ++ [.lst l])
  | _ => .stuck
theorem paired_app1 {α β : Type} {R : α → β → Prop} {xs : List α} {ys : List β} {x : α} {y : β} (h : Paired R xs ys) (r : R x y) : Paired R (xs ++ [x]) (ys ++ [y]) := Pr.append h (.cons r .nil)
theorem js_setW {i : Nat} {x : Str} {pos' : Pos} (hN : X.N.Nodup) (hi : X.N[i]? = some x) (hx : Loc X.env.scope x) (h : JE X T Wi e d) (hs : swapsWith e (some (.Name x pos')) pos.line X.env = pure false := by rfl)
    (hf : X.fn x = true ∨ X.env.scope.names.lookup x = some .local := by first | exact .inl rfl | exact .inr rfl | assumption) : JS X T Wi (.Assign [.Name x pos'] e pos) (sSetW i d) := by
  refine (ps_set hN hi hx h hs hf).impD fun D σ H q => ?_
  obtain ⟨B, env, w, F, O, M, s, q⟩ := q
  refine ⟨B, env, w, F, O, M, s, q.bind.imp fun r w1 q1 v H1 F1 M1 s1 st1 r1 => ?_⟩
  cases r with
  | dat d => exact q1.elim
  | wref k => exact q1.elim
  | bor i l => exact q1.elim
  | fresh l =>
    obtain ⟨hz, p, vs, e1, e2, e3, e4, e5, e6, e7⟩ := fresh_out (r := .dat .non) s r1
    subst e1
    have hl : M1.length = w1.length := s1.wr.at_.length
    have s2 : SR (Cx.tx X T) B env (w1 ++ [.lst l]) σ H1 F1 O (M1 ++ [p]) := by
      refine ⟨s1.len, s1.fh, s1.nt, ⟨s1.st.fg, s1.st.fr, s1.st.th, s1.st.nf, ?_⟩, ⟨?_, paired_app1 (Paired.mapP s1.wr.at_ fun _ _ h => ⟨h.1, WO.more h.2 fun _ _ h => mem_of_pfx rfl h⟩) ⟨e3, hz, vs, e5, e6⟩⟩, s1.tb, fun j sl e => ?_, s1.inj⟩
      · obtain ⟨nw, em, hn⟩ := s1.st.mw
        refine ⟨nw ++ [p], by rw [em, List.append_assoc], fun m hm => ?_⟩
        rcases List.mem_append.mp hm with z | z
        · exact hn m z
        · rw [List.mem_singleton.mp z]; exact e2
      · rw [List.nodup_append]
        refine ⟨s1.wr.nd, by simp, fun a ha b hb => ?_⟩
        rw [List.mem_singleton.mp hb]
        exact fun z => e4 (z ▸ ha)
      · have h := s1.sl j sl e
        cases sl with
        | un => trivial
        | dat d => exact h
        | own k =>
          obtain ⟨f1, f2, f3, f4, f5⟩ := h
          refine ⟨f1, f2, f3, ?_, f5⟩
          rw [List.mem_append]
          rintro (z | z)
          · exact f4 z
          · exact e7 j k e (List.mem_singleton.mp z)
        | wref k => obtain ⟨m, f1, f2⟩ := h; exact ⟨m, mem_of_pfx rfl f1, f2⟩
        | exn x => exact h
    refine q1 _ H1 F1 O (M1 ++ [p]) (s2.setRef ?_) st1.fg
    rw [← hl, List.getElem?_append_right (Nat.le_refl _), Nat.sub_self]
    rfl
def sAsg (g : Tgt) (e : Ex) : Sd := fun env w => (e env w).bind fun r w1 => match r.arg with
  | some (.dat d) => (match g d env with
    | some env' => .ok (.nx env') w1
    | none => .stuck)
  | _ => .stuck
def sAug (i : Nat) (g : D → D → Option RV) (e : Ex) : Sd := fun env w => match env[i]? with
  | some (.dat x) => (e env w).bind fun r w1 => (match r.val with
    | some y => (match g x y with
      | some (.dat z) => .ok (.nx (env.set i (.dat z))) w1
      | _ => .stuck)
    | none => .stuck)
  | _ => .stuck
theorem SR.updOwn {X : Tx} {B : Base} {env : Ev} {w : World} {σ : St} {H F : Hp} {O : Nat → Addr} {M : List Addr} {i : Nat} {l l' : List D} {vs' : List V} (s : SR X B env w σ H F O M) (e : env[i]? = some (.own l)) (hz : l'.length ≤ sizeLine) (p : Paired (Rp X.K F) vs' l') :
    SR X B (env.set i (.own l')) w σ (upd H (O i) (.lst vs')) F O M := by
  obtain ⟨e1, e2, e3, e4, ez, vs, e5, e6⟩ := s.sl i _ e
  have hlt : i < env.length := (List.getElem?_eq_some_iff.mp e).1
  have ne : ∀ {a : Addr} {o : HO}, H a = some o → a ≠ O i → upd H (O i) (.lst vs') a = some o := fun h n => by rw [upd_ne n]; exact h
  refine ⟨by simpa using s.len, fun b o q => ?_, s.nt, ⟨s.st.fg, fun a o hM' ht q => ?_, fun a h => ?_, s.st.nf, s.st.mw⟩, ⟨s.wr.nd, ?_⟩, tab_updL s.tb e5, fun j sl e' => ?_, fun j k lj lk f1 f2 h => ?_⟩
  · exact ne (s.fh _ _ q) (fun z => by subst z; rw [e3] at q; cases q)
  · exact ne (s.st.fr a o hM' ht q) (fun z => by subst z; rw [e2] at q; cases q)
  · by_cases z : a = O i
    · subst z; rw [upd_same]; simp
    · rw [upd_ne z]; exact s.st.th a h
  · have go : ∀ {N M : List Addr} {w : World}, O i ∉ M → Paired (fun m o => F m = none ∧ WO.isAt X F H N m o) M w → Paired (fun m o => F m = none ∧ WO.isAt X F (upd H (O i) (.lst vs')) N m o) M w := by
      intro N M w hM h
      induction h with
      | nil => exact .nil
      | @cons m o _ _ h1 _ ih =>
        have nm : m ≠ O i := fun z => hM (by rw [← z]; exact List.mem_cons_self)
        refine .cons ⟨h1.1, ?_⟩ (ih fun z => hM (List.mem_cons_of_mem _ z))
        cases o with
        | lst l => obtain ⟨_, ez, us, f1, f2⟩ := h1; exact ⟨ez, us, ne f1 nm, f2⟩
        | clo i caps => exact CloAt.keep h1.2 (keepE_upd e5) (Same.refl _) (fun _ _ e => e)
        | obj y gs => exact ObjAt.keep h1.2 (Same.refl _) fun _ _ _ q => ne q nm
        | fls es => exact FlsAt.keep h1.2 (Same.refl _) fun _ q => ne q nm
        | dic kvs => exact DicAt.keep h1.2 (Same.refl _) fun _ q => ne q nm
    exact go e4 s.wr.at_
  · by_cases hj : i = j
    · subst hj
      rw [List.getElem?_set_self hlt] at e'
      cases e'
      exact ⟨e1, e2, e3, e4, hz, vs', upd_same, p⟩
    · rw [List.getElem?_set_ne hj] at e'
      have h := s.sl j sl e'
      cases sl with
      | un => trivial
      | dat d => exact h
      | own k =>
        obtain ⟨f1, f2, f3, f4, fz, us, f5, f6⟩ := h
        exact ⟨f1, f2, f3, f4, fz, us, ne f5 (fun z => hj (s.inj i j l k e e' z.symm)), f6⟩
      | wref k => exact h
      | exn x => obtain ⟨a, cls, d, e1', e2', e3'⟩ := h; exact ⟨a, cls, d, e1', e2', Exn.keep e3' (Same.refl _) (keepX_upd fun fs z => by rw [e5] at z; cases z)⟩
  · have own' : ∀ {j : Nat} {lj : List D}, (env.set i (.own l'))[j]? = some (.own lj) → ∃ l0, env[j]? = some (.own l0) := by
      intro j lj f
      by_cases hj : i = j
      · subst hj; exact ⟨l, e⟩
      · rw [List.getElem?_set_ne hj] at f; exact ⟨lj, f⟩
    obtain ⟨a1, b1⟩ := own' f1
    obtain ⟨a2, b2⟩ := own' f2
    exact s.inj j k a1 a2 b1 b2 h
def sAppend (i : Nat) (e : Ex) : Sd := fun env w => match env[i]? with
  | some (.own l) => (e env w).bind fun r w1 => (match r.st with
    | some d => if l.length < 16777216 then .ok (.nx (env.set i (.own (l ++ [d])))) w1 else .stuck
    | none => .stuck)
  | _ => .stuck
theorem js_append {i : Nat} {x : Str} {p1 p2 p3 : Pos} (h0 : PE X (.Name x p1) (tVar i)) (h : JE X T Wi e d)
    (hs : swapsWith (.Call (.Attribute (.Name x p1) "append" p2) [e] [] p3) none pos.line X.env = pure false := by rfl)
    (hbase : attributeBase (.Name x p1) "append" X.env (eval (.Name x p1) X.env) = eval (.Name x p1) X.env := by rfl)
    (hfew : ((backTo p3 (starEach (e :: []) X.env)).all (fun x => !x.1) && (backToKw p3 (keywordEach [] X.env)).all (fun x => x.1.isSome)
      && decide ((e :: []).length + ([] : List Keyword).length + (if ([] : List Keyword).isEmpty then 0 else 1) < 30)) = true := by rfl)
    (hline : (p2.endLine == p3.line) = true := by rfl) (hst : starEach (e :: []) X.env = (false, eval e X.env) :: starEach [] X.env := by rfl) (hplain : (backTo p3 (starEach [] X.env)).any (·.1) = false := by rfl) :
    JS X T Wi (.Expr (.Call (.Attribute (.Name x p1) "append" p2) [e] [] p3) pos) (sAppend i d) := by
  refine (ps_expr (pe_bm PySem.F.plainAttrs_list PySem.F.slot_list_append PySem.F.type_list_append mt_append h0 (pa_cons h pa_nil hst) hbase hfew hline hst hplain) hs).impD fun D σ H q => ?_
  obtain ⟨B, env, w, F, O, M, s, q⟩ := q
  unfold sAppend at q
  split at q
  · rename_i l el
    obtain ⟨e1, e2, e3, e4, ez, vs, e5, e6⟩ := s.sl i _ el
    refine ⟨.ref (O i), e1, .inl ⟨rfl, vs, SqL.of e5⟩, B, env, w, F, O, M, s, q.bind.imp fun r w1 q1 v H1 F1 M1 s1 st1 r1 => ?_⟩
    split at q1
    · rename_i dd er
      split at q1
      · rename_i hz
        obtain ⟨F2, s2, st2, a2⟩ := keep_arg s s1 st1 r1 (st_arg er)
        obtain ⟨g1, g2, g3, g4, gz, ws, g5, g6⟩ := s2.sl i _ el
        have hwl : ws.length = l.length := g6.length
        refine ⟨O i, ws, v, rfl, rfl, g5, by rw [hwl, sizeLine_eq]; exact hz, ?_⟩
        exact q1 σ _ F2 O M1 (s2.updOwn el (by rw [List.length_append, List.length_singleton, sizeLine_eq]; omega) (Pr.append g6 (.cons a2 .nil))) st2.fg
      · exact q1.elim
    · exact q1.elim
  · exact q.elim
end
end Dl
namespace Dl
open PySem PySem.Spec PyProof.Rows L2 NdefX
section
variable {X : Cx}
end
section
variable {X : Cx} {T : Tbs} {Wi : WX} {pos : Pos} {st : Stmt} {sts : List Stmt} {a b : Sd} {e : Expr} {d : Ex}
def sSetIx (i : Nat) (ix e : Ex) : Sd := fun env w => (e env w).bind fun r w1 => match env[i]?, r.st with
  | some (.own l), some d => (ix env w1).bind fun k w2 => (match k with
    | .dat (.int z) => (match ixN l.length z with
      | some j => .ok (.nx (env.set i (.own (l.set j d)))) w2
      | none => .stuck)
    | _ => .stuck)
  | some (.wref m), some d => (ix env w1).bind fun k w2 => (match k, w2[m]? with
    | .dat (.int z), some (.lst l) => (match ixN l.length z with
      | some j => .ok (.nx env) (w2.set m (.lst (l.set j d)))
      | none => .stuck)
    | _, _ => .stuck)
  | _, _ => .stuck
theorem WRel.get {X : Tx} {F H : Hp} {M : List Addr} {w : World} (wr : WRel X F H M w) {k : Nat} {o : WO} (h : w[k]? = some o) : ∃ m, M[k]? = some m ∧ F m = none ∧ WO.isAt X F H M m o := Pr.get wr.at_ h
theorem SR.updW {X : Tx} {B : Base} {env : Ev} {w : World} {σ : St} {H F : Hp} {O : Nat → Addr} {M : List Addr} {k : Nat} {m : Addr} {l l' : List D} {vs' : List V} (s : SR X B env w σ H F O M) (e : w[k]? = some (.lst l)) (em : M[k]? = some m) (hz : l'.length ≤ sizeLine) (p : Paired (Rp X.K F) vs' l') :
    SR X B env (w.set k (.lst l')) σ (upd H m (.lst vs')) F O M := by
  obtain ⟨m', em', hF, ez, vs, e5, e6⟩ := s.wr.get e
  rw [em] at em'; cases em'
  have hmM : m ∈ M := List.mem_of_getElem? em
  have ne : ∀ {a : Addr} {o : HO}, H a = some o → a ≠ m → upd H m (.lst vs') a = some o := fun h n => by rw [upd_ne n]; exact h
  -- the frame: what stood at the entry and is no world's list
  have hBm : m ∈ B.M ∨ B.H m = none := by
    obtain ⟨nw, en, hn⟩ := s.st.mw
    rw [en] at hmM
    rcases List.mem_append.mp hmM with z | z
    · exact .inl z
    · exact .inr (hn m z)
  refine ⟨s.len, fun b o q => ?_, s.nt, ⟨s.st.fg, fun a o hM' ht q => ?_, fun a h => ?_, s.st.nf, s.st.mw⟩, ⟨s.wr.nd, ?_⟩, tab_updL s.tb e5, fun j sl e' => ?_, s.inj⟩
  · exact ne (s.fh _ _ q) (fun z => by subst z; rw [hF] at q; cases q)
  · refine ne (s.st.fr a o hM' ht q) (fun z => ?_)
    subst z
    rcases hBm with z | z
    · obtain ⟨φ, rfl⟩ := hM' z
      have q2 := s.st.fr _ _ hM' ht q
      rw [e5] at q2
      cases q2
    · rw [z] at q; cases q
  · by_cases z : a = m
    · subst z; rw [upd_same]; simp
    · rw [upd_ne z]; exact s.st.th a h
  · have go : ∀ {N M : List Addr} {w : World} {k : Nat}, M.Nodup → M[k]? = some m → Paired (fun m o => F m = none ∧ WO.isAt X F H N m o) M w → Paired (fun a o => F a = none ∧ WO.isAt X F (upd H m (.lst vs')) N a o) M (w.set k (.lst l')) := by
      intro N M w k nd hk h
      induction h generalizing k with
      | nil => cases hk
      | @cons a o M' w' h1 ht ih =>
        obtain ⟨nda, nd'⟩ := List.nodup_cons.mp nd
        cases k with
        | zero =>
          simp only [List.getElem?_cons_zero, Option.some.injEq] at hk
          subst hk
          refine .cons ⟨hF, hz, vs', upd_same, p⟩ ?_
          have rest : ∀ {M' : List Addr} {w' : World}, a ∉ M' → Paired (fun m o => F m = none ∧ WO.isAt X F H N m o) M' w' → Paired (fun b o => F b = none ∧ WO.isAt X F (upd H a (.lst vs')) N b o) M' w' := by
            intro M' w' hn h
            induction h with
            | nil => exact .nil
            | @cons b o _ _ h1 _ ih =>
              refine .cons ⟨h1.1, ?_⟩ (ih fun z => hn (List.mem_cons_of_mem _ z))
              cases o with
              | lst l => obtain ⟨_, ez, us, f1, f2⟩ := h1; exact ⟨ez, us, ne f1 (fun z => hn (by rw [← z]; exact List.mem_cons_self)), f2⟩
              | clo i caps => exact CloAt.keep h1.2 (keepE_upd e5) (Same.refl _) (fun _ _ e => e)
              | obj y gs => exact ObjAt.keep h1.2 (Same.refl _) fun _ _ _ q => ne q (fun z => hn (by rw [← z]; exact List.mem_cons_self))
              | fls es => exact FlsAt.keep h1.2 (Same.refl _) fun _ q => ne q (fun z => hn (by rw [← z]; exact List.mem_cons_self))
              | dic kvs => exact DicAt.keep h1.2 (Same.refl _) fun _ q => ne q (fun z => hn (by rw [← z]; exact List.mem_cons_self))
          exact rest nda ht
        | succ k =>
          simp only [List.getElem?_cons_succ] at hk
          refine .cons ⟨h1.1, ?_⟩ (ih nd' hk)
          cases o with
          | lst l => obtain ⟨_, ez, us, f1, f2⟩ := h1; exact ⟨ez, us, ne f1 (fun z => nda (by rw [z]; exact List.mem_of_getElem? hk)), f2⟩
          | clo i caps => exact CloAt.keep h1.2 (keepE_upd e5) (Same.refl _) (fun _ _ e => e)
          | obj y gs => exact ObjAt.keep h1.2 (Same.refl _) fun _ _ _ q => ne q (fun z => nda (by rw [z]; exact List.mem_of_getElem? hk))
          | fls es => exact FlsAt.keep h1.2 (Same.refl _) fun _ q => ne q (fun z => nda (by rw [z]; exact List.mem_of_getElem? hk))
          | dic kvs => exact DicAt.keep h1.2 (Same.refl _) fun _ q => ne q (fun z => nda (by rw [z]; exact List.mem_of_getElem? hk))
    exact go s.wr.nd em s.wr.at_
  · have h := s.sl j sl e'
    cases sl with
    | un => trivial
    | dat d => exact h
    | own k =>
      obtain ⟨f1, f2, f3, f4, fz, us, f5, f6⟩ := h
      exact ⟨f1, f2, f3, f4, fz, us, ne f5 (fun z => f4 (z ▸ hmM)), f6⟩
    | wref k => exact h
    | exn x => obtain ⟨a, cls, d, e1', e2', e3'⟩ := h; exact ⟨a, cls, d, e1', e2', Exn.keep e3' (Same.refl _) (keepX_upd fun fs z => by rw [e5] at z; cases z)⟩
theorem js_setIx {i : Nat} {x : Str} {p1 p2 : Pos} {ei : Expr} {di : Ex} (h0 : PE X (.Name x p1) (tVar i)) (hi : JE X T Wi ei di) (h : JE X T Wi e d)
    (ha : ∀ v, assign (.Subscript (.Name x p1) ei p2) X.env v = (do
      let ov ← holding [v] (eval (.Name x p1) X.env)
      let iv ← holding [v, ov] (eval ei X.env)
      standAt p2
      holding [v, ov, iv] (setItem ov iv v)
      release [v, ov, iv] []) := by intro _; rfl)
    (hs : swapsWithSole [.Subscript (.Name x p1) ei p2] e pos.line X.env = pure false := by rfl) (hw : swappedStores [.Subscript (.Name x p1) ei p2] e X.env = pure none := by rfl)
    (h1 : (assignEach [.Subscript (.Name x p1) ei p2] X.env).map (·.2) = [assign (.Subscript (.Name x p1) ei p2) X.env] := by rfl) : JS X T Wi (.Assign [.Subscript (.Name x p1) ei p2] e pos) (sSetIx i di d) := by
  refine (ps_asg h (pg_sub h0 hi set_list ha) hs hw h1).impD fun D σ H q => ?_
  obtain ⟨B, env, w, F, O, M, s, q⟩ := q
  refine ⟨B, env, w, F, O, M, s, q.bind.imp fun r w1 q1 v H1 F1 M1 s1 st1 r1 => ?_⟩
  split at q1
  · rename_i l dd el er
    obtain ⟨F2, s2, st2, a2⟩ := keep_arg s s1 st1 r1 (st_arg er)
    obtain ⟨e1, e2, e3, e4, ez, vs, e5, e6⟩ := s2.sl i _ el
    refine ⟨.ref (O i), e1, B, env, w1, F2, O, M1, s2, q1.bind.imp fun k w2 q2 y H3 F3 M3 s3 st3 r3 => ?_⟩
    split at q2
    · rename_i z
      cases r3
      split at q2
      · rename_i j ej
        obtain ⟨g1, g2, g3, g4, gz, ws, g5, g6⟩ := s3.sl i _ el
        refine ⟨O i, ws, z, j, rfl, rfl, g5, by rw [g6.length]; exact ej, ?_⟩
        exact q2 σ _ F3 O M3 (s3.updOwn el (by rw [List.length_set]; exact gz) (Pr.set (Rp.mono st3.fg _ _ a2) j g6)) (st2.fg.trans st3.fg)
      · exact q2.elim
    · exact q2.elim
  · rename_i m dd em er
    obtain ⟨F2, s2, st2, a2⟩ := keep_arg s s1 st1 r1 (st_arg er)
    obtain ⟨am, e1, e2⟩ := s2.sl i _ em
    refine ⟨.ref am, e2, B, env, w1, F2, O, M1, s2, q1.bind.imp fun k w2 q2 y H3 F3 M3 s3 st3 r3 => ?_⟩
    split at q2
    · rename_i z l el
      cases r3
      split at q2
      · rename_i j ej
        obtain ⟨am3, f1, f2⟩ := s3.sl i _ em
        obtain ⟨am', f3, f4, fz, ws, f5, f6⟩ := s3.wr.get el
        rw [f1] at f3; cases f3
        obtain ⟨nw, en, _⟩ := id st3.mw
        have : am3 = am := by
          have := mem_of_pfx en e1
          rw [f1] at this
          exact Option.some.inj this
        subst this
        refine ⟨am3, ws, z, j, rfl, rfl, f5, by rw [f6.length]; exact ej, ?_⟩
        exact q2 σ _ F3 O M3 (s3.updW el f1 (by rw [List.length_set]; exact fz) (Pr.set (Rp.mono st3.fg _ _ a2) j f6)) (st2.fg.trans st3.fg)
      · exact q2.elim
    · exact q2.elim
  · exact q1.elim
def dIxW (i : Nat) (ix : Ex) : Ex := fun env w => match env[i]? with
  | some (.wref m) => (ix env w).bind fun k w1 => (match k, w1[m]? with
    | .dat (.int z), some (.lst l) => lift ((atI l z).map .dat) w1
    | _, _ => .stuck)
  | _ => .stuck
theorem je_ixW {i : Nat} {x : Str} {p1 : Pos} {ei : Expr} {di : Ex} (h0 : PE X (.Name x p1) (tVar i)) (hi : JE X T Wi ei di) (hs : PlainIx ei := by exact fun _ _ => rfl) : JE X T Wi (.Subscript (.Name x p1) ei pos) (dIxW i di) := by
  refine (pe_ix ix_list h0 hi hs).impD fun σ H Q q => ?_
  obtain ⟨B, env, w, F, O, M, s, q⟩ := q
  unfold dIxW at q
  split at q
  · rename_i m em
    obtain ⟨am, e1, e2⟩ := s.sl i _ em
    refine ⟨.ref am, e2, B, env, w, F, O, M, s, q.bind.imp fun k w1 q1 y H1 F1 M1 s1 st1 r1 => ?_⟩
    split at q1
    · rename_i z l el
      cases r1
      obtain ⟨rv, e, q3⟩ := q1.lift
      cases ea : atI l z with
      | none => rw [ea] at e; cases e
      | some dd =>
        rw [ea] at e
        cases e
        obtain ⟨am1, f1, f2⟩ := s1.sl i _ em
        obtain ⟨am', f3, f4, fz, ws, f5, f6⟩ := s1.wr.get el
        rw [f1] at f3; cases f3
        obtain ⟨nw, en, _⟩ := id st1.mw
        have : am1 = am := by
          have := mem_of_pfx en e1
          rw [f1] at this
          exact Option.some.inj this
        subst this
        obtain ⟨v, ev, rv⟩ := atI_pair f6 ea
        exact ⟨am1, ws, z, v, rfl, rfl, SqL.of f5, ev, q3 v H1 F1 M1 s1 st1 rv⟩
    · exact q1.elim
  · exact q.elim
def forGo (g : Tgt) (body : Sd) : List D → Sd
  | [], env, w => .ok (.nx env) w
  | d :: ds, env, w => match g d env with
    | some env1 => (body env1 w).bind fun f w1 => (match f with
      | .nx e => forGo g body ds e w1
      | .ct e => forGo g body ds e w1
      | .bk e => .ok (.nx e) w1
      | .rt r => .ok (.rt r) w1)
    | none => .stuck
def sFor (src : Src) (g : Tgt) (body : Sd) : Sd := fun env w => (src env w).bind fun l w1 => forGo g body l env w1
theorem js_for {tg iter : Expr} {body : List Stmt} {src : Src} {g : Tgt} {us : List Nat} (hp : PassesOwn (model X.prog X.w) X.A X.env X.xe) (hc : X.calm = true) (hi : JI X T Wi tg iter src) (hg : JG X T tg g us) (hb : JSs X T Wi body b)
    (hs : ∀ x, foldedSetIterable iter X.env x = pure x := by intro _; rfl) : JS X T Wi (.For tg iter body [] pos) (sFor src g b) := by
  refine (ps_for hp hc hi hg hb hs).impD fun D σ H q => ?_
  obtain ⟨B, env, w, F, O, M, s, q⟩ := q
  refine ⟨B, env, w, F, O, M, s, q.bind.imp fun l w1 q1 J H1 F1 M1 s1 st1 wk => ?_⟩
  refine ⟨fun i m σ H => m = l.length - i ∧ i ≤ l.length ∧ ∃ env w F O M, SR (Cx.tx X T) B env w σ H F O M ∧ Same F1 F ∧ Pst (forGo g b (l.drop i) env w) (flG (Cx.tx X T) B F D) (badX (Cx.tx X T) B Wi), ⟨l.length, by simp, Nat.zero_le _, env, w1, F1, O, M1, s1, Same.refl _, by rw [List.drop_zero]; exact q1.imp fun f w z => z.later st1.fg⟩, ?_⟩
  rintro i m σ' H' ⟨rfl, hi, env', w', F', O', M', s', sf, qq⟩
  by_cases hlt : i < l.length
  · rw [List.drop_eq_getElem_cons hlt] at qq
    refine .inr ⟨wk.go i H' F' sf s'.fh hlt, fun σ H => i + 1 ≤ l.length ∧ ∃ env w F O M, SR (Cx.tx X T) B env w σ H F O M ∧ Same F1 F ∧ Pst (forGo g b (l.drop (i + 1)) env w) (flG (Cx.tx X T) B F D) (badX (Cx.tx X T) B Wi), fun σ H ⟨z1, z2⟩ => ⟨l.length - (i + 1), by omega, rfl, z1, z2⟩, fun x H2 hy => ?_⟩
    obtain ⟨F2, xt2, rx⟩ := wk.yld i H' F' x H2 l[i] sf s'.fh s'.nt hy (List.getElem?_eq_getElem hlt)
    have s2 := s'.xt xt2
    unfold forGo at qq
    split at qq
    · rename_i env1 eg
      refine ⟨B, env', w', F2, O', M', l[i], env1, s2, rx, eg, fun σ3 s3 _ => ?_⟩
      refine ⟨B, env1, w', F2, O', M', s3, qq.bind.imp fun f w4 q4 => ?_⟩
      cases f with
      | nx e => exact fun σ5 H5 F5 O5 M5 s5 k => ⟨hlt, e, w4, F5, O5, M5, s5, (sf.trans xt2.ff).trans k, q4.imp fun f w z => z.later (xt2.ff.trans k)⟩
      | ct e => exact fun σ5 H5 F5 O5 M5 s5 k => ⟨hlt, e, w4, F5, O5, M5, s5, (sf.trans xt2.ff).trans k, q4.imp fun f w z => z.later (xt2.ff.trans k)⟩
      | bk e => exact fun σ5 H5 F5 O5 M5 s5 k => q4 σ5 H5 F5 O5 M5 s5 (xt2.ff.trans k)
      | rt r => exact q4
    · exact qq.elim
  · have hil : i = l.length := by omega
    subst hil
    rw [List.drop_length] at qq
    exact .inl ⟨wk.stop _ H' F' sf s'.fh (Nat.le_refl _), qq σ' H' F' O' M' s' (Same.refl _)⟩
end
end Dl
namespace Dl
open PySem PySem.Spec PyProof.Rows L2 NdefX
structure DefB where
  ar : Nat
  ns : Nat
  body : Cs → Sd
def toSl : RV → Sl
  | .dat d => .dat d
  | .wref k => .wref k
  | _ => .un
def initE (args : List RV) (ns : Nat) : Ev := args.map toSl ++ List.replicate (ns - args.length) .un
def endR (o : Out Fl) : Out RV := match o with
  | .ok (.rt r) w => .ok r w
  | .ok (.nx _) w => .ok (.dat .non) w
  | .ok _ _ => .stuck
  | .exc x e w => .exc x e w
  | .stuck => .stuck
@[simp] theorem endR_rt (r : RV) (w : World) : endR (.ok (.rt r) w) = .ok r w := rfl
@[simp] theorem endR_nx (e : Ev) (w : World) : endR (.ok (.nx e) w) = .ok (.dat .non) w := rfl
def runB (b : DefB) (C : Cs) (args : List RV) (w : World) : Out RV := if args.length = b.ar then endR (b.body C (initE args b.ns) w) else .stuck
def Den (tbl : Nat → Option DefB) : Nat → Cs
  | 0 => ⟨fun _ _ _ => .stuck, 200⟩
  | n + 1 => ⟨fun i args w => match tbl i with
    | some b => runB b (Den tbl n) args w
    | none => .stuck, 16 * (n + 1) + 200⟩
theorem den_room (tbl : Nat → Option DefB) (n : Nat) : (Den tbl n).room = 16 * n + 200 := by cases n <;> rfl
theorem den_succ {tbl : Nat → Option DefB} {n i : Nat} {b : DefB} {args : List RV} {w : World} (h : tbl i = some b) : (Den tbl (n + 1)).call i args w = runB b (Den tbl n) args w := by
  show (match tbl i with
    | some b => runB b (Den tbl n) args w
    | none => .stuck) = _
  rw [h]
theorem initE_len {args : List RV} {ns : Nat} (h : args.length ≤ ns) : (initE args ns).length = ns := by
  unfold initE
  rw [List.length_append, List.length_map, List.length_replicate]
  omega
theorem start_len {N : List Str} {vs : List V} (h : vs.length ≤ N.length) : (L2.start N vs).length = N.length := by
  unfold L2.start
  rw [List.length_append, List.length_map, List.length_replicate]
  omega
theorem sr_start {X : Tx} {H F : Hp} {M : List Addr} {w : World} {vs : List V} {args : List RV} {N : List Str} (fh : Same F H) (nt : NoTbl F) (wr : WRel X F H M w) (tb : TabsN X.T.tabs H) (p : Paired (argAt X F M) vs args) (hl : args.length ≤ N.length) :
    SR X ⟨H, F, M⟩ (initE args N.length) w (L2.start N vs) H F (fun _ => 0) M := by
  have hv := p.length
  refine ⟨by rw [start_len (by omega), initE_len hl], fh, nt, .refl, wr, tb, fun i sl e => ?_, fun i j li lj e1 e2 _ => ?_⟩
  · by_cases hi : i < args.length
    · unfold initE at e
      rw [List.getElem?_append_left (by simpa using hi), List.getElem?_map] at e
      cases ea : args[i]? with
      | none => rw [ea] at e; cases e
      | some a =>
        rw [ea] at e
        simp only [Option.map_some, Option.some.injEq] at e; subst e
        obtain ⟨v, ev, av⟩ := Pr.get p ea
        have es : (L2.start N vs)[i]? = some (some v) := by
          unfold L2.start
          rw [List.getElem?_append_left (by simpa [hv] using hi), List.getElem?_map, ev]
          rfl
        rw [es]
        cases a with
        | dat d => exact ⟨v, rfl, av⟩
        | wref k => obtain ⟨m, e1, e2⟩ := av; subst e2; exact ⟨m, e1, rfl⟩
        | fresh l => exact av.elim
        | bor i l => exact av.elim
    · unfold initE at e
      rw [List.getElem?_append_right (by simpa using hi)] at e
      have := List.mem_of_getElem? e
      rw [List.mem_replicate] at this
      rw [this.2]
      trivial
  · exfalso
    have noOwn : ∀ {i : Nat} {l : List D}, (initE args N.length)[i]? = some (.own l) → False := by
      intro i l e
      have m := List.mem_of_getElem? e
      unfold initE at m
      rcases List.mem_append.mp m with m | m
      · obtain ⟨a, _, ea⟩ := List.mem_map.mp m
        cases a <;> cases ea
      · rw [List.mem_replicate] at m
        cases m.2
    exact noOwn e1
theorem fn_ofG {CX : CXT} {P : Program} {w : PySem.World} {K : PySem.W.Frag} {mg : Str → Option Value} {base : Heap} {k : Nat} {f : Addr} {name qual : Str} {params : Arguments} {body : List Stmt} {scope : Scope} {dV kV doc pm cdv ct oc : Value} {an od : Option Addr}
    {osl : Array (Option Value)} {N ps : List Str} {sp : Sp} (lk : K.lookup f = some ⟨oc, od, .func (PySem.W.fnOf name qual params body scope dV kV doc pm an cdv ct), osl⟩) (hcd : PySem.W.codeIn K cdv qual = true) (S : FnScope N ps scope)
    (many : ∀ vs H Q E, sp vs H Q E → vs.length = ps.length)
    (hbody : ∀ (A : Around) (outer : List Env) (s : Shared) (H : Hp) (vs : List V) (Q : VK) (E : XK), RoomG k (A.deeper (envOfC qual scope s.heap.objs.size f cdv)) → sp vs H Q E →
      ∃ t, PSs (cxOf CX P w K mg base N qual scope f cdv A outer s H E) body t ∧ t { nx := fun _ H' => Q .non H', rt := Q } (start N vs) H) :
    FnG P w K mg base CX (k + 1) f (PySem.W.fnOf name qual params body scope dV kV doc pm an cdv ct) ps sp := by
  refine ⟨many, fun A outer s H args us vs Q E hr e0 hb rv q => ?_⟩
  have kp : ∀ b o, base.get? b = some o → s.heap.get? b = some o := fun b o e => (e0.bs b o e).1
  have kin := e0.mod.kin.keeps kp
  obtain ⟨t, ht, hq⟩ := hbody A outer s H vs Q E (hr.deep _) q
  apply codeAny_call_function hr.toRoomB.depth (kin _ _ lk) rfl S.co S.gen rfl (PySem.W.codeRec_of kin hcd) (hb _ _ _ _ ?_)
  apply wpAny_newFunctionEnv_cells S.kind
  · rintro ⟨y, v⟩ hy
    have := S.par y (List.of_mem_zip hy).1
    exact this.imp_right fun q => ⟨q, PySem.W.cellsFrom_some _ _ _ (.inl q)⟩
  · rintro _ rfl s1 x
    refine ⟨(e0.mod.nolimit.keeps kp).keeps x.toInCall.keep, codeAny_func (wpAny_mono (ht.run [] s1 (start N vs) H _ (inv_start S hr.hd e0 (many _ _ _ _ q) rv x) hq) (fun fl s2 h => ?_) fun _ _ h => h)⟩
    cases fl with
    | ret u =>
      obtain ⟨v, _, H2, J, r2, q2⟩ := h
      exact ⟨v, H2, J.os, J.bare, J.base, J.hok, r2, q2⟩
    | next =>
      obtain ⟨_, H2, J, q2⟩ := h
      exact ⟨.non, H2, J.os, J.bare, J.base, J.hok, rfl, q2⟩
    | brk => exact (h.elim fun _ h => h.elim fun _ h => h.2).elim
    | cont => exact (h.elim fun _ h => h.elim fun _ h => h.2).elim
theorem def_ok {P : Program} {w : PySem.World} {K : PySem.W.Frag} {mg : Str → Option Value} {base : Heap} {T : Tbs} {x qual : Str} {params : Arguments} {body : List Stmt} {scope : Scope} {f : Addr} {fd : FuncData} {N ps : List Str} {tbl : Nat → Option DefB} {n i : Nat} {bd : Cs → Sd}
    (F : FunD K x qual params body scope [] [] f fd) (S : FnScope N ps scope) (ht : tbl i = some ⟨ps.length, N.length, bd⟩)
    (hb : ∀ (cdv : Value) (A : Around) (outer : List Env) (s : Shared) (H : Hp) (E : XK), RoomG n (A.deeper (envOfC qual scope s.heap.objs.size f cdv)) →
      JSs (cxOf (L2N.CX P w) P w K mg base N qual scope f cdv A outer s H E) T (fun cls d _ H => E cls d H) body (bd (Den tbl n))) :
    FnG P w K mg base (L2N.CX P w) (n + 1) f fd ps (spD ⟨K, mg, T⟩ ((Den tbl (n + 1)).call i)) := by
  have hNl : ps.length ≤ N.length := by
    have := congrArg List.length S.pre
    rw [List.length_take] at this
    omega
  have hlen : ∀ vs H Q E, spD ⟨K, mg, T⟩ ((Den tbl (n + 1)).call i) vs H Q E → vs.length = ps.length := by
    intro vs H Q E h
    obtain ⟨F', M, args, w', fh, nt, wr, tb, p, q⟩ := h
    rw [den_succ ht] at q
    unfold runB at q
    split at q
    · rename_i hl; rw [p.length]; exact hl
    · exact q.elim
  obtain ⟨oc, od, dV, kV, doc, pm, an, cdv, ct, osl, rfl, lk, hcd, _, _⟩ := F.ex
  refine fn_ofG lk hcd S hlen fun A outer s H vs Q E hr h => ⟨_, hb cdv A outer s H E hr, ?_⟩
  obtain ⟨F', M, args, w', fh, nt, wr, tb, p, q⟩ := h
  rw [den_succ ht] at q
  unfold runB at q
  split at q
  · rename_i hl
    have hl : args.length = ps.length := hl
    refine ⟨⟨H, F', M⟩, _, w', F', _, M, sr_start fh nt wr tb p (by omega), ?_⟩
    have q : Pst (endR (bd (Den tbl n) (initE args N.length) w')) _ _ := q
    cases eo : bd (Den tbl n) (initE args N.length) w' with
    | stuck => rw [eo] at q; exact q.elim
    | exc x' e' w2 =>
      rw [eo] at q
      intro cls d σ' H' F2 O2 M2 s2 hx
      exact q cls d H' F2 M2 s2.fh s2.nt s2.wr s2.tb s2.st hx
    | ok fl w2 =>
      rw [eo] at q
      cases fl with
      | rt r =>
        intro v H' F2 M2 ra
        exact q v H' F2 M2 ra.fh ra.nt ra.wr ra.tb ra.st ra.at_
      | nx e =>
        intro σ' H' F2 O2 M2 s2 _
        exact q .non H' F2 M2 s2.fh s2.nt s2.wr s2.tb s2.st .non
      | bk e => exact q.elim
      | ct e => exact q.elim
  · exact q.elim
theorem def_zero {P : Program} {w : PySem.World} {K : PySem.W.Frag} {mg : Str → Option Value} {base : Heap} {T : Tbs} {f : Addr} {fd : FuncData} {ps : List Str} {tbl : Nat → Option DefB} {i : Nat} {CX : CXT} : FnG P w K mg base CX 0 f fd ps (spD ⟨K, mg, T⟩ ((Den tbl 0).call i)) := by
  have no : ∀ vs H Q E, ¬ spD ⟨K, mg, T⟩ ((Den tbl 0).call i) vs H Q E := fun vs H Q E h => by
    obtain ⟨_, _, _, _, _, _, _, _, _, q⟩ := h
    exact q
  exact ⟨fun vs H Q E h => absurd h (no vs H Q E), fun A outer s H args us vs Q E _ _ _ _ h => absurd h (no vs H Q E)⟩
structure Dfn (P : Program) (w : PySem.World) (K : PySem.W.Frag) (mg : Str → Option Value) (base : Heap) (T : Tbs) (C : Cs) (n : Nat) (x : Str) (i : Nat) : Prop where
  ex : ∃ (a : Addr) (fd : FuncData) (ps : List Str), mg x = some (.ref a) ∧ PySem.W.keepIn K (.ref a) = true ∧ Binds K fd ps [] ∧ FnG P w K mg base (L2N.CX P w) n a fd ps (spD ⟨K, mg, T⟩ (C.call i))
theorem Dfn.cal {X : Cx} {T : Tbs} {C : Cs} {n : Nat} {x : Str} {i : Nat} (d : Dfn X.prog X.w X.K X.mg X.base T C n x i) : Cal X T n C x i := ⟨d.ex⟩
theorem ints_rp {K : PySem.W.Frag} {F : Hp} : ∀ ns : List Int, Paired (Rp K F) (ns.map V.int) (ns.map D.int)
  | [] => .nil
  | n :: ns => .cons (.int n) (ints_rp ns)
def offTbl (H : Hp) : Hp := fun b => match H b with
  | some (.tbl _) => none
  | o => o
theorem offTbl_same (H : Hp) : Same (offTbl H) H := fun b o e => by
  unfold offTbl at e
  split at e
  · cases e
  · exact e
theorem offTbl_no (H : Hp) : NoTbl (offTbl H) := fun b ps e => by
  unfold offTbl at e
  split at e
  · cases e
  · rename_i h; exact h _ e
theorem offTbl_at {H : Hp} {b : Addr} {o : HO} (e : H b = some o) (h : ∀ ps, o ≠ .tbl ps) : offTbl H b = some o := by
  unfold offTbl
  rw [e]
  split
  · rename_i q; exact absurd (Option.some.inj q) (h _)
  · rfl
theorem law_spT {K : PySem.W.Frag} {mg : Str → Option Value} {T : Tbs} {m : List RV → World → Out RV} {H : Hp} {a : Addr} {ns : List Int} (hT : TabsN T.tabs H) (hS : SqL K H a (ns.map V.int)) (hl : ns.length ≤ sizeLine) {w' : World} (h : m [.dat (.lst (ns.map D.int))] [] = .ok (.dat (.bl true)) w') :
    spD ⟨K, mg, T⟩ m [.ref a] H (fun v _ => v = .bl true) (fun _ _ _ => False) := by
  have hS' : SqL K (offTbl H) a (ns.map V.int) := by
    rcases hS with (e | ⟨o, e⟩) | q
    · exact .inl (.inl (offTbl_at e fun ps z => by cases z))
    · exact .inl (.inr ⟨o, offTbl_at e fun ps z => by cases z⟩)
    · exact .inr q
  refine ⟨offTbl H, [], [.dat (.lst (ns.map D.int))], [], offTbl_same H, offTbl_no H, ⟨List.nodup_nil, .nil⟩, hT, .cons (.lst (by rw [List.length_map]; exact hl) hS' (ints_rp ns)) .nil, ?_⟩
  rw [h]
  intro v H' F' M' _ _ _ _ _ r
  cases r
  rfl
end Dl
namespace Dl
open PySem PySem.Spec PyProof.Rows L2 NdefX
section
variable {X : Cx} {T : Tbs} {Wi : WX} {a : Expr} {da : Ex} {pos : Pos}
theorem pe_globI {x : Str} {i : Int} (hg : Gl X x) (hm : ∃ t, X.mg x = some (.int i t)) (hd : (x == ("__debug__" : Str)) = false := by decide) : PE X (.Name x pos) (tC (.int i)) := by
  obtain ⟨t, e⟩ := hm
  exact pe_glob hg e ⟨t, rfl⟩ hd
theorem pe_globS {x : Str} {i : Str} (hg : Gl X x) (hm : ∃ t, X.mg x = some (.str i t)) (hd : (x == ("__debug__" : Str)) = false := by decide) : PE X (.Name x pos) (tC (.str i)) := by
  obtain ⟨t, e⟩ := hm
  exact pe_glob hg e ⟨t, rfl⟩ hd
def gGetK (t : List (Str × D)) : D → Option RV
  | .str z => (match t.lookup z with
    | some (.int i) => some (.dat (.int i))
    | some (.bl i) => some (.dat (.bl i))
    | _ => none)
  | _ => none
end
end Dl
namespace Dl
open PySem PySem.Spec PyProof.Rows L2 NdefX
open LamX (CodeO)
def addC (cs : List Addr) (h : Heap) (H : Hp) : Hp := fun b => if b ∈ cs then (h.get? b).map (CellO b) else H b
def dropC (cs : List Addr) (H : Hp) : Hp := fun b => if b ∈ cs then none else H b
def putC (cs : List Addr) (H H' : Hp) : Hp := fun b => if b ∈ cs then H b else H' b
section
variable {cs : List Addr} {h : Heap} {H H' : Hp} {b : Addr} {o : HO}
theorem addC_in (hb : b ∈ cs) : addC cs h H b = (h.get? b).map (CellO b) := if_pos hb
theorem addC_out (hb : b ∉ cs) : addC cs h H b = H b := if_neg hb
theorem dropC_in (hb : b ∈ cs) : dropC cs H b = none := if_pos hb
theorem dropC_out (hb : b ∉ cs) : dropC cs H b = H b := if_neg hb
theorem putC_in (hb : b ∈ cs) : putC cs H H' b = H b := if_pos hb
theorem putC_out (hb : b ∉ cs) : putC cs H H' b = H' b := if_neg hb
theorem dropC_some (e : dropC cs H b = some o) : b ∉ cs ∧ H b = some o := by
  by_cases hb : b ∈ cs
  · rw [dropC_in hb] at e; cases e
  · rw [dropC_out hb] at e; exact ⟨hb, e⟩
theorem dropC_none (e : H b = none) : dropC cs H b = none := by
  by_cases hb : b ∈ cs
  · exact dropC_in hb
  · rw [dropC_out hb]; exact e
end
section
variable {P : Program} {w : PySem.World} {K : PySem.W.Frag} {mg : Str → Option Value} {base : Heap} {A : Around} {outer : List Env} {s s' : Shared} {H : Hp} {cs : List Addr} {Q Q' : VK} {u : Value}
theorem cellO_ok {c : Addr} {o : Obj} {h : Heap} (e : h.get? c = some o) : ObjOk P w H h c (CellO c o) := ⟨e, ⟨o, e⟩, fun _ _ h1 st => st _ h1⟩
theorem hok_drop {h : Heap} (k : HOk P w H h) (hc : ∀ b ∈ cs, ∃ φ, H b = some (.ext φ)) : HOk P w (dropC cs H) h := fun a o e => by
  obtain ⟨_, e2⟩ := dropC_some e
  have out : ∀ {b : Addr} {o : HO}, H b = some o → (∀ φ, o ≠ .ext φ) → dropC cs H b = some o := fun {b o} q n => by
    rw [dropC_out (fun hb => by
      obtain ⟨φ, z⟩ := hc b hb
      rw [q] at z
      exact n φ (Option.some.inj z))]
    exact q
  exact (k a o e2).stay (fun _ _ _ q => q) (fun b q => out q fun φ z => by cases z) fun b xs q => out q fun φ z => by cases z
theorem env0_drop (e : Env0 P w K mg base A outer s H) (hc : ∀ b ∈ cs, ∃ φ, H b = some (.ext φ)) : Env0 P w K mg base A outer s (dropC cs H) where
  frames := e.frames
  mod := e.mod
  bs := fun b o h => ⟨(e.bs b o h).1, dropC_none (e.bs b o h).2⟩
  bsz := e.bsz
  funs := e.funs
  frf := fun b h => dropC_none (e.frf b h)
  hok := hok_drop e.hok hc
  bare := e.bare
theorem env0_add (e : Env0 P w K mg base A outer s H) (hc : ∀ b ∈ cs, H b = none ∧ base.get? b = none ∧ b ∉ frs outer ∧ ∃ o, s.heap.get? b = some o) : Env0 P w K mg base A outer s (addC cs s.heap H) where
  frames := e.frames
  mod := e.mod
  bs := fun b o h => ⟨(e.bs b o h).1, by
    rw [addC_out (fun hb => by rw [(hc b hb).2.1] at h; cases h)]
    exact (e.bs b o h).2⟩
  bsz := e.bsz
  funs := e.funs
  frf := fun b h => by
    rw [addC_out (fun hb => (hc b hb).2.2.1 h)]
    exact e.frf b h
  hok := fun a o q => by
    by_cases ha : a ∈ cs
    · obtain ⟨ob, eo⟩ := (hc a ha).2.2.2
      rw [addC_in ha, eo] at q
      cases q
      exact cellO_ok eo
    · rw [addC_out ha] at q
      have out : ∀ {b : Addr} {o : HO}, H b = some o → addC cs s.heap H b = some o := fun {b o} q => by
        rw [addC_out (fun hb => by rw [(hc b hb).1] at q; cases q)]
        exact q
      exact (e.hok a o q).stay (fun _ _ _ q => q) (fun b q => out q) fun b xs q => out q
  bare := e.bare
theorem ce_drop (hc : ∀ b ∈ cs, H b = none ∧ ∃ o, s.heap.get? b = some o) (hQ : ∀ v H', Q' v H' → (∀ b ∈ cs, H' b = addC cs s.heap H b) ∧ Q v (dropC cs H')) (c : CE outer P w (addC cs s.heap H) s Q' u s') : CE outer P w H s Q u s' := by
  obtain ⟨v, H', os, bare, un, hok, r, q⟩ := c
  obtain ⟨hk, q⟩ := hQ v H' q
  have cell : ∀ b ∈ cs, ∃ o, s.heap.get? b = some o ∧ H' b = some (CellO b o) ∧ s'.heap.get? b = some o := fun b hb => by
    obtain ⟨o, eo⟩ := (hc b hb).2
    have e1 := hk b hb
    rw [addC_in hb, eo] at e1
    exact ⟨o, eo, e1, (hok b _ e1).1⟩
  have out : ∀ {b : Addr} {o : HO}, H b = some o → b ∉ cs := fun {b o} q hb => by rw [(hc b hb).1] at q; cases q
  have un' : Un (frs outer) [] H (dropC cs H') s.heap s'.heap := by
    refine ⟨fun b o e n hf hx => ?_, fun b o e n hf hx => ?_, fun b o e n hx => ?_, un.there, fun b xs e => ?_, fun b o x e => ?_, fun b ps e => ?_⟩
    · by_cases hb : b ∈ cs
      · obtain ⟨o', e1, _, e3⟩ := cell b hb
        rw [e1] at e; cases e
        exact e3
      · exact un.keep b o e (by rw [addC_out hb]; exact n) hf hx
    · by_cases hb : b ∈ cs
      · obtain ⟨o', e1, _, e3⟩ := cell b hb
        rw [e1] at e; cases e
        exact ⟨o.slots, e3⟩
      · exact un.slot b o e (by rw [addC_out hb]; exact n) hf hx
    · by_cases hb : b ∈ cs
      · exact dropC_in hb
      · rw [dropC_out hb]
        exact un.free b o e (by rw [addC_out hb]; exact n) hx
    · rw [dropC_out (out e)]
      exact un.tups b xs (by rw [addC_out (out e)]; exact e)
    · rw [dropC_out (out e)]
      exact un.frzs b o x (by rw [addC_out (out e)]; exact e)
    · rw [dropC_out (out e)]
      exact un.tbls b ps (by rw [addC_out (out e)]; exact e)
  exact ⟨v, dropC cs H', os, bare, un', hok_drop hok (fun b hb => by obtain ⟨o, _, e2, _⟩ := cell b hb; exact ⟨_, e2⟩), r, q⟩
theorem ce_put (hok0 : HOk P w H s.heap) (frf : ∀ b ∈ frs outer, H b = none) (hc : ∀ b ∈ cs, ∃ o, H b = some (CellO b o)) (hQ : ∀ v H', (∀ b ∈ cs, H' b = none) → Q' v H' → Q v (putC cs H H')) (c : CE outer P w (dropC cs H) s Q' u s') : CE outer P w H s Q u s' := by
  obtain ⟨v, H', os, bare, un, hok, r, q⟩ := c
  have cell : ∀ b ∈ cs, ∃ o, H b = some (CellO b o) ∧ s.heap.get? b = some o ∧ s'.heap.get? b = some o ∧ H' b = none := fun b hb => by
    obtain ⟨o, eo⟩ := hc b hb
    have e1 := (hok0 b _ eo).1
    have nf : b ∉ frs outer := fun z => by rw [frf b z] at eo; cases eo
    exact ⟨o, eo, e1, un.keep b o e1 (dropC_in hb) nf (by simp), un.free b o e1 (dropC_in hb) (by simp)⟩
  have no : ∀ b ∈ cs, H' b = none := fun b hb => by obtain ⟨_, _, _, _, e⟩ := cell b hb; exact e
  have out : ∀ {b : Addr} {o : HO}, H b = some o → (∀ φ, o ≠ .ext φ) → b ∉ cs := fun {b o} q n hb => by
    obtain ⟨o', e⟩ := hc b hb
    rw [q] at e
    exact n _ (Option.some.inj e)
  have un' : Un (frs outer) [] H (putC cs H H') s.heap s'.heap := by
    refine ⟨fun b o e n hf hx => ?_, fun b o e n hf hx => ?_, fun b o e n hx => ?_, un.there, fun b xs e => ?_, fun b o x e => ?_, fun b ps e => ?_⟩
    · exact un.keep b o e (dropC_none n) hf hx
    · exact un.slot b o e (dropC_none n) hf hx
    · by_cases hb : b ∈ cs
      · rw [putC_in hb]; exact n
      · rw [putC_out hb]; exact un.free b o e (dropC_none n) hx
    · have hb := out e (fun φ z => by cases z)
      rw [putC_out hb]
      exact un.tups b xs (by rw [dropC_out hb]; exact e)
    · have hb := out e (fun φ z => by cases z)
      rw [putC_out hb]
      exact un.frzs b o x (by rw [dropC_out hb]; exact e)
    · have hb := out e (fun φ z => by cases z)
      rw [putC_out hb]
      exact un.tbls b ps (by rw [dropC_out hb]; exact e)
  refine ⟨v, putC cs H H', os, bare, un', fun a o e => ?_, r, hQ v H' no q⟩
  by_cases ha : a ∈ cs
  · obtain ⟨o', e1, _, e3, _⟩ := cell a ha
    rw [putC_in ha, e1] at e
    cases e
    exact cellO_ok e3
  · rw [putC_out ha] at e
    have keep : ∀ {b : Addr} {o : HO}, H' b = some o → putC cs H H' b = some o := fun {b o} q => by
      rw [putC_out (fun hb => by rw [no b hb] at q; cases q)]
      exact q
    exact (hok a o e).stay (fun _ _ _ q => q) (fun b q => keep q) fun b xs q => keep q
end
structure COk (P : Program) (w : PySem.World) (K : PySem.W.Frag) (mg : Str → Option Value) (base : Heap) (k : Nat) (nd : ND) (sp : List (Option V) → Sp) : Prop where
  len : ∀ ws vs H Q E, sp ws vs H Q E → vs.length = nd.ps.length
  run : ∀ (f : Addr) (cl : List (Str × Addr)) (c' : Addr) (A : Around) (outer : List Env) (s : Shared) (H : Hp) (us : List Value) (vs : List V) (ws : List (Option V)) (Q : VK) (E : XK), RoomG k A → Env0 P w K mg base A outer s H → H f = some (CloO f nd cl c') → H c' = some (CodeO c' nd.qual) →
    CellsAt cl nd.fr ws s.heap H → Vals vs us → sp ws vs H Q E → codeAny (model P w) A (.call (.ref f) ⟨us, []⟩) (CR (L2N.CX P w) outer P w H s Q E) s
section
variable {P : Program} {w : PySem.World} {K : PySem.W.Frag} {mg : Str → Option Value} {base : Heap} {k : Nat} {nd : ND} {sp : List (Option V) → Sp} {N : List Str}
theorem cok_def {b : List Stmt} (hnd : nd.body = .inl b) (S : NScope N nd.ps nd.fr nd.scope) (hb : ∀ (cl : List (Str × Addr)) (c' : Addr) (doc pm ctv : Value) (us : List Value), us.length = nd.ps.length → bindArgs ((nd.nf b cl c').fd doc pm ctv) ⟨us, []⟩ = pure (nd.ps.zip us)) (len : ∀ ws vs H Q E, sp ws vs H Q E → vs.length = nd.ps.length)
    (hbody : ∀ (f : Addr) (cl : List (Str × Addr)) (c' : Addr) (A : Around) (outer : List Env) (s : Shared) (H : Hp) (vs : List V) (ws : List (Option V)) (Q : VK) (E : XK), RoomG k (A.deeper (envF (nd.nf b cl c') f s.heap.objs.size)) → ws.length = nd.fr.length → sp ws vs H Q E →
      ∃ t, PSs (ncx (L2N.CX P w) P w K mg base N (nd.nf b cl c') f A outer s H E) b t ∧ t { nx := fun _ H' => Q .non H', rt := Q } (startF N vs ws) H) : COk P w K mg base (k + 1) nd sp := by
  refine ⟨len, fun f cl c' A outer s H us vs ws Q E hr e0 hf hC C r q => ?_⟩
  have kp0 : ∀ b o, base.get? b = some o → s.heap.get? b = some o := fun b o e => (e0.bs b o e).1
  have many := len _ _ _ _ _ q
  obtain ⟨od, sl, doc, pm, ctv, ho⟩ := fnO_at (F := nd.nf b cl c') e0.hok (show H f = some (FnO f (nd.nf b cl c')) by rw [hf]; unfold CloO; rw [hnd])
  obtain ⟨t, ht, hq⟩ := hbody f cl c' A outer s H vs ws Q E (hr.deep _) C.len q
  apply codeAny_call_function hr.toRoomB.depth ho rfl S.co S.gen rfl (codeO_at e0.hok hC)
  rw [hb cl c' doc pm ctv us (by rw [← r.length]; exact many)]
  apply wpAny_pure
  refine wpAny_newFunctionEnv S.nocell (fun y hy => S.par y.1 (List.of_mem_zip (a := y.1) (b := y.2) hy).1) (fun h1 hns hsb => ⟨(e0.mod.nolimit.keeps kp0).fresh _ hsb, ?_⟩) S.kind
  have kp : ∀ b o, s.heap.get? b = some o → h1.get? b = some o := fun b o e => hsb.extBut b o (Nat.ne_of_lt (Heap.lt_size e)) (Heap.get?_push_of_some _ e)
  have I : Inv (ncx (L2N.CX P w) P w K mg base N (nd.nf b cl c') f A outer s H E) [] (startF N vs ws) H { s with heap := h1, toks := s.toks + (nd.ps.zip us).length } := inv_startN (F := nd.nf b cl c') S hr.hd e0 many r C hns kp
  refine codeAny_func (wpAny_mono (ht.run [] _ (startF N vs ws) H _ I hq) (fun fl s2 h => ?_) fun _ _ h => h)
  cases fl with
  | ret u =>
    obtain ⟨v, _, H2, J, r2, q2⟩ := h
    exact ⟨v, H2, J.os, J.bare, J.base, J.hok, r2, q2⟩
  | next =>
    obtain ⟨_, H2, J, q2⟩ := h
    exact ⟨.non, H2, J.os, J.bare, J.base, J.hok, rfl, q2⟩
  | brk => exact (h.elim fun _ h => h.elim fun _ h => h.2).elim
  | cont => exact (h.elim fun _ h => h.elim fun _ h => h.2).elim
theorem cok_lam {e : Expr} (hnd : nd.body = .inr e) (S : NScope N nd.ps nd.fr nd.scope) (hb : ∀ (cl : List (Str × Addr)) (c' : Addr) (pm ctv : Value) (us : List Value), us.length = nd.ps.length → bindArgs (PySem.W.kla_fn nd.name nd.qual nd.params e nd.scope cl pm (.ref c') ctv) ⟨us, []⟩ = pure (nd.ps.zip us)) (len : ∀ ws vs H Q E, sp ws vs H Q E → vs.length = nd.ps.length)
    (hbody : ∀ (f : Addr) (cl : List (Str × Addr)) (c' : Addr) (A : Around) (outer : List Env) (s : Shared) (H : Hp) (vs : List V) (ws : List (Option V)) (Q : VK) (E : XK), RoomG k (A.deeper (envF (nd.nf [] cl c') f s.heap.objs.size)) → ws.length = nd.fr.length → sp ws vs H Q E →
      ∃ t, PE (ncx (L2N.CX P w) P w K mg base N (nd.nf [] cl c') f A outer s H E) e t ∧ t (startF N vs ws) H Q) : COk P w K mg base (k + 1) nd sp := by
  refine ⟨len, fun f cl c' A outer s H us vs ws Q E hr e0 hf hc C r hsp => ?_⟩
  have hl := len _ _ _ _ _ hsp
  have lim : s.heap.NoLimit := e0.mod.nolimit.keeps fun b o e => (e0.bs b o e).1
  have hf' : H f = some (LamO f nd e cl c') := by rw [hf]; unfold CloO; rw [hnd]
  obtain ⟨⟨pm, ctv, ho⟩, _, _⟩ := e0.hok f _ hf'
  refine PySem.W.kla_callFunE hr.toRoomB.depth ho rfl S.co S.gen rfl (codeO_at e0.hok hc) ?_
  rw [hb cl c' pm ctv us (by rw [← r.length]; exact hl)]
  refine wpAny_pure (wpAny_newFunctionEnv S.nocell (fun ⟨n, _⟩ hy => S.par n (List.of_mem_zip hy).1) (fun h₁ hns hsb => ⟨lim.fresh _ hsb, ?_⟩) S.kind)
  show codeAny _ _ (.expr e (envF (nd.nf [] cl c') f s.heap.objs.size)) _ _
  have kp : ∀ b o, s.heap.get? b = some o → h₁.get? b = some o := fun b o e => hsb.extBut b o (Nat.ne_of_lt (Heap.lt_size e)) (Heap.get?_push_of_some _ e)
  obtain ⟨t, ht, hq⟩ := hbody f cl c' A outer s H vs ws Q E (hr.deep _) C.len hsp
  have I : Inv (ncx (L2N.CX P w) P w K mg base N (nd.nf [] cl c') f A outer s H E) [] (startF N vs ws) H { s with heap := h₁, toks := s.toks + (nd.ps.zip us).length } := inv_startN (F := nd.nf [] cl c') S hr.hd e0 hl r C hns kp
  refine PySem.W.kla_codeExpr (wpAny_mono (ht.run [] _ (startF N vs ws) H Q I hq) (fun v s' hs => ?_) fun e s' hs => hs)
  obtain ⟨v', H', J, rv, q⟩ := hs
  exact ⟨v', H', J.os, J.bare, J.base, J.hok, rv, q⟩
end
def CapV (K : PySem.W.Frag) (F : Hp) (ws : List (Option V)) (caps : List D) : Prop := ws.length = caps.length ∧ ∀ (j : Nat) (d : D), caps[j]? = some d → ∃ v, ws[j]? = some (some v) ∧ Rp K F v d
def spC (X : Tx) (m : List RV → World → Out RV) (caps : List D) : List (Option V) → Sp := fun ws vs H Q _ => ∃ F M args w, Same F H ∧ NoTbl F ∧ WRel X F H M w ∧ TabsN X.T.tabs H ∧ Paired (argAt X F M) vs args ∧ CapV X.K F ws caps ∧
  Pst (m (args ++ caps.map .dat) w) (fun r w' => ∀ v H' F' M', Same F' H' → NoTbl F' → WRel X F' H' M' w' → TabsN X.T.tabs H' → Stp H F M H' F' M' → r.isAt X H [] (fun _ => 0) H' F' M' v → Q v H') (fun _ _ _ => False)
theorem sr_startC {X : Tx} {H F : Hp} {M : List Addr} {w : World} {vs : List V} {args : List RV} {ws : List (Option V)} {caps : List D} {N : List Str} (fh : Same F H) (nt : NoTbl F) (wr : WRel X F H M w) (tb : TabsN X.T.tabs H) (p : Paired (argAt X F M) vs args) (cv : CapV X.K F ws caps) (hl : args.length + caps.length ≤ N.length) :
    SR X ⟨H, F, M⟩ (initE (args ++ caps.map .dat) N.length) w (startF N vs ws) H F (fun _ => 0) M := by
  have hv := p.length
  obtain ⟨cl, ca⟩ := cv
  have el : (args ++ caps.map RV.dat).length = args.length + caps.length := by simp
  have sl1 : (startF N vs ws).length = N.length := by unfold startF; simp; omega
  have noOwn : ∀ {i : Nat} {l : List D}, (initE (args ++ caps.map .dat) N.length)[i]? = some (.own l) → False := by
    intro i l e
    have m := List.mem_of_getElem? e
    unfold initE at m
    rcases List.mem_append.mp m with m | m
    · obtain ⟨a, _, ea⟩ := List.mem_map.mp m
      cases a <;> cases ea
    · rw [List.mem_replicate] at m
      cases m.2
  refine ⟨by rw [sl1, initE_len (by omega)], fh, nt, .refl, wr, tb, fun i sl e => ?_, fun i j li lj e1 e2 _ => (noOwn e1).elim⟩
  by_cases hi : i < args.length
  · unfold initE at e
    rw [List.getElem?_append_left (by simp; omega), List.getElem?_map, List.getElem?_append_left hi] at e
    cases ea : args[i]? with
    | none => rw [ea] at e; cases e
    | some a =>
      rw [ea] at e
      simp only [Option.map_some, Option.some.injEq] at e; subst e
      obtain ⟨v, ev, av⟩ := Pr.get p ea
      have es : (startF N vs ws)[i]? = some (some v) := by
        unfold startF
        rw [List.getElem?_append_left (by simp; omega), List.getElem?_map, ev]
        rfl
      rw [es]
      cases a with
      | dat d => exact ⟨v, rfl, av⟩
      | wref k => obtain ⟨m, e1, e2⟩ := av; subst e2; exact ⟨m, e1, rfl⟩
      | fresh l => exact av.elim
      | bor i l => exact av.elim
  · by_cases hj : i < args.length + caps.length
    · unfold initE at e
      rw [List.getElem?_append_left (by simp; omega), List.getElem?_map, List.getElem?_append_right (by omega), List.getElem?_map] at e
      cases ec : caps[i - args.length]? with
      | none => rw [ec] at e; cases e
      | some d =>
        rw [ec] at e
        simp only [Option.map_some, Option.some.injEq] at e; subst e
        obtain ⟨v, ev, rv⟩ := ca _ d ec
        have es : (startF N vs ws)[i]? = some (some v) := by
          unfold startF
          rw [List.getElem?_append_right (by simp; omega), List.getElem?_append_left (by simp; omega)]
          simp only [List.length_map, hv]
          exact ev
        rw [es]
        exact ⟨v, rfl, rv⟩
    · unfold initE at e
      rw [List.getElem?_append_right (by simp; omega)] at e
      have := List.mem_of_getElem? e
      rw [List.mem_replicate] at this
      rw [this.2]
      trivial
section
variable {P : Program} {w : PySem.World} {K : PySem.W.Frag} {mg : Str → Option Value} {base : Heap} {T : Tbs} {n i : Nat} {nd : ND} {N : List Str} {tbl : Nat → Option DefB} {caps : List D}
theorem spC_len {bd : Cs → Sd} (ht : tbl i = some ⟨nd.ps.length + nd.fr.length, N.length, bd⟩) (hcaps : caps.length = nd.fr.length) : ∀ ws vs H Q E, spC ⟨K, mg, T⟩ ((Den tbl (n + 1)).call i) caps ws vs H Q E → vs.length = nd.ps.length := by
  intro ws vs H Q E h
  obtain ⟨F', M, args, w', fh, nt, wr, tb, p, cv, q⟩ := h
  rw [den_succ ht] at q
  unfold runB at q
  split at q
  · rename_i hl
    simp only [List.length_append, List.length_map] at hl
    rw [p.length]
    omega
  · exact q.elim
theorem clo_def {b : List Stmt} {bd : Cs → Sd} (hnd : nd.body = .inl b) (S : NScope N nd.ps nd.fr nd.scope) (hb : ∀ (cl : List (Str × Addr)) (c' : Addr) (doc pm ctv : Value) (us : List Value), us.length = nd.ps.length → bindArgs ((nd.nf b cl c').fd doc pm ctv) ⟨us, []⟩ = pure (nd.ps.zip us))
    (ht : tbl i = some ⟨nd.ps.length + nd.fr.length, N.length, bd⟩) (hcaps : caps.length = nd.fr.length)
    (hd : ∀ (f : Addr) (cl : List (Str × Addr)) (c' : Addr) (A : Around) (outer : List Env) (s : Shared) (H : Hp) (E : XK), RoomG n (A.deeper (envF (nd.nf b cl c') f s.heap.objs.size)) → JSs (ncx (L2N.CX P w) P w K mg base N (nd.nf b cl c') f A outer s H E) T noW b (bd (Den tbl n))) :
    COk P w K mg base (n + 1) nd (spC ⟨K, mg, T⟩ ((Den tbl (n + 1)).call i) caps) := by
  have hN : nd.ps.length + nd.fr.length ≤ N.length := by
    have q := congrArg List.length S.pre
    rw [List.length_take, List.length_append] at q
    omega
  refine cok_def hnd S hb (spC_len ht hcaps) fun f cl c' A outer s H vs ws Q E hr _ h => ⟨_, hd f cl c' A outer s H E hr, ?_⟩
  have hlen := spC_len ht hcaps _ _ _ _ _ h
  obtain ⟨F', M, args, w', fh, nt, wr, tb, p, cv, q⟩ := h
  rw [den_succ ht] at q
  unfold runB at q
  split at q
  · have hla : args.length = nd.ps.length := by rw [← p.length]; exact hlen
    refine ⟨⟨H, F', M⟩, _, w', F', _, M, sr_startC (N := N) fh nt wr tb p cv (by rw [hla, hcaps]; exact hN), ?_⟩
    have q : Pst (endR (bd (Den tbl n) (initE (args ++ caps.map .dat) N.length) w')) _ _ := q
    cases eo : bd (Den tbl n) (initE (args ++ caps.map .dat) N.length) w' with
    | stuck => rw [eo] at q; exact q.elim
    | exc x' e' w2 => rw [eo] at q; exact q.elim
    | ok fl w2 =>
      rw [eo] at q
      cases fl with
      | rt r =>
        intro v H' F2 M2 ra
        exact q v H' F2 M2 ra.fh ra.nt ra.wr ra.tb ra.st ra.at_
      | nx e =>
        intro σ' H' F2 O2 M2 s2 _
        exact q .non H' F2 M2 s2.fh s2.nt s2.wr s2.tb s2.st .non
      | bk e => exact q.elim
      | ct e => exact q.elim
  · exact q.elim
theorem clo_lam {e : Expr} {ed : Cs → Ex} (hnd : nd.body = .inr e) (S : NScope N nd.ps nd.fr nd.scope) (hb : ∀ (cl : List (Str × Addr)) (c' : Addr) (pm ctv : Value) (us : List Value), us.length = nd.ps.length → bindArgs (PySem.W.kla_fn nd.name nd.qual nd.params e nd.scope cl pm (.ref c') ctv) ⟨us, []⟩ = pure (nd.ps.zip us))
    (ht : tbl i = some ⟨nd.ps.length + nd.fr.length, N.length, fun C => sRet (ed C)⟩) (hcaps : caps.length = nd.fr.length)
    (hd : ∀ (f : Addr) (cl : List (Str × Addr)) (c' : Addr) (A : Around) (outer : List Env) (s : Shared) (H : Hp) (E : XK), RoomG n (A.deeper (envF (nd.nf [] cl c') f s.heap.objs.size)) → JE (ncx (L2N.CX P w) P w K mg base N (nd.nf [] cl c') f A outer s H E) T noW e (ed (Den tbl n))) :
    COk P w K mg base (n + 1) nd (spC ⟨K, mg, T⟩ ((Den tbl (n + 1)).call i) caps) := by
  have hN : nd.ps.length + nd.fr.length ≤ N.length := by
    have q := congrArg List.length S.pre
    rw [List.length_take, List.length_append] at q
    omega
  refine cok_lam hnd S hb (spC_len ht hcaps) fun f cl c' A outer s H vs ws Q E hr _ h => ⟨_, hd f cl c' A outer s H E hr, ?_⟩
  have hlen := spC_len ht hcaps _ _ _ _ _ h
  obtain ⟨F', M, args, w', fh, nt, wr, tb, p, cv, q⟩ := h
  rw [den_succ ht] at q
  unfold runB at q
  split at q
  · have hla : args.length = nd.ps.length := by rw [← p.length]; exact hlen
    have s0 := sr_startC (N := N) fh nt wr tb p cv (by rw [hla, hcaps]; exact hN)
    refine ⟨⟨H, F', M⟩, _, w', F', _, M, s0, ?_⟩
    have q : Pst (endR ((ed (Den tbl n) (initE (args ++ caps.map .dat) N.length) w').bind fun r w1 => .ok (.rt r.ret) w1)) _ _ := q
    cases eo : ed (Den tbl n) (initE (args ++ caps.map .dat) N.length) w' with
    | stuck => rw [eo] at q; exact q.elim
    | exc x' e' w2 => rw [eo] at q; exact q.elim
    | ok r w2 =>
      rw [eo] at q
      intro v H' F2 M2 s2 st ra
      have ra := ret_at s0 s2 ra
      exact q v H' F2 M2 ra.fh ra.nt ra.wr ra.tb ra.st ra.at_
  · exact q.elim
end
end Dl
namespace Dl
open PySem PySem.Spec PyProof.Rows L2 NdefX
open LamX (CodeO)
def WO.okN (n : Nat) : WO → Bool
  | .lst _ => true
  | .clo _ _ => false
  | .obj _ fs => fs.all fun f => f.2.low n
  | .dic kvs => kvs.all fun f => f.2.low n
  | .fls es => es.all fun f => f.low n
def allN (n : Nat) (w : World) : Bool := w.all (WO.okN n)
def allL (w : World) : Bool := allN w.length w
def cellsOf (cl : List (Str × Addr)) (fr : List Str) : List Addr := fr.filterMap fun y => cl.lookup y
def Clos (P : Program) (w : PySem.World) (K : PySem.W.Frag) (mg : Str → Option Value) (base : Heap) (T : Tbs) (C : Cs) (n : Nat) : Prop :=
  ∀ (i : Nat) (nd : ND) (caps : List D), T.nd i = some nd → caps.length = nd.fr.length → COk P w K mg base n nd (spC ⟨K, mg, T⟩ (C.call i) caps)
def actK (C : Cs) (j : Nat) (rs : List RV) (w1 : World) : Out RV := match w1[j]?, dats rs with
  | some (.clo i caps), some ds => if w1.length = j + 1 ∧ allL (w1.take j) = true then
      (match C.call i ((ds ++ caps).map .dat) (w1.take j) with
        | .ok (.dat d) w2 => if w2.length = j ∧ allL w2 = true then .ok (.dat d) (w2 ++ [.clo i caps]) else .stuck
        | _ => .stuck)
    else .stuck
  | _, _ => .stuck
def dAct (C : Cs) (k : Nat) (es : Exs) : Ex := fun env w => match env[k]? with
  | some (.wref j) => (match w[j]? with
    | some (.clo _ _) => (es env w).bind fun rs w1 => actK C j rs w1
    | _ => .stuck)
  | _ => .stuck
section
variable {X : Tx} {F H : Hp} {M : List Addr} {w : World}
theorem CapA.cell {K : PySem.W.Frag} {cl : List (Str × Addr)} {fr : List Str} {caps : List D} (h : CapA K F H cl fr caps) {b : Addr} (hb : b ∈ cellsOf cl fr) : ∃ o, H b = some (CellO b o) ∧ (∃ u, o.data = .cell (some u)) ∧ F b = none := by
  obtain ⟨y, hy, e⟩ := List.mem_filterMap.mp hb
  obtain ⟨j, hj, ej⟩ := List.mem_iff_getElem.mp hy
  have hjc : j < caps.length := by rw [h.len]; exact hj
  obtain ⟨c, o, u, v, q1, q0, q2, q3, q4, q5⟩ := h.at_ j y caps[j] (by rw [← ej]; simp [hj]) (by simp [hjc])
  rw [e] at q1
  cases q1
  exact ⟨o, q2, ⟨u, q3⟩, q0⟩
theorem low_at {K : PySem.W.Frag} {F F' : Hp} {N N' : List Addr} {n : Nat} {α : Type} (hF : Same F F') (hN : MIn n N N') : ∀ {gs : List (α × V)} {fs : List (α × FV)}, (fs.all fun f => f.2.low n) = true →
    Paired (fun g f => g.1 = f.1 ∧ f.2.isAt K F N g.2) gs fs → Paired (fun g f => g.1 = f.1 ∧ f.2.isAt K F' N' g.2) gs fs
  | _, _, _, .nil => .nil
  | _, _, h, .cons r t => by
    rw [List.all_cons, Bool.and_eq_true] at h
    exact .cons ⟨r.1, FV.keepN r.2 h.1 hF hN⟩ (low_at hF hN h.2 t)
theorem lowF_at {K : PySem.W.Frag} {F F' : Hp} {N N' : List Addr} {n : Nat} (hF : Same F F') (hN : MIn n N N') : ∀ {gs : List V} {fs : List FV}, (fs.all fun f => f.low n) = true →
    Paired (fun v f => f.isAt K F N v) gs fs → Paired (fun v f => f.isAt K F' N' v) gs fs
  | _, _, _, .nil => .nil
  | _, _, h, .cons r t => by
    rw [List.all_cons, Bool.and_eq_true] at h
    exact .cons (FV.keepN r h.1 hF hN) (lowF_at hF hN h.2 t)
theorem lists_keep {H' F' : Hp} {N N' : List Addr} {n : Nat} (hw : allN n w = true) (p : Paired (fun m o => F m = none ∧ WO.isAt X F H N m o) M w) (hF : Same F F') (hN : MIn n N N') (k : ∀ (m : Addr) (o : HO), (∀ φ, o ≠ .ext φ) → (∀ ps, o ≠ .tbl ps) → F m = none → H m = some o → F' m = none ∧ H' m = some o) :
    Paired (fun m o => F' m = none ∧ WO.isAt X F' H' N' m o) M w := by
  induction p with
  | nil => exact .nil
  | @cons m o M' w' h1 _ ih =>
    unfold allN at hw ih
    rw [List.all_cons, Bool.and_eq_true] at hw
    refine .cons ?_ (ih hw.2)
    have ho := hw.1
    cases o with
    | lst l =>
      obtain ⟨h0, ez, vs, e1, e2⟩ := h1
      obtain ⟨a, b⟩ := k m _ (fun φ z => by cases z) (fun ps z => by cases z) h0 e1
      exact ⟨a, ez, vs, b, Rp.monoAll hF _ _ e2⟩
    | clo i caps => cases ho
    | obj y fs =>
      obtain ⟨h0, ⟨C, dx, gs, c, e1, p1⟩⟩ := h1
      obtain ⟨a, b⟩ := k m _ (fun φ z => by cases z) (fun ps z => by cases z) h0 e1
      exact ⟨a, ⟨C, dx, gs, c, b, low_at hF hN ho p1⟩⟩
    | fls es =>
      obtain ⟨h0, ⟨ez, gs, e1, p1⟩⟩ := h1
      obtain ⟨a, b⟩ := k m _ (fun φ z => by cases z) (fun ps z => by cases z) h0 e1
      exact ⟨a, ⟨ez, gs, b, lowF_at hF hN ho p1⟩⟩
    | dic kvs =>
      obtain ⟨h0, ⟨gs, e1, p1⟩⟩ := h1
      obtain ⟨a, b⟩ := k m _ (fun φ z => by cases z) (fun ps z => by cases z) h0 e1
      exact ⟨a, ⟨gs, b, low_at hF hN ho p1⟩⟩
end
theorem pick_list {n : Nat} {R : Nat → V → Prop} (h : ∀ j, j < n → ∃ v, R j v) : ∃ ws : List (Option V), ws.length = n ∧ (∀ j, j < n → ∃ v, ws[j]? = some (some v)) ∧ ∀ (j : Nat) (v : V), ws[j]? = some (some v) → R j v := by
  have h2 : ∀ j, ∃ v, j < n → R j v := fun j => by
    by_cases hj : j < n
    · obtain ⟨v, hv⟩ := h j hj; exact ⟨v, fun _ => hv⟩
    · exact ⟨.non, fun z => absurd z hj⟩
  refine ⟨(List.range n).map fun j => some (Classical.choose (h2 j)), by simp, fun j hj => ⟨Classical.choose (h2 j), by rw [List.getElem?_map, List.getElem?_range hj]; rfl⟩, fun j v e => ?_⟩
  rw [List.getElem?_map] at e
  by_cases hj : j < n
  · rw [List.getElem?_range hj] at e
    simp only [Option.map_some, Option.some.injEq] at e
    rw [← e]
    exact Classical.choose_spec (h2 j) hj
  · rw [List.getElem?_eq_none (by simpa using hj)] at e
    cases e
section
variable {X : Cx} {T : Tbs} {Wi : WX} {pins : List (Addr × Obj)} {σ : St} {H : Hp} {s : Shared}
theorem clo_fnAt {m : Addr} {nd : ND} {cl : List (Str × Addr)} {c' : Addr} (hok : HOk X.prog X.w H s.heap) (e : H m = some (CloO m nd cl c')) : ∃ (o : Obj) (fd : FuncData), s.heap.get? m = some o ∧ o.data = .func fd ∧ PySem.W.FnAt m s.heap := by
  unfold CloO at e
  split at e
  · obtain ⟨od, sl, doc, pm, ctv, ho⟩ := fnO_at hok e
    exact ⟨_, _, ho, rfl, ⟨_, od, _, sl, ho⟩⟩
  · obtain ⟨⟨pm, ctv, ho⟩, _, _⟩ := hok m _ e
    exact ⟨_, _, ho, rfl, ⟨_, _, _, _, ho⟩⟩
theorem cell_ne {cs : List Addr} (hok : HOk X.prog X.w H s.heap) (hc : ∀ b ∈ cs, ∃ o, H b = some (CellO b o) ∧ (∃ u, o.data = .cell (some u))) {b : Addr} {o : HO} (e : H b = some o) (ho : (∀ φ, o ≠ .ext φ) ∨ (∃ q, o = CodeO b q) ∨ ∃ nd cl c', o = CloO b nd cl c') : b ∉ cs := fun hb => by
  obtain ⟨ob, e1, u, e2⟩ := hc b hb
  have e3 := (hok b _ e1).1
  rcases ho with z | ⟨q, z⟩ | ⟨nd, cl, c', z⟩
  · rw [e1] at e
    exact z _ (Option.some.inj e).symm
  · subst z
    obtain ⟨⟨oc, vs, t, h1, h2, h3⟩, _, _⟩ := hok b _ e
    have e3 : s.heap.get? b = some ob := e3
    rw [e3] at h1
    cases h1
    rw [e2] at h2
    cases h2
  · subst z
    obtain ⟨o2, fd, h1, h2, _⟩ := clo_fnAt hok e
    have e3 : s.heap.get? b = some ob := e3
    rw [e3] at h1
    cases h1
    rw [e2] at h2
    cases h2
theorem dat_args {X : Tx} {F : Hp} {M : List Addr} : ∀ {vs : List V} {ds : List D}, Paired (Rp X.K F) vs ds → Paired (argAt X F M) vs (ds.map .dat)
  | _, _, .nil => .nil
  | _, _, .cons r t => .cons r (dat_args t)
theorem je_act {C : Cs} {n k : Nat} {x : Str} {e : Expr} {es : List Expr} {ds : Exs} {p pos : Pos} (c : Clos X.prog X.w X.K X.mg X.base T C n) (hr : RoomG n X.A) (h : JA X T Wi (e :: es) ds) (hN : X.N[k]? = some x := by rfl) (hv : Vis X.env.scope x := by first | exact Or.inl rfl | exact Or.inr (Or.inl rfl) | exact Or.inr (Or.inr rfl))
    (hd : (x == ("__debug__" : Str)) = false := by decide) (hcd : (x == ("__classdict__" : Str)) = false := by decide)
    (he : starEach (e :: es) X.env = (false, eval e X.env) :: starEach es X.env := by rfl) (hpl : (backTo pos (starEach es X.env)).any (·.1) = false := by rfl) : JE X T Wi (.Call (.Name x p) (e :: es) [] pos) (dAct C k ds) := by
  refine ⟨fun pins s σ H Q I q => ?_⟩
  obtain ⟨B, env, w, F, O, M, sr, q⟩ := q
  unfold dAct at q
  split at q
  case h_2 => exact q.elim
  rename_i j ek
  split at q
  case h_2 => exact q.elim
  rename_i i0 caps0 ew
  obtain ⟨m, em, hs⟩ := sr.sl k _ ek
  obtain ⟨m', em', _, hclo⟩ := sr.wr.get ew
  rw [em] at em'; cases em'
  obtain ⟨nd0, cl0, c0, _, hm0, _, _⟩ := CloAt.ex hclo
  refine wpAny_Call_Name_kw (thn ((pe_var (pos := p) hN hv hd hcd).run pins s σ H (fun v H1 => v = .ref m ∧ H1 = H) I ⟨.ref m, hs, rfl, rfl⟩) fun u s1 ⟨v, H1, I1, r1, q1⟩ => ?_)
  obtain ⟨ev, eH⟩ := q1
  subst ev eH
  obtain rfl : u = Value.ref m := r1
  obtain ⟨_, _, _, _, fa1⟩ := clo_fnAt I1.hok hm0
  have rd : tA (Cx.tx X T) Wi ds σ H1 (fun vs H2 => ∃ rs w1 F1 M1, SR (Cx.tx X T) B env w1 σ H2 F1 O M1 ∧ Stp H1 F M H2 F1 M1 ∧ Paired (argAt (Cx.tx X T) F1 M1) vs rs ∧
      Pst (actK C j rs w1) (fun r w' => ∀ v H' F' M', SR (Cx.tx X T) B env w' σ H' F' O M' → Stp H1 F M H' F' M' → r.isAt (Cx.tx X T) H1 env O H' F' M' v → Q v H') (badX (Cx.tx X T) B Wi)) :=
    ⟨B, env, w, F, O, M, sr, q.bind.imp fun rs w1 q1 vs H2 F1 M1 s1 st1 pa => ⟨rs, w1, F1, M1, s1, st1, pa, q1⟩⟩
  refine PySem.W.callWith_F (first := []) fa1 (thn (h.run pos pins s1 σ H1 _ I1 rd) fun us s2 ⟨vs, H2, I2, r, rs, w1, F1, M1, sr1, st1, pa, q⟩ => ?_) he hpl
  unfold actK at q
  split at q
  case h_2 => exact q.elim
  rename_i i caps dsv ew1 eds
  split at q
  case isFalse => exact q.elim
  rename_i hlen
  obtain ⟨hl1, hl2⟩ := hlen
  have em1 : M1[j]? = some m := by obtain ⟨nw, en, _⟩ := st1.mw; exact mem_of_pfx en em
  obtain ⟨m1, em1', hFm, hclo1⟩ := sr1.wr.get ew1
  rw [em1] at em1'; cases em1'
  obtain ⟨nd, cl, c', hnd, hm, hc', cap⟩ := CloAt.ex hclo1
  obtain ⟨_, _, _, _, fa2⟩ := clo_fnAt I2.hok hm
  refine ⟨fa2, ?_⟩
  have hMl : M1.length = w1.length := by rw [sr1.wr.at_.length]
  have cellc := fun b (hb : b ∈ cellsOf cl nd.fr) => cap.cell hb
  generalize hcs : cellsOf cl nd.fr = cs at cellc
  have hcO : ∀ b ∈ cs, ∃ o, H2 b = some (CellO b o) ∧ (∃ u, o.data = .cell (some u)) := fun b hb => by obtain ⟨o, a, b, _⟩ := cellc b hb; exact ⟨o, a, b⟩
  have hcO' : ∀ b ∈ cs, ∃ o, H2 b = some (CellO b o) := fun b hb => by obtain ⟨o, a, _⟩ := hcO b hb; exact ⟨o, a⟩
  have hcE : ∀ b ∈ cs, ∃ φ, H2 b = some (.ext φ) := fun b hb => by obtain ⟨o, a⟩ := hcO' b hb; exact ⟨_, a⟩
  have hcF : ∀ b ∈ cs, F1 b = none := fun b hb => by obtain ⟨o, _, _, a⟩ := cellc b hb; exact a
  have off : ∀ {b : Addr} {o : HO}, H2 b = some o → (∀ φ, o ≠ .ext φ) → dropC cs H2 b = some o := fun {b o} e n => by rw [dropC_out (cell_ne I2.hok hcO e (.inl n))]; exact e
  -- what stands in the cells
  obtain ⟨ws, hwl, hwt, hws⟩ := pick_list (n := caps.length) (R := fun t v => ∀ y d, nd.fr[t]? = some y → caps[t]? = some d → ∃ c u, cl.lookup y = some c ∧ RelV v u ∧ s2.heap.IsCell c (some u) ∧ Rp X.K F1 v d) (fun t ht => by
    obtain ⟨y, ey⟩ : ∃ y, nd.fr[t]? = some y := ⟨nd.fr[t]'(by rw [← cap.len]; exact ht), by simp⟩
    obtain ⟨d, ed⟩ : ∃ d, caps[t]? = some d := ⟨caps[t], by simp⟩
    obtain ⟨c, o, u, v, q1, q0, q2, q3, q4, q5⟩ := cap.at_ t y d ey ed
    refine ⟨v, fun y' d' ey' ed' => ?_⟩
    rw [ey] at ey'; cases ey'
    rw [ed] at ed'; cases ed'
    exact ⟨c, u, q1, q4, ⟨o, (I2.hok c _ q2).1, q3⟩, q5⟩)
  have hcv : CapV X.K F1 ws caps := ⟨hwl, fun t d ed => by
    have ht : t < caps.length := (List.getElem?_eq_some_iff.mp ed).1
    obtain ⟨y, ey⟩ : ∃ y, nd.fr[t]? = some y := ⟨nd.fr[t]'(by rw [← cap.len]; exact ht), by simp⟩
    obtain ⟨v, ev⟩ := hwt t ht
    obtain ⟨_, _, _, _, _, rp⟩ := hws t v ev y d ey ed
    exact ⟨v, ev, rp⟩⟩
  have hCA : CellsAt cl nd.fr ws s2.heap (dropC cs H2) := by
    refine ⟨by rw [hwl]; exact cap.len, fun y c e => ?_, cap.inj, fun t y ey => ?_⟩
    · have hb : c ∈ cs := by rw [← hcs]; exact List.mem_filterMap.mpr ⟨y, cap.keys y c e, e⟩
      obtain ⟨o, e1, u, e2⟩ := hcO c hb
      exact ⟨dropC_in hb, some u, o, (I2.hok c _ e1).1, e2⟩
    · have ht : t < caps.length := by rw [cap.len]; exact (List.getElem?_eq_some_iff.mp ey).1
      obtain ⟨d, ed⟩ : ∃ d, caps[t]? = some d := ⟨caps[t], by simp⟩
      obtain ⟨v, ev⟩ := hwt t ht
      obtain ⟨c, u, q1, _, _, _⟩ := hws t v ev y d ey ed
      refine ⟨c, q1, fun v' ev' => ?_⟩
      obtain ⟨c2, u2, q1', q2, q3, _⟩ := hws t v' ev' y d ey ed
      rw [q1] at q1'; cases q1'
      exact ⟨u2, q2, q3⟩
  have hmo : dropC cs H2 m = some (CloO m nd cl c') := by rw [dropC_out (cell_ne I2.hok hcO hm (.inr (.inr ⟨_, _, _, rfl⟩)))]; exact hm
  have hco : dropC cs H2 c' = some (CodeO c' nd.qual) := by rw [dropC_out (cell_ne I2.hok hcO hc' (.inr (.inl ⟨_, rfl⟩)))]; exact hc'
  have fhD : Same F1 (dropC cs H2) := fun b o e => by rw [dropC_out (fun hb => by rw [hcF b hb] at e; cases e)]; exact sr1.fh b o e
  have wrD : WRel (Cx.tx X T) F1 (dropC cs H2) (M1.take j) (w1.take j) :=
    ⟨sr1.wr.nd.sublist (List.take_sublist _ _), lists_keep hl2 (Pr.take j sr1.wr.at_) (Same.refl _) (fun k m hk e => by rw [List.getElem?_take_of_lt (Nat.lt_of_lt_of_le hk (List.length_take_le _ _))]; exact e) fun m o n1 _ h0 h1 => ⟨h0, off h1 n1⟩⟩
  have tbD : TabsN T.tabs (dropC cs H2) := fun pT hpT => by
    obtain ⟨ps, a1, a2, a3⟩ := sr1.tb pT hpT
    refine ⟨ps, off a1 (fun φ z => by cases z), a2, fun pos cv hcv => ?_⟩
    obtain ⟨c, e1, e2⟩ := a3 pos cv hcv
    exact ⟨c, e1, by rw [dropC_out (cell_ne I2.hok hcO e2 (.inr (.inl ⟨_, rfl⟩)))]; exact e2⟩
  have paD : Paired (argAt (Cx.tx X T) F1 (M1.take j)) vs (dsv.map .dat) := dat_args (dats_at pa eds)
  split at q
  case h_2 => exact q.elim
  rename_i d w2 eo
  split at q
  case isFalse => exact q.elim
  rename_i hw2
  obtain ⟨hw2l, hw2a⟩ := hw2
  have hMj : M1 = M1.take j ++ [m] := by
    have e := List.take_append_drop j M1
    have e2 : M1.drop j = [m] := by
      apply List.ext_getElem?
      intro t
      rw [List.getElem?_drop]
      cases t with
      | zero => simpa using em1
      | succ t => simp; omega
    rw [e2] at e
    exact e.symm
  have hmj : m ∉ M1.take j := fun z => by
    have nd := sr1.wr.nd
    rw [hMj, List.nodup_append] at nd
    exact nd.2.2 m z m (List.mem_singleton.mpr rfl) rfl
  have hMjl : (M1.take j).length = j := by rw [List.length_take]; omega
  have hsp : spC ⟨X.K, X.mg, T⟩ (C.call i) caps ws vs (dropC cs H2) (fun v H' => ∃ F', Same F' H' ∧ NoTbl F' ∧ WRel (Cx.tx X T) F' H' (M1.take j) w2 ∧ TabsN T.tabs H' ∧ Stp (dropC cs H2) F1 (M1.take j) H' F' (M1.take j) ∧ Rp X.K F' v d) (fun _ _ _ => False) := by
    refine ⟨F1, M1.take j, dsv.map .dat, w1.take j, fhD, sr1.nt, wrD, tbD, paD, hcv, ?_⟩
    rw [← List.map_append, eo]
    intro v H' F' M' h1 h2 h3 h4 h5 h6
    have hM : M' = M1.take j := by
      obtain ⟨nw, en, _⟩ := h5.mw
      have hl := h3.at_.length
      rw [en, List.length_append, hMjl, hw2l] at hl
      have : nw = [] := List.length_eq_zero_iff.mp (by omega)
      rw [en, this, List.append_nil]
    subst hM
    exact ⟨F', h1, h2, h3, h4, h5, h6⟩
  show wpAny _ _ (call (.ref m) us) _ _ _
  refine wpAny_call (codeAny_mono ((c i nd caps hnd cap.len).run m cl c' X.A X.stack s2 (dropC cs H2) us vs ws _ _ hr (env0_drop I2.env0 hcE) hmo hco hCA r hsp) fun rr s' hq => ?_)
  cases rr with
  | error e =>
    obtain ⟨_, _, _, _, _, _, _, _, _, _, _, _, f⟩ := hq
    exact f.elim
  | ok fl =>
    cases fl with
    | next => exact False.elim hq
    | brk => exact False.elim hq
    | cont => exact False.elim hq
    | ret u =>
      refine I2.after (ce_put I2.hok I2.env0.frf hcO' (fun v H' hn hq' => ?_) hq)
      obtain ⟨F', h1, h2, h3, h4, h5, h6⟩ := hq'
      have hput : Same H' (putC cs H2 H') := fun b o e => by rw [putC_out (fun hb => by rw [hn b hb] at e; cases e)]; exact e
      have stP : Stp H2 F1 M1 (putC cs H2 H') F' M1 := by
        refine ⟨h5.fg, fun a o hM ht e => ?_, fun a e => ?_, fun a e e1 => ?_, [], by simp, by simp⟩
        · by_cases ha : a ∈ cs
          · rw [putC_in ha]; exact e
          · rw [putC_out ha]
            exact h5.fr a o (fun z => hM (List.mem_of_mem_take z)) ht (by rw [dropC_out ha]; exact e)
        · by_cases ha : a ∈ cs
          · rw [putC_in ha]; exact e
          · rw [putC_out ha]
            exact h5.th a (by rw [dropC_out ha]; exact e)
        · by_cases ha : a ∈ cs
          · exact h1.free (hn a ha)
          · exact h5.nf a (by rw [dropC_out ha]; exact e) e1
      have wrP : WRel (Cx.tx X T) F' (putC cs H2 H') M1 (w2 ++ [.clo i caps]) := by
        refine ⟨sr1.wr.nd, ?_⟩
        rw [hMj]
        refine Pr.append (lists_keep hw2a h3.at_ (Same.refl _) (fun k m _ e => mem_of_pfx rfl e) fun m o _ _ h0 h1 => ⟨h0, hput _ _ h1⟩) (.cons ⟨?_, ?_⟩ .nil)
        · exact stP.nf m (by rw [hm]; simp) hFm
        · exact CloAt.keep hclo1 (fun a φ e => stP.fr a _ (fun _ => ⟨φ, rfl⟩) (fun ps z => by cases z) e) stP.fg stP.nf
      have srP := sr1.step stP (h1.trans hput) h2 wrP (h4.ext hput)
      exact q v _ _ _ srP (st1.trans stP) h6
end
end Dl
namespace Dl
open PySem PySem.Spec PyProof.Rows L2 NdefX
open LamX (CodeO Tabs TabS TabB ExtN inv_table among_app codeO_ne)
section
variable {X : Cx} {pins : List (Addr × Obj)} {σ : St} {H : Hp} {s : Shared}
theorem inv_lam {nd : ND} {e : Expr} {cl : List (Str × Addr)} {pm ctv : Value} {c' : Addr} {t' : Nat} (I : Inv X pins σ H s) :
    Inv X pins σ (upd H s.heap.objs.size (LamO s.heap.objs.size nd e cl c')) { s with heap := s.heap.push (PySem.W.kla_obj nd.name nd.qual nd.params e nd.scope cl pm c' ctv), toks := t' } := by
  have at_ : (s.heap.push (PySem.W.kla_obj nd.name nd.qual nd.params e nd.scope cl pm c' ctv)).get? s.heap.objs.size = some (PySem.W.kla_obj nd.name nd.qual nd.params e nd.scope cl pm c' ctv) := Heap.get?_push_size _ rfl
  refine I.laid (a := s.heap.objs.size) (fun _ _ h => Heap.get?_push_of_some _ h) (Nat.le_refl _) ?_
  refine ⟨⟨pm, ctv, at_⟩, ⟨_, at_⟩, ?_⟩
  rintro h1 h2 ⟨p, t, z⟩ st
  exact ⟨p, t, st _ z⟩
theorem lam_mk {ts : List (Addr × Str)} {c P : Addr} {nd : ND} {e : Expr} {pos : Pos} {E Q : Value → Shared → Prop} (I : Inv X pins σ H s) (TB : TabB X.base X.mg c P) (hcode : X.env.code = .ref c) (hn : nd.name = "<lambda>") (hq : nd.qual = X.env.qual ++ "<lambda>")
    (hm : (P, nd.qual) ∈ ts) (hu : ∀ p ∈ ts, p.1 = P → p.2 = nd.qual) (hT : Tabs ts H) (hdef : defaultsOf nd.params X.env = ([], [])) (hfree : ∀ y ∈ nd.scope.names, y.2 = .free → ∃ c, X.env.cells.lookup y.1 = some c)
    (h : ∀ (f c' : Addr) (H1 : Hp) (s' : Shared), Inv X pins σ H1 s' → ExtN H H1 → (∀ b, H1 b = none → H b = none) → Tabs ts H1 → H f = none → H1 f = some (LamO f nd e (cloFrom X.env.cells nd.scope.names []) c') → H1 c' = some (CodeO c' nd.qual) → Q (.ref f) s') :
    wpAny (model X.prog X.w) X.A (eval (.Lambda nd.params e nd.scope pos) X.env) Q E s := by
  obtain ⟨ps, hP, ht, told⟩ := hT _ hm
  have oP : s.heap.get? P = some { cls := .none, data := .fields ps } := I.hok P _ hP
  refine PySem.W.kla_eval hdef ?_
  rw [← hn, show X.env.qual ++ nd.name = nd.qual by rw [hq, hn]]
  have fin : ∀ {H2 : Hp} {s2 : Shared} {c' : Addr} {pm ctv : Value} {t' : Nat}, Inv X pins σ H2 s2 → ExtN H H2 → (∀ b, H2 b = none → H b = none) → Tabs ts H2 → H2 c' = some (CodeO c' nd.qual) →
      Q (.ref s2.heap.objs.size) { s2 with heap := s2.heap.push (PySem.W.kla_obj nd.name nd.qual nd.params e nd.scope (cloFrom X.env.cells nd.scope.names []) pm c' ctv), toks := t' } := by
    intro H2 s2 c' pm ctv t' I2 x2 n2 T2 k2
    have n0 : H2 s2.heap.objs.size = none := I2.hok.fresh (Nat.le_refl _)
    have old : ∀ b o, H2 b = some o → upd H2 s2.heap.objs.size (LamO s2.heap.objs.size nd e (cloFrom X.env.cells nd.scope.names []) c') b = some o := fun b o e => by rw [upd_ne (ne_of_none e n0)]; exact e
    have nH : H s2.heap.objs.size = none := n2 _ n0
    exact h _ c' _ _ (inv_lam I2) (x2.trans (ExtN.of old)) (fun b z => n2 b (upd_none z)) (T2.ext old) nH upd_same (old _ _ k2)
  have hbm := TB.bm.keeps I.bk
  cases hc : codeAmong pos ps.toList with
  | some cv =>
    obtain ⟨c', rfl, kc⟩ := told pos cv hc
    refine PySem.W.kla_makeFunctionHit (mg := X.mg) (closure_ok hfree) I.ok.glob (I.mod.glob.keeps I.bk) hcode (TB.code.keeps I.bk) oP ht hc hbm fun ctv h' tk hx _ => ?_
    exact fin (s2 := { s with heap := h', toks := tk }) (I.kept hx) (ExtN.refl H) (fun _ z => z) hT kc
  | none =>
    refine PySem.W.kla_makeFunction (mg := X.mg) (closure_ok hfree) I.ok.glob (I.mod.glob.keeps I.bk) hcode (TB.code.keeps I.bk) oP ht hc TB.gP hbm fun c' ctv h' tk hx hge hlt hrec htb => ?_
    obtain ⟨c2, oc, vs, t, ec, hoc, hd, hv⟩ := hrec
    cases ec
    have I2 := inv_table (t' := tk) (h' := h') (q := nd.qual) (more := #[rawInt pos.line, rawInt pos.col, .ref c']) I hP hx htb hge ⟨oc, vs, t, hoc, hd, hv⟩
    have nc : H c' = none := I.hok.fresh hge
    have cP : c' ≠ P := fun z => by rw [z, hP] at nc; cases nc
    have keepN : ExtN H (upd (upd H P (.tbl (ps ++ #[rawInt pos.line, rawInt pos.col, .ref c']))) c' (CodeO c' nd.qual)) := fun b o hb nt => by
      have b1 : b ≠ c' := ne_of_none hb nc
      have b2 : b ≠ P := fun z => by
        rw [z, hP] at hb
        exact nt ps (Option.some.inj hb).symm
      rw [upd_ne b1, upd_ne b2]
      exact hb
    refine fin (s2 := { s with heap := h', toks := tk }) I2 keepN (fun b z => upd_none (upd_none z)) (fun p hp => ?_) upd_same
    obtain ⟨ps', a1, a2, a3⟩ := hT p hp
    have a1' : p.1 ≠ c' := ne_of_none a1 nc
    by_cases hb : p.1 = P
    · have e2 : ps' = ps := by
        rw [hb, hP] at a1
        cases a1
        rfl
      subst e2
      refine ⟨_, by rw [upd_ne a1', hb, upd_same], ?_, fun pos2 cv hcv => ?_⟩
      · rw [Array.toList_append]
        exact PySem.TriplesOk_snoc _ _ _ _ ht
      · rw [Array.toList_append] at hcv
        rcases among_app _ ht hcv with z | z
        · obtain ⟨c3, e3, e4⟩ := a3 pos2 cv z
          exact ⟨c3, e3, keepN _ _ e4 codeO_ne⟩
        · exact ⟨c', z, by rw [hu p hp hb]; exact upd_same⟩
    · refine ⟨ps', by rw [upd_ne a1', upd_ne hb]; exact a1, a2, fun pos2 cv hcv => ?_⟩
      obtain ⟨c3, e3, e4⟩ := a3 pos2 cv hcv
      exact ⟨c3, e3, keepN _ _ e4 codeO_ne⟩
theorem own_cell {y : Str} {b : Addr} (I : Inv X pins σ H s) (hf : X.fn y = true) (hc : X.env.cells.lookup y = some b) : H b = none ∧ X.base.get? b = none ∧ b ∉ frs X.stack ∧ ∃ o, s.heap.get? b = some o ∧ ∃ v, o.data = .cell v := by
  obtain ⟨v, o, ho, hd⟩ := I.cell y b hc
  have ab := I.ok.cab y b hf hc
  refine ⟨I.freeC y b hc, ?_, fun z => ?_, o, ho, v, hd⟩
  · cases e : X.base.get? b with
    | none => rfl
    | some ob => exact absurd (Heap.lt_size (I.ok.bs b ob e).1) (Nat.not_lt.mpr ab)
  · rcases List.mem_cons.mp (I.stkSub _ z) with e | e
    · obtain ⟨m, ⟨o2, es, ep, e2, d2, _⟩, _⟩ := I.loc
      rw [← e, ho] at e2
      cases e2
      rw [hd] at d2
      cases d2
    · obtain ⟨_, ob, e2, _⟩ := I.ok.funs.mem e
      exact absurd (Heap.lt_size e2) (Nat.not_lt.mpr ab)
def cloK (C : Cs) (g i : Nat) (caps : List D) (ds : List D) (w1 : World) : Out RV := if allL w1 = true then (match C.call g (ds.map .dat ++ [.wref w1.length]) (w1 ++ [.clo i caps]) with
    | .ok (.dat d) w2 => if w2.length = w1.length + 1 ∧ allL (w2.take w1.length) = true then .ok (.dat d) (w2.take w1.length) else .stuck
    | _ => .stuck)
  else .stuck
theorem codeO_cell {c : Addr} {q : Str} {o : Obj} {h : Heap} (ho : h.get? c = some o) (hd : ∃ v, o.data = .cell v) : CodeO c q ≠ CellO c o := fun e => by
  unfold CodeO CellO at e
  injection e with e
  have e2 := congrFun e h
  have z : ∃ (oc : Obj) (vs : Array Value) (t : Tok), h.get? c = some oc ∧ oc.data = .fields vs ∧ vs[1]? = some (.str q t) := by rw [e2]; exact ho
  obtain ⟨oc, vs, t, h1, h2, _⟩ := z
  rw [ho] at h1
  cases h1
  obtain ⟨v, hv⟩ := hd
  rw [hv] at h2
  cases h2
theorem run_clo {T : Tbs} {C : Cs} {n gi i : Nat} {g f c' : Addr} {fd : FuncData} {ps : List Str} {B : Base} {env : Ev} {w : World} {F : Hp} {O : Nat → Addr} {M : List Addr} {nd : ND} {cl : List (Str × Addr)} {js : List Nat} {caps ds : List D} {vs : List V} {us : List Value} {Q : VK} {bad : Exn → Ev → World → Prop}
    (I : Inv X pins σ H s) (sr : SR (Cx.tx X T) B env w σ H F O M) (fn : FnG X.prog X.w X.K X.mg X.base (L2N.CX X.prog X.w) n g fd ps (spD (Cx.tx X T) (C.call gi))) (hr : RoomG n X.A) (bd : Binds X.K fd ps []) (hf : H f = some (CloO f nd cl c')) (hc' : H c' = some (CodeO c' nd.qual)) (hfM : f ∉ M) (hfF : F f = none)
    (hnd : T.nd i = some nd) (cp : NdefX.Caps X cl nd.fr js) (hown : ∀ y ∈ nd.fr, X.fn y = true) (hkeys : ∀ y c, cl.lookup y = some c → y ∈ nd.fr) (hcaps : caps.length = nd.fr.length) (hcd : ∀ (t jj : Nat) (d : D), js[t]? = some jj → caps[t]? = some d → env[jj]? = some (.dat d))
    (r : Vals vs us) (pa : Paired (Rp X.K F) vs ds) (q : Pst (cloK C gi i caps ds w) (fun r w' => ∀ v H' F' M', SR (Cx.tx X T) B env w' σ H' F' O M' → Stp H F M H' F' M' → r.isAt (Cx.tx X T) H env O H' F' M' v → Q v H') bad) :
    wpAny (model X.prog X.w) X.A (call (.ref g) (us ++ [.ref f])) (EP X pins σ Q) X.xe s := by
  unfold cloK at q
  split at q
  case isFalse => exact q.elim
  rename_i hL
  split at q
  case h_2 => exact q.elim
  rename_i d w2 eo
  split at q
  case isFalse => exact q.elim
  rename_i hw2
  obtain ⟨hw2l, hw2a⟩ := hw2
  have CA := cells_of I cp
  have cellc : ∀ b ∈ cellsOf cl nd.fr, H b = none ∧ X.base.get? b = none ∧ b ∉ frs X.stack ∧ ∃ o, s.heap.get? b = some o ∧ ∃ v, o.data = .cell v := fun b hb => by
    obtain ⟨y, hy, e⟩ := List.mem_filterMap.mp hb
    exact own_cell I (hown y hy) (cp.sub y b e)
  have hmem : ∀ y c, cl.lookup y = some c → c ∈ cellsOf cl nd.fr := fun y c e => List.mem_filterMap.mpr ⟨y, hkeys y c e, e⟩
  generalize cellsOf cl nd.fr = cs at cellc hmem
  have hno : ∀ b ∈ cs, H b = none := fun b hb => (cellc b hb).1
  have old : Same H (addC cs s.heap H) := fun b o e => by rw [addC_out (fun hb => by rw [hno b hb] at e; cases e)]; exact e
  have hMl : M.length = w.length := by rw [sr.wr.at_.length]
  have hFc : ∀ b ∈ cs, F b = none := fun b hb => sr.fh.free (hno b hb)
  have at_cell : ∀ b ∈ cs, ∃ o, s.heap.get? b = some o ∧ (∃ v, o.data = .cell v) ∧ addC cs s.heap H b = some (CellO b o) := fun b hb => by
    obtain ⟨_, _, _, o, e, v, ev⟩ := cellc b hb
    exact ⟨o, e, ⟨v, ev⟩, by rw [addC_in hb, e]; rfl⟩
  have clo : CloAt (Cx.tx X T) F (addC cs s.heap H) f i caps := by
    refine ⟨nd, cl, c', hnd, old _ _ hf, old _ _ hc', hcaps, hkeys, CA.inj, fun t y d ey ed => ?_⟩
    obtain ⟨c, ec, hcv⟩ := CA.has t y ey
    have hj : (js.map fun j => X.N[j]?)[t]? = (nd.fr.map some)[t]? := by rw [cp.at_]
    rw [List.getElem?_map, List.getElem?_map, ey] at hj
    cases ej : js[t]? with
    | none => rw [ej] at hj; cases hj
    | some jj =>
      obtain ⟨v, ev, rv⟩ := sr.sl jj _ (hcd t jj d ej ed)
      have ew : (js.map (slotAt σ))[t]? = some (some v) := by rw [List.getElem?_map, ej, Option.map_some, slotAt_of ev]
      obtain ⟨u, ru, o, ho, hd⟩ := hcv v ew
      have hb := hmem y c ec
      exact ⟨c, o, u, v, ec, hFc c hb, by rw [addC_in hb, ho]; rfl, hd, ru, rv⟩
  have hMf : (M ++ [f])[w.length]? = some f := by rw [← hMl]; simp
  have hsp : spD (Cx.tx X T) (C.call gi) (vs ++ [.ref f]) (addC cs s.heap H) (fun v H' => (∀ b ∈ cs, H' b = addC cs s.heap H b) ∧ Q v (dropC cs H')) (fun _ _ _ => False) := by
    refine ⟨F, M ++ [f], ds.map .dat ++ [.wref w.length], w ++ [.clo i caps], sr.fh.trans old, sr.nt, ⟨?_, ?_⟩, sr.tb.ext old, Pr.append (dat_args pa) (.cons (show argAt (Cx.tx X T) F (M ++ [f]) (.ref f) (.wref w.length) from ⟨f, hMf, rfl⟩) .nil), ?_⟩
    · exact List.nodup_append.mpr ⟨sr.wr.nd, by simp, fun a ha b hb z => by
        rw [List.mem_singleton] at hb
        rw [z, hb] at ha
        exact hfM ha⟩
    · refine Pr.append (lists_keep hL sr.wr.at_ (Same.refl _) (fun k m _ e => mem_of_pfx rfl e) fun m o _ _ h0 h1 => ⟨h0, old _ _ h1⟩) (.cons ⟨hfF, clo⟩ .nil)
    · rw [eo]
      intro v H' F' M' h1 h2 h3 h4 h5 h6
      have hM : M' = M ++ [f] := by
        obtain ⟨nw, en, _⟩ := h5.mw
        have hl := h3.at_.length
        rw [en, List.length_append, List.length_append, hMl, hw2l] at hl
        have : nw = [] := List.length_eq_zero_iff.mp (by have e1 : [f].length = 1 := rfl; omega)
        rw [en, this, List.append_nil]
      subst hM
      have kc : ∀ b ∈ cs, H' b = addC cs s.heap H b := fun b hb => by
        obtain ⟨o, _, _, e⟩ := at_cell b hb
        rw [e]
        exact h5.fr b _ (fun _ => ⟨_, rfl⟩) (fun ps z => by cases z) e
      have F'c : ∀ b ∈ cs, F' b = none := fun b hb => by
        obtain ⟨o, _, _, e⟩ := at_cell b hb
        exact h5.nf b (by rw [e]; simp) (hFc b hb)
      have out : ∀ {b : Addr} {o : HO}, H' b = some o → ((∀ φ, o ≠ .ext φ) ∨ ∃ q, o = CodeO b q) → dropC cs H' b = some o := fun {b o} e ho => by
        rw [dropC_out (fun hb => by
          obtain ⟨ob, e1, e2, e3⟩ := at_cell b hb
          rw [kc b hb, e3] at e
          rcases ho with z | ⟨q, z⟩
          · exact z _ (Option.some.inj e).symm
          · subst z
            exact codeO_cell e1 e2 (Option.some.inj e).symm)]
        exact e
      have stD : Stp H F M (dropC cs H') F' M := by
        refine ⟨h5.fg, fun a o hM ht e => ?_, fun a e z => ?_, fun a e e1 => ?_, [], by simp, by simp⟩
        · have ha : a ∉ cs := fun hb => by rw [hno a hb] at e; cases e
          rw [dropC_out ha]
          refine h5.fr a o (fun hm => ?_) ht (old _ _ e)
          rcases List.mem_append.mp hm with z | z
          · exact hM z
          · rw [List.mem_singleton.mp z, hf] at e
            obtain ⟨φ, eφ⟩ := cloO_ext f nd cl c'
            exact ⟨φ, by rw [← Option.some.inj e, eφ]⟩
        · have ha : a ∉ cs := fun hb => e (hno a hb)
          rw [dropC_out ha] at z
          exact h5.th a (by rw [addC_out ha]; exact e) z
        · have ha : a ∉ cs := fun hb => e (hno a hb)
          exact h5.nf a (by rw [addC_out ha]; exact e) e1
      have fhD : Same F' (dropC cs H') := fun b o e => by rw [dropC_out (fun hb => by rw [F'c b hb] at e; cases e)]; exact h1 b o e
      have wrD : WRel (Cx.tx X T) F' (dropC cs H') M (w2.take w.length) := by
        refine ⟨sr.wr.nd, ?_⟩
        have e := Pr.take w.length h3.at_
        rw [show (M ++ [f]).take w.length = M by rw [← hMl]; simp] at e
        exact lists_keep hw2a e (Same.refl _) (fun k m hk q => by
          rw [List.getElem?_append_left (by rw [hMl]; exact Nat.lt_of_lt_of_le hk (List.length_take_le _ _))] at q
          exact q) fun m o n1 _ h0 h1 => ⟨h0, out h1 (.inl n1)⟩
      have tbD : TabsN T.tabs (dropC cs H') := fun pT hpT => by
        obtain ⟨ps, a1, a2, a3⟩ := h4 pT hpT
        refine ⟨ps, out a1 (.inl fun φ z => by cases z), a2, fun pos cv hcv => ?_⟩
        obtain ⟨c, e1, e2⟩ := a3 pos cv hcv
        exact ⟨c, e1, out e2 (.inr ⟨_, rfl⟩)⟩
      exact ⟨kc, q v _ _ _ (sr.step stD fhD h2 wrD tbD) stD h6⟩
  have hlen := fn.many _ _ _ _ hsp
  have rl : Vals (vs ++ [.ref f]) (us ++ [.ref f]) := r.append (.cons rfl .nil)
  have hb := bd s (us ++ [.ref f]) I.kIn (by rw [List.append_nil, ← rl.length]; exact hlen)
  rw [List.append_nil] at hb
  refine wpAny_call (codeAny_mono (fn.goes X.A X.stack s (addC cs s.heap H) ⟨us ++ [.ref f], []⟩ (us ++ [.ref f]) (vs ++ [.ref f]) _ _ hr (env0_add I.env0 fun b hb => ?_) hb rl hsp) fun rr s' hq => ?_)
  · obtain ⟨a1, a2, a3, o, e, _⟩ := cellc b hb
    exact ⟨a1, a2, a3, o, e⟩
  · cases rr with
    | error e =>
      obtain ⟨_, _, _, _, _, _, _, _, _, _, _, _, f⟩ := hq
      exact f.elim
    | ok fl =>
      cases fl with
      | next => exact False.elim hq
      | brk => exact False.elim hq
      | cont => exact False.elim hq
      | ret u => exact I.after (ce_drop (fun b hb => by obtain ⟨a1, _, _, o, e, _⟩ := cellc b hb; exact ⟨a1, o, e⟩) (fun v H' h => h) hq)
end
def capsOf (env : Ev) : List Nat → Option (List D)
  | [] => some []
  | j :: js => match env[j]?, capsOf env js with
    | some (.dat d), some ds => some (d :: ds)
    | _, _ => none
theorem capsOf_at {env : Ev} : ∀ {js : List Nat} {caps : List D}, capsOf env js = some caps → caps.length = js.length ∧ ∀ (t jj : Nat) (d : D), js[t]? = some jj → caps[t]? = some d → env[jj]? = some (.dat d)
  | [], caps, h => by
    cases h
    exact ⟨rfl, fun t jj d e _ => by simp at e⟩
  | j :: js, caps, h => by
    unfold capsOf at h
    split at h
    · rename_i d ds e1 e2
      cases h
      obtain ⟨l, q⟩ := capsOf_at e2
      refine ⟨by simp [l], fun t jj d' e3 e4 => ?_⟩
      cases t with
      | zero =>
        simp only [List.getElem?_cons_zero, Option.some.injEq] at e3 e4
        subst e3 e4
        exact e1
      | succ t =>
        simp only [List.getElem?_cons_succ] at e3 e4
        exact q t jj d' e3 e4
    · cases h
def dClo (C : Cs) (g i : Nat) (js : List Nat) (es : Exs) : Ex := fun env w => (es env w).bind fun rs w1 => match dats rs, capsOf env js with
  | some ds, some caps => cloK C g i caps ds w1
  | _, _ => .stuck
def tAL (X : Tx) (Wi : WX) (nd : ND) (cl : List (Str × Addr)) (Z : St → Hp → Hp → List Addr → Prop) (e : Exs) : TA := fun σ H Q => ∃ B env w F O M, SR X B env w σ H F O M ∧ Z σ H F M ∧
  Pst (e env w) (fun rs w' => ∀ vs f c' H' F' M', SR X B env w' σ H' F' O M' → Stp H F M H' F' M' → Paired (argAt X F' M') vs rs → H' f = some (CloO f nd cl c') → H' c' = some (CodeO c' nd.qual) → f ∉ M' → F' f = none → Q (vs ++ [.ref f]) H') (badX X B Wi)
def Lasts (Z : St → Hp → Hp → List Addr → Prop) : Prop := ∀ σ H F M H' F' M', Z σ H F M → Stp H F M H' F' M' → Z σ H' F' M'
abbrev JAL (X : Cx) (T : Tbs) (Wi : WX) (nd : ND) (cl : List (Str × Addr)) (Z : St → Hp → Hp → List Addr → Prop) (es : List Expr) (d : Exs) : Prop := PA X es (tAL (Cx.tx X T) Wi nd cl Z d)
section
variable {X : Cx} {T : Tbs} {Wi : WX} {nd : ND} {cl : List (Str × Addr)} {Z : St → Hp → Hp → List Addr → Prop} {e : Expr} {es : List Expr} {d : Ex} {ds : Exs}
theorem jal_cons (hZ : Lasts Z) (h : JE X T Wi e d) (hs : JAL X T Wi nd cl Z es ds) (hst : starEach (e :: es) X.env = (false, eval e X.env) :: starEach es X.env := by rfl) :
    JAL X T Wi nd cl Z (e :: es) (aCons d ds) := by
  refine (pa_cons h hs hst).impD fun σ H Q q => ?_
  obtain ⟨B, env, w, F, O, M, s, z, q⟩ := q
  refine ⟨B, env, w, F, O, M, s, q.bind.imp fun r w1 q1 x H1 F1 M1 s1 st1 r1 => ?_⟩
  split at q1
  · rename_i a ea
    obtain ⟨F2, s2, st2, a2⟩ := keep_arg s s1 st1 r1 ea
    refine ⟨B, env, w1, F2, O, M1, s2, hZ _ _ _ _ _ _ _ z st2, q1.bind.imp fun as w3 q3 vs f c' H3 F3 M3 s3 st3 p3 h1 h2 h3 h4 => ?_⟩
    exact q3 (x :: vs) f c' H3 F3 M3 s3 (st2.trans st3) (.cons (argAt_step a2 st3) p3) h1 h2 h3 h4
  · exact q1.elim
theorem jal_lam {ts : List (Addr × Str)} {c P : Addr} {b : Expr} {pos : Pos} (hts : T.tabs = ts.map fun p => (p.1, fun _ _ => p.2)) (TB : TabB X.base X.mg c P) (hcode : X.env.code = .ref c) (hnb : nd.body = .inr b) (hn : nd.name = "<lambda>") (hq : nd.qual = X.env.qual ++ "<lambda>")
    (hm : (P, nd.qual) ∈ ts) (hu : ∀ p ∈ ts, p.1 = P → p.2 = nd.qual) (hdef : defaultsOf nd.params X.env = ([], [])) (hfree : ∀ y ∈ nd.scope.names, y.2 = .free → X.env.scope.names.lookup y.1 = some .cell ∨ X.env.scope.names.lookup y.1 = some .free)
    (hst : starEach [.Lambda nd.params b nd.scope pos] X.env = [(false, eval (.Lambda nd.params b nd.scope pos) X.env)] := by rfl) :
    JAL X T Wi nd (cloFrom X.env.cells nd.scope.names []) (fun _ _ _ _ => True) [.Lambda nd.params b nd.scope pos] aNil := by
  have toS : ∀ {H : Hp}, TabsN T.tabs H → Tabs ts H := fun {H} h p hp => h (p.1, fun _ _ => p.2) (by rw [hts]; exact List.mem_map.mpr ⟨p, hp, rfl⟩)
  have ofS : ∀ {H : Hp}, Tabs ts H → TabsN T.tabs H := fun {H} h pT hp => by
    rw [hts] at hp
    obtain ⟨p, hp2, rfl⟩ := List.mem_map.mp hp
    exact h p hp2
  have pe : PE X (.Lambda nd.params b nd.scope pos) (fun σ H Q => Tabs ts H ∧ ∀ (f c' : Addr) (H1 : Hp), ExtN H H1 → (∀ b, H1 b = none → H b = none) → Tabs ts H1 → H f = none → H1 f = some (LamO f nd b (cloFrom X.env.cells nd.scope.names []) c') → H1 c' = some (CodeO c' nd.qual) → Q (.ref f) H1) :=
    ⟨fun pins s σ H Q I h => lam_mk I TB hcode hn hq hm hu h.1 hdef (fun y hy e => (hfree y hy e).elim (fun z => I.ok.has _ (.inl z)) fun z => I.ok.has _ (.inr z)) fun f c' H1 s' I1 x1 n1 t1 f0 f1 k1 => ⟨.ref f, H1, I1, rfl, h.2 f c' H1 x1 n1 t1 f0 f1 k1⟩⟩
  refine (pa_cons pe pa_nil hst).impD fun σ H Q q => ?_
  obtain ⟨B, env, w, F, O, M, s, _, q⟩ := q
  refine ⟨toS s.tb, fun f c' H1 x1 n1 t1 f0 f1 k1 => ?_⟩
  have ke : KeepE H H1 := fun a φ e => x1 a _ e fun ps z => by cases z
  have st : Stp H F M H1 F M := ⟨Same.refl _, fun a o _ ht e => x1 a o e ht, fun a e z => e (n1 a z), fun _ _ z => z, [], by simp, by simp⟩
  have fh : Same F H1 := fun b o e => x1 b o (s.fh b o e) fun ps z => by subst z; exact s.nt b ps e
  have wr : WRel (Cx.tx X T) F H1 M w := ⟨s.wr.nd, Paired.mapP s.wr.at_ fun m o h => ⟨h.1, by
    obtain ⟨h0, h1⟩ := h
    cases o with
    | lst l =>
      obtain ⟨z, vs, e1, e2⟩ := h1
      exact ⟨z, vs, x1 m _ e1 (fun ps z => by cases z), e2⟩
    | clo i caps => exact CloAt.keep h1 ke (Same.refl _) fun _ _ z => z
    | obj y gs => exact ObjAt.keep h1 (Same.refl _) fun _ _ _ e => x1 m _ e (fun ps z => by cases z)
    | fls es => exact FlsAt.keep h1 (Same.refl _) fun _ e => x1 m _ e (fun ps z => by cases z)
    | dic kvs => exact DicAt.keep h1 (Same.refl _) fun _ e => x1 m _ e (fun ps z => by cases z)⟩⟩
  have s1 := s.step st fh s.nt wr (ofS t1)
  have hM : f ∉ M := fun z => s.wr.there z f0
  exact q [] f c' H1 F M s1 st .nil (by rw [f1]; unfold CloO; rw [hnb]) k1 hM (s.fh.free f0)
theorem vals_snoc : ∀ {vs : List V} {x : V} {us : List Value}, Vals (vs ++ [x]) us → ∃ us0 u, us = us0 ++ [u] ∧ Vals vs us0 ∧ L2.RelV x u
  | [], x, us, h => by
    cases h with
    | cons r t => cases t; exact ⟨[], _, rfl, .nil, r⟩
  | v :: vs, x, us, h => by
    cases h with
    | cons r t =>
      obtain ⟨us0, u, e, h1, h2⟩ := vals_snoc t
      subst e
      exact ⟨_ :: us0, u, rfl, .cons r h1, h2⟩
def tCloZ (X : Tx) (Wi : WX) (Z : St → Hp → Hp → List Addr → Prop) (e : Ex) : TE := fun σ H Q => ∃ B env w F O M, SR X B env w σ H F O M ∧ Z σ H F M ∧
  Pst (e env w) (fun r w' => ∀ v H' F' M', SR X B env w' σ H' F' O M' → Stp H F M H' F' M' → r.isAt X H env O H' F' M' v → Q v H') (badX X B Wi)
theorem pe_clo {C : Cs} {n gi i : Nat} {x : Str} {js : List Nat} {p pos : Pos} (c : Cal X T n C x gi) (hr : RoomG n X.A) (hg : Gl X x) (h : JAL X T Wi nd cl Z (e :: es) ds) (hnd : T.nd i = some nd) (hcl : cl = cloFrom X.env.cells nd.scope.names [])
    (hfree : ∀ y ∈ nd.scope.names, y.2 = .free → X.env.scope.names.lookup y.1 = some .cell ∨ X.env.scope.names.lookup y.1 = some .free) (hfr : ∀ y ∈ nd.fr, (y, NameKind.free) ∈ nd.scope.names) (hfr2 : ∀ y, (y, NameKind.free) ∈ nd.scope.names → y ∈ nd.fr) (hjs : js.map (fun j => X.N[j]?) = nd.fr.map some) (hown : ∀ y ∈ nd.fr, X.fn y = true)
    (hdb : (x == ("__debug__" : Str)) = false := by decide) (he : starEach (e :: es) X.env = (false, eval e X.env) :: starEach es X.env := by rfl) (hpl : (backTo pos (starEach es X.env)).any (·.1) = false := by rfl) :
    PE X (.Call (.Name x p) (e :: es) [] pos) (tCloZ (Cx.tx X T) Wi Z (dClo C gi i js ds)) := by
  subst hcl
  obtain ⟨g, fd, ps, hm, hk, hb, fn⟩ := c.ex
  refine ⟨fun pins s σ H Q I q => ?_⟩
  obtain ⟨B, env, w, F, O, M, sr, hZ, q⟩ := q
  have hfreeC : ∀ y ∈ nd.scope.names, y.2 = .free → ∃ c, X.env.cells.lookup y.1 = some c := fun y hy e => (hfree y hy e).elim (fun z => I.ok.has _ (.inl z)) fun z => I.ok.has _ (.inr z)
  have hkeys : ∀ y c, (cloFrom X.env.cells nd.scope.names []).lookup y = some c → y ∈ nd.fr := fun y c e => by
    rcases cloFrom_mem (PySem.mem_of_lookup e) with hm | ⟨h1, _⟩
    · cases hm
    · exact hfr2 y h1
  have cp : NdefX.Caps X (cloFrom X.env.cells nd.scope.names []) nd.fr js := NdefX.Caps.made I.ok hfree hfr hjs
  have rd : tAL (Cx.tx X T) Wi nd (cloFrom X.env.cells nd.scope.names []) Z ds σ H (fun vs' H1 => ∃ vs f c' rs w1 F1 M1, vs' = vs ++ [.ref f] ∧ SR (Cx.tx X T) B env w1 σ H1 F1 O M1 ∧ Stp H F M H1 F1 M1 ∧ Paired (argAt (Cx.tx X T) F1 M1) vs rs ∧ H1 f = some (CloO f nd (cloFrom X.env.cells nd.scope.names []) c') ∧ H1 c' = some (CodeO c' nd.qual) ∧ f ∉ M1 ∧ F1 f = none ∧
      Pst (match dats rs, capsOf env js with
        | some ds, some caps => cloK C gi i caps ds w1
        | _, _ => .stuck) (fun r w' => ∀ v H' F' M', SR (Cx.tx X T) B env w' σ H' F' O M' → Stp H F M H' F' M' → r.isAt (Cx.tx X T) H env O H' F' M' v → Q v H') (badX (Cx.tx X T) B Wi)) :=
    ⟨B, env, w, F, O, M, sr, hZ, q.bind.imp fun rs w1 q1 vs f c' H1 F1 M1 s1 st1 pa h1 h2 h3 h4 => ⟨vs, f, c', rs, w1, F1, M1, rfl, s1, st1, pa, h1, h2, h3, h4, q1⟩⟩
  refine wpAny_Call_Name_kw (ld_glob I hg hm ?_ hdb)
  refine PySem.W.callWith_K (h₀ := X.base) I.ok.mod.kin hk (thn (h.run pos pins s σ H _ I rd) fun us s1 ⟨vs', H1, I1, r, q⟩ => ⟨I1.kIn, ?_⟩) he hpl
  obtain ⟨vs, f, c', rs, w1, F1, M1, evs, sr1, st1, pa, h1, h2, h3, h4, q⟩ := q
  subst evs
  obtain ⟨us0, u, eus, r0, ru⟩ := vals_snoc r
  subst eus
  obtain rfl : u = Value.ref f := ru
  split at q
  case h_2 => exact q.elim
  rename_i dsv caps e1 e2
  obtain ⟨cl1, cl2⟩ := capsOf_at e2
  have hjl : js.length = nd.fr.length := by
    have := congrArg List.length hjs
    simpa using this
  show wpAny _ _ (call (.ref g) (us0 ++ [.ref f])) _ _ _
  refine run_clo I1 sr1 fn hr hb h1 h2 h3 h4 hnd cp hown hkeys (by rw [cl1, hjl]) cl2 r0 (dats_at pa e1) (q.mono (fun r w' hq v H' F' M' s2 st2 ra => hq v H' F' M' s2 (st1.trans st2) (RV.since ra st1.th)) fun x env' w' z => z)
theorem je_clo {C : Cs} {n gi i : Nat} {x : Str} {js : List Nat} {p pos : Pos} (c : Cal X T n C x gi) (hr : RoomG n X.A) (hg : Gl X x) (h : JAL X T Wi nd cl (fun _ _ _ _ => True) (e :: es) ds) (hnd : T.nd i = some nd) (hcl : cl = cloFrom X.env.cells nd.scope.names [])
    (hfree : ∀ y ∈ nd.scope.names, y.2 = .free → X.env.scope.names.lookup y.1 = some .cell ∨ X.env.scope.names.lookup y.1 = some .free) (hfr : ∀ y ∈ nd.fr, (y, NameKind.free) ∈ nd.scope.names) (hfr2 : ∀ y, (y, NameKind.free) ∈ nd.scope.names → y ∈ nd.fr) (hjs : js.map (fun j => X.N[j]?) = nd.fr.map some) (hown : ∀ y ∈ nd.fr, X.fn y = true)
    (hdb : (x == ("__debug__" : Str)) = false := by decide) (he : starEach (e :: es) X.env = (false, eval e X.env) :: starEach es X.env := by rfl) (hpl : (backTo pos (starEach es X.env)).any (·.1) = false := by rfl) :
    JE X T Wi (.Call (.Name x p) (e :: es) [] pos) (dClo C gi i js ds) :=
  (pe_clo c hr hg h hnd hcl hfree hfr hfr2 hjs hown hdb he hpl).impD fun σ H Q ⟨B, env, w, F, O, M, s, q⟩ => ⟨B, env, w, F, O, M, s, trivial, q⟩
def ZAt (i : Nat) (nd : ND) (cl : List (Str × Addr)) : St → Hp → Hp → List Addr → Prop := fun σ H F M => ∃ f c', σ[i]? = some (some (.ref f)) ∧ H f = some (CloO f nd cl c') ∧ H c' = some (CodeO c' nd.qual) ∧ f ∉ M ∧ F f = none
theorem zat_lasts {i : Nat} : Lasts (ZAt i nd cl) := fun σ H F M H' F' M' ⟨f, c', h1, h2, h3, h4, h5⟩ st => by
  obtain ⟨φ, eφ⟩ := cloO_ext f nd cl c'
  have n2 : H f ≠ none := by rw [h2]; simp
  exact ⟨f, c', h1, st.fr f _ (fun _ => ⟨φ, eφ⟩) (fun ps z => by rw [eφ] at z; cases z) h2, st.fr c' _ (fun _ => ⟨_, rfl⟩) (fun ps z => by cases z) h3, notM' st h4 n2, st.nf f n2 h5⟩
theorem jal_name {i : Nat} {y : Str} {pos : Pos} (h : PE X (.Name y pos) (tVar i)) (hst : starEach [.Name y pos] X.env = [(false, eval (.Name y pos) X.env)] := by rfl) : JAL X T Wi nd cl (ZAt i nd cl) [.Name y pos] aNil := by
  refine (pa_cons h pa_nil hst).impD fun σ H Q q => ?_
  obtain ⟨B, env, w, F, O, M, s, ⟨f, c', h1, h2, h3, h4, h5⟩, q⟩ := q
  exact ⟨.ref f, h1, q [] f c' H F M s .refl .nil h2 h3 h4 h5⟩
theorem SR.setAny {X : Tx} {B : Base} {env : Ev} {w : World} {σ : St} {H F : Hp} {O : Nat → Addr} {M : List Addr} {i : Nat} {x : Option V} (s : SR X B env w σ H F O M) : SR X B (env.set i .un) w (σ.set i x) H F O M := by
  have u := s.setUn (i := i)
  have back : ∀ {j : Nat} {l : List D}, (env.set i .un)[j]? = some (.own l) → i ≠ j := fun {j l} e z => by
    subst z
    have hlt : i < env.length := by simpa using (List.getElem?_eq_some_iff.mp e).1
    rw [List.getElem?_set_self hlt] at e
    cases e
  refine ⟨by simpa using s.len, s.fh, s.nt, s.st, s.wr, s.tb, fun j sl e => ?_, u.inj⟩
  by_cases hj : i = j
  · subst hj
    have hlt : i < env.length := by simpa using (List.getElem?_eq_some_iff.mp e).1
    rw [List.getElem?_set_self hlt] at e
    cases e
    trivial
  · have q := u.sl j sl e
    rw [List.getElem?_set_ne hj] at q ⊢
    exact q
def sDefRet (i : Nat) (e : Ex) : Sd := fun env w => if i < env.length then (e (env.set i .un) w).bind fun r w1 => .ok (.rt r.ret) w1 else .stuck
theorem js_defret {st : Stmt} {nm : Nat → Nat → Str} {c P : Addr} {name : Str} {pos rpos : Pos} {i : Nat} {ce : Expr} {de : Ex} (hst : st = .FunctionDef name (C8.fnArgs st) (C8.fnBody st) [] none [] (C8.fnScope st) none name pos) (TB : TabB X.base X.mg c P) (hcode : X.env.code = .ref c) (hm : (P, nm) ∈ T.tabs) (hn : nm pos.line pos.col = X.env.qual ++ name)
    (hu : ∀ p ∈ T.tabs, p.1 = P → p.2 = nm) (hfree : ∀ y ∈ (C8.fnScope st).names, y.2 = .free → X.env.scope.names.lookup y.1 = some .cell ∨ X.env.scope.names.lookup y.1 = some .free) (hd0 : (C8.fnArgs st).defaults = []) (hk0 : (C8.fnArgs st).kw_defaults = []) (ha : annTrees (C8.fnArgs st) none X.env = [])
    (hN : X.N.Nodup) (hi : X.N[i]? = some name) (hx : Loc X.env.scope name) (hf : X.fn name = true ∨ X.env.scope.names.lookup name = some .local)
    (hnd : nd = ⟨name, X.env.qual ++ name, C8.fnArgs st, .inl (C8.fnBody st), C8.fnScope st, nd.ps, nd.fr⟩) (hcl : cl = cloFrom X.env.cells nd.scope.names []) (hce : PE X ce (tCloZ (Cx.tx X T) Wi (ZAt i nd cl) de)) :
    JSs X T Wi [st, .Return (some ce) rpos] (sDefRet i de) := by
  refine (pss_cons (ps_ndefMS hst TB hcode hm hn hu hfree hd0 hk0 ha hN hi hx hf) (pss_one (ps_ret hce))).impD fun D σ H q => ?_
  obtain ⟨B, env, w, F, O, M, s, q⟩ := q
  unfold sDefRet at q
  split at q
  case isFalse => exact q.elim
  rename_i hie
  refine ⟨s.tb, fun f c' H1 x1 n1 t1 f0 f1 k1 => ?_⟩
  have ke : KeepE H H1 := fun a φ e => x1 a _ e fun ps z => by cases z
  have st : Stp H F M H1 F M := ⟨Same.refl _, fun a o _ ht e => x1 a o e ht, fun a e z => e (n1 a z), fun _ _ z => z, [], by simp, by simp⟩
  have fh : Same F H1 := fun b o e => x1 b o (s.fh b o e) fun ps z => by subst z; exact s.nt b ps e
  have wr : WRel (Cx.tx X T) F H1 M w := ⟨s.wr.nd, Paired.mapP s.wr.at_ fun m o h => ⟨h.1, by
    obtain ⟨h0, h1⟩ := h
    cases o with
    | lst l =>
      obtain ⟨z, vs, e1, e2⟩ := h1
      exact ⟨z, vs, x1 m _ e1 (fun ps z => by cases z), e2⟩
    | clo i caps => exact CloAt.keep h1 ke (Same.refl _) fun _ _ z => z
    | obj y gs => exact ObjAt.keep h1 (Same.refl _) fun _ _ _ e => x1 m _ e (fun ps z => by cases z)
    | fls es => exact FlsAt.keep h1 (Same.refl _) fun _ e => x1 m _ e (fun ps z => by cases z)
    | dic kvs => exact DicAt.keep h1 (Same.refl _) fun _ e => x1 m _ e (fun ps z => by cases z)⟩⟩
  have s1 := (s.step st fh s.nt wr t1).setAny (i := i) (x := some (.ref f))
  have hM : f ∉ M := fun z => s.wr.there z f0
  have hi2 : i < σ.length := by rw [s.len]; exact hie
  refine ⟨B, _, w, F, O, M, s1, ⟨f, c', by rw [List.getElem?_set_self hi2], ?_, ?_, hM, s.fh.free f0⟩, q.bind.imp fun r w1 q1 v H2 F2 M2 s2 st2 r2 => q1 v H2 F2 M2 (ret_at s1 s2 r2)⟩
  · rw [f1, hcl]
    unfold CloO
    rw [hnd]
    rfl
  · rw [k1, hnd]
    rfl
end
end Dl
namespace Dl
open PySem PySem.Spec PyProof.Rows L2 NdefX
section
variable {X : Cx} {T : Tbs} {Wi : WX} {pos : Pos} {e : Expr} {d : Ex}
def sExtend (i : Nat) (e : Ex) : Sd := fun env w => match env[i]? with
  | some (.own l) => (e env w).bind fun r w1 => (match r with
    | .fresh zs => if l.length + zs.length ≤ 16777216 then .ok (.nx (env.set i (.own (l ++ zs)))) w1 else .stuck
    | _ => .stuck)
  | _ => .stuck
theorem js_extend {i : Nat} {x : Str} {p1 p2 p3 : Pos} (h0 : PE X (.Name x p1) (tVar i)) (h : JE X T Wi e d)
    (hs : swapsWith (.Call (.Attribute (.Name x p1) "extend" p2) [e] [] p3) none pos.line X.env = pure false := by rfl)
    (hbase : attributeBase (.Name x p1) "extend" X.env (eval (.Name x p1) X.env) = eval (.Name x p1) X.env := by rfl)
    (hfew : ((backTo p3 (starEach (e :: []) X.env)).all (fun x => !x.1) && (backToKw p3 (keywordEach [] X.env)).all (fun x => x.1.isSome)
      && decide ((e :: []).length + ([] : List Keyword).length + (if ([] : List Keyword).isEmpty then 0 else 1) < 30)) = true := by rfl)
    (hline : (p2.endLine == p3.line) = true := by rfl) (hst : starEach (e :: []) X.env = (false, eval e X.env) :: starEach [] X.env := by rfl) (hplain : (backTo p3 (starEach [] X.env)).any (·.1) = false := by rfl) :
    JS X T Wi (.Expr (.Call (.Attribute (.Name x p1) "extend" p2) [e] [] p3) pos) (sExtend i d) := by
  refine (ps_expr (pe_bm PySem.F.plainAttrs_list PySem.F.slot_list_extend PySem.F.type_list_extend mt_extend h0 (pa_cons h pa_nil hst) hbase hfew hline hst hplain) hs).impD fun D σ H q => ?_
  obtain ⟨B, env, w, F, O, M, s, q⟩ := q
  unfold sExtend at q
  split at q
  · rename_i l el
    obtain ⟨e1, e2, e3, e4, ez, vs, e5, e6⟩ := s.sl i _ el
    refine ⟨.ref (O i), e1, .inl ⟨rfl, vs, SqL.of e5⟩, B, env, w, F, O, M, s, q.bind.imp fun r w1 q1 v H1 F1 M1 s1 st1 r1 => ?_⟩
    split at q1
    · rename_i zs
      split at q1
      · rename_i hz
        obtain ⟨f0, p, us, rfl, f1, f2, f3, f4, f5, f6⟩ := fresh_out (r := RV.dat .non) s r1
        obtain ⟨g1, g2, g3, g4, gz, ws, g5, g6⟩ := s1.sl i _ el
        have hwl : ws.length = l.length := g6.length
        have hul : us.length = zs.length := f5.length
        refine ⟨O i, p, ws, us, rfl, rfl, g5, f4, by rw [hwl, hul, sizeLine_eq]; exact hz, ?_⟩
        exact q1 σ _ F1 O M1 (s1.updOwn el (by rw [List.length_append, sizeLine_eq]; exact hz) (Pr.append g6 f5)) st1.fg
      · exact q1.elim
    · exact q1.elim
  · exact q.elim
def chs (z : Str) : List D := z.cps.toList.map fun c => .str ⟨#[c]⟩
def iTxt (e : Ex) : Src := fun env w => (e env w).bind fun r w1 => match r with
  | .dat (.str z) => .ok (chs z) w1
  | _ => .stuck
theorem walk_txt {K : PySem.W.Frag} {F : Hp} {z : Str} (h : SOk z) : Walk K (chs z) F (Its z) := by
  have hl : (chs z).length = z.cps.size := by simp [chs]
  refine ⟨by rw [hl]; exact h.2, fun i H F1 e1 e2 hi => by show i < z.cps.size; rw [← hl]; exact hi, fun i H F1 e1 e2 hi => by show z.cps.size ≤ i; rw [← hl]; exact hi, fun i H F1 x H' d e1 e2 nt y hd => ?_⟩
  obtain ⟨rfl, c, ec, rfl⟩ := y
  have hd : ((z.cps.toList.map fun c => D.str ⟨#[c]⟩) : List D)[i]? = some d := hd
  rw [List.getElem?_map, Array.getElem?_toList, ec] at hd
  simp only [Option.map_some, Option.some.injEq] at hd
  subst hd
  have hm : c ∈ z.cps.toList := List.mem_of_getElem? (by rw [Array.getElem?_toList]; exact ec)
  exact ⟨F1, Xt.refl e2 nt, .str _ (sOk_mem h hm)⟩
theorem ji_txt {tg : Expr} (h : JE X T Wi e d) : JI X T Wi tg e (iTxt d) := by
  refine (pi_str h).impD fun σ H Q q => ?_
  obtain ⟨B, env, w, F, O, M, s, q⟩ := q
  refine ⟨B, env, w, F, O, M, s, q.bind.imp fun r w1 q1 v H1 F1 M1 s1 st1 r1 => ?_⟩
  split at q1
  · rename_i z
    cases r1 with
    | str _ ok => exact ⟨z, rfl, q1 _ H1 F1 M1 s1 st1 (walk_txt ok)⟩
  · exact q1.elim
end
theorem def_okM {P : Program} {w : PySem.World} {K : PySem.W.Frag} {mg : Str → Option Value} {base : Heap} {T : Tbs} {x qual : Str} {params : Arguments} {body : List Stmt} {scope : Scope} {f Pt : Addr} {fd : FuncData} {N ps : List Str} {tbl : Nat → Option DefB} {n i : Nat} {bd : Cs → Sd}
    (F : FunD K x qual params body scope [] [] f fd) (hm : ∃ c, fd.code = .ref c ∧ LamX.TabB base mg c Pt) (S : FnScope N ps scope) (ht : tbl i = some ⟨ps.length, N.length, bd⟩)
    (hb : ∀ (c : Addr) (A : Around) (outer : List Env) (s : Shared) (H : Hp) (E : XK), LamX.TabB base mg c Pt → RoomG n (A.deeper (envOfC qual scope s.heap.objs.size f (.ref c))) →
      JSs (cxOf (L2N.CX P w) P w K mg base N qual scope f (.ref c) A outer s H E) T (fun cls d _ H => E cls d H) body (bd (Den tbl n))) :
    FnG P w K mg base (L2N.CX P w) (n + 1) f fd ps (spD ⟨K, mg, T⟩ ((Den tbl (n + 1)).call i)) := by
  have hNl : ps.length ≤ N.length := by
    have := congrArg List.length S.pre
    rw [List.length_take] at this
    omega
  have hlen : ∀ vs H Q E, spD ⟨K, mg, T⟩ ((Den tbl (n + 1)).call i) vs H Q E → vs.length = ps.length := by
    intro vs H Q E h
    obtain ⟨F', M, args, w', fh, nt, wr, tb, p, q⟩ := h
    rw [den_succ ht] at q
    unfold runB at q
    split at q
    · rename_i hl; rw [p.length]; exact hl
    · exact q.elim
  obtain ⟨oc, od, dV, kV, doc, pm, an, cdv, ct, osl, rfl, lk, hcd, _, _⟩ := F.ex
  obtain ⟨c, ec, TB⟩ := hm
  have ec : cdv = .ref c := ec
  subst ec
  refine fn_ofG lk hcd S hlen fun A outer s H vs Q E hr h => ⟨_, hb c A outer s H E TB hr, ?_⟩
  obtain ⟨F', M, args, w', fh, nt, wr, tb, p, q⟩ := h
  rw [den_succ ht] at q
  unfold runB at q
  split at q
  · rename_i hl
    have hl : args.length = ps.length := hl
    refine ⟨⟨H, F', M⟩, _, w', F', _, M, sr_start fh nt wr tb p (by omega), ?_⟩
    have q : Pst (endR (bd (Den tbl n) (initE args N.length) w')) _ _ := q
    cases eo : bd (Den tbl n) (initE args N.length) w' with
    | stuck => rw [eo] at q; exact q.elim
    | exc x' e' w2 =>
      rw [eo] at q
      intro cls d σ' H' F2 O2 M2 s2 hx
      exact q cls d H' F2 M2 s2.fh s2.nt s2.wr s2.tb s2.st hx
    | ok fl w2 =>
      rw [eo] at q
      cases fl with
      | rt r =>
        intro v H' F2 M2 ra
        exact q v H' F2 M2 ra.fh ra.nt ra.wr ra.tb ra.st ra.at_
      | nx e =>
        intro σ' H' F2 O2 M2 s2 _
        exact q .non H' F2 M2 s2.fh s2.nt s2.wr s2.tb s2.st .non
      | bk e => exact q.elim
      | ct e => exact q.elim
  · exact q.elim
end Dl
namespace Dl
open PySem PySem.Spec PyProof.Rows L2 NdefX
def leS (a b : Str) : Bool := !ltCps b.cps.toList a.cps.toList
def sortS (l : List Str) : List Str := l.mergeSort leS
theorem leS_iff {a b : Str} : leS a b = true ↔ ¬ (b.cps.toList < a.cps.toList) := by
  unfold leS
  rw [ltCps_eq]
  simp
theorem leS_trans (a b c : Str) (h1 : leS a b = true) (h2 : leS b c = true) : leS a c = true := by
  rw [leS_iff] at *
  have h1 : a.cps.toList ≤ b.cps.toList := List.not_lt.mp h1
  have h2 : b.cps.toList ≤ c.cps.toList := List.not_lt.mp h2
  exact List.not_lt.mpr (List.le_trans h1 h2)
theorem leS_total (a b : Str) : (leS a b || leS b a) = true := by
  rw [Bool.or_eq_true, leS_iff, leS_iff]
  rcases List.le_total a.cps.toList b.cps.toList with h | h
  · exact .inl (List.not_lt.mpr h)
  · exact .inr (List.not_lt.mpr h)
theorem leS_anti (a b : Str) (h1 : leS a b = true) (h2 : leS b a = true) : a = b := by
  rw [leS_iff] at *
  have e := List.le_antisymm (List.not_lt.mp h1) (List.not_lt.mp h2)
  obtain ⟨⟨x⟩⟩ := a
  obtain ⟨⟨y⟩⟩ := b
  simp only at e
  rw [e]
theorem rising_pw : ∀ (r : List Str) (p : Str), risingS p r = true → (p :: r).Pairwise (fun a b => leS a b = true)
  | [], p, _ => by simp
  | x :: r, p, h => by
    have h : (!ltCps x.cps.toList p.cps.toList && risingS x r) = true := h
    rw [Bool.and_eq_true] at h
    have ih := rising_pw r x h.2
    have px : leS p x = true := h.1
    refine List.pairwise_cons.mpr ⟨fun y hy => ?_, ih⟩
    rcases List.mem_cons.mp hy with rfl | hy
    · exact px
    · exact leS_trans _ _ _ px ((List.pairwise_cons.mp ih).1 y hy)
theorem sortedS_pw {l : List Str} (h : sortedS l = true) : l.Pairwise (fun a b => leS a b = true) := by
  cases l with
  | nil => exact .nil
  | cons x r => exact rising_pw r x h
theorem sortS_of {ys xs : List Str} (p : ys.Perm xs) (h : sortedS ys = true) : ys = sortS xs := by
  refine List.Perm.eq_of_pairwise (le := fun a b => leS a b = true) (fun a b _ _ => leS_anti a b) (sortedS_pw h) ?_ (p.trans (List.mergeSort_perm xs leS).symm)
  exact List.pairwise_mergeSort leS_trans leS_total xs
def strsOf : List D → Option (List Str)
  | [] => some []
  | .str s :: l => (strsOf l).map (s :: ·)
  | _ :: _ => none
theorem strs_at {K : PySem.W.Frag} {F : Hp} : ∀ {vs : List V} {l : List D} {ss : List Str}, Paired (Rp K F) vs l → strsOf l = some ss → vs = ss.map V.str ∧ (∀ s ∈ ss, SOk s) ∧ l = ss.map D.str
  | _, _, _, .nil, e => by cases e; exact ⟨rfl, by simp, rfl⟩
  | v :: vs, d :: l, ss, .cons h t, e => by
    cases d <;> first | (simp only [strsOf] at e; cases e; done) | skip
    rename_i z
    simp only [strsOf] at e
    cases q : strsOf l with
    | none => rw [q] at e; cases e
    | some zs =>
      rw [q] at e
      simp only [Option.map_some, Option.some.injEq] at e; subst e
      obtain ⟨h1, h2, h3⟩ := strs_at t q
      cases h with
      | str _ ok =>
        rw [h1, h3]
        refine ⟨rfl, fun s hs => ?_, rfl⟩
        rcases List.mem_cons.mp hs with rfl | hs
        · exact ok
        · exact h2 s hs
theorem strs_rp {K : PySem.W.Frag} {F : Hp} : ∀ {ss : List Str}, (∀ s ∈ ss, SOk s) → Paired (Rp K F) (ss.map V.str) (ss.map D.str)
  | [], _ => .nil
  | s :: ss, h => .cons (.str s (h s (.head _))) (strs_rp fun z hz => h z (.tail _ hz))
def cSortS : List D → Option RV
  | [.lst l] => (match strsOf l with
    | some ss => if ss.length < 64 then some (.fresh ((sortS ss).map .str)) else none
    | none => none)
  | _ => none
section
variable {X : Cx}
theorem cs_sortS : CaS X (.builtin "sorted") cSortS := by
  refine ⟨_, cr_sortedS, fun xs ds rv H F fh nt p h Q q => ?_⟩
  cases p with
  | nil => cases h
  | @cons x d _ _ r t =>
    cases t with
    | cons _ _ => cases d <;> cases h
    | nil =>
      cases d <;> first | (cases h; done) | skip
      rename_i l
      simp only [cSortS] at h
      obtain ⟨hz, a, vs, rfl, hs, pp⟩ := r
      cases e : strsOf l with
      | none => rw [e] at h; cases h
      | some ss =>
        rw [e] at h
        simp only at h
        split at h
        · rename_i h64
          cases h
          obtain ⟨rfl, ok, _⟩ := strs_at pp e
          refine ⟨a, ss, rfl, hs, h64, fun ys p perm so hp => ?_⟩
          have ey := sortS_of perm so
          subst ey
          have pm : (sortS ss).Perm ss := perm
          refine new_lst fh nt q hp ?_ (strs_rp fun s hs => ok s (pm.mem_iff.mp hs))
          rw [List.length_map, pm.length_eq, sizeLine_eq]
          omega
        · cases h
end
end Dl
namespace Dl
open PySem PySem.Spec PyProof.Rows L2 NdefX
def keysAdd (es : List Str) (k : Str) : List Str := if k ∈ es then es else es ++ [k]
def entsOf (ks : List Str) : List (Key × V) := ks.map fun k => (Sum.inr k, V.bl true)
theorem put_ents {ks : List Str} {k : Str} : putK (entsOf ks) (Sum.inr k) (V.bl true) = entsOf (keysAdd ks k) := by
  unfold putK keysAdd
  have e : ((entsOf ks).any fun kv => decide (kv.1 = Sum.inr k)) = decide (k ∈ ks) := by
    unfold entsOf
    rw [List.any_map]
    induction ks with
    | nil => simp
    | cons z zs ih =>
      rw [List.any_cons, ih]
      simp [eq_comm]
  rw [e]
  by_cases h : k ∈ ks
  · rw [if_pos h, if_pos (by simpa using h)]
    unfold entsOf
    rw [List.map_map]
    refine List.map_congr_left fun z hz => ?_
    show (if (Sum.inr z : Key) = Sum.inr k then ((Sum.inr z : Key), V.bl true) else (Sum.inr z, V.bl true)) = _
    split <;> rfl
  · rw [if_neg h, if_neg (by simpa using h)]
    unfold entsOf
    rw [List.map_append]
    rfl
theorem keysAdd_len {ks : List Str} {k : Str} : (keysAdd ks k).length ≤ ks.length + 1 := by
  unfold keysAdd
  split
  · omega
  · simp
theorem tab_updK {T : List NTab} {H : Hp} {D : Addr} {vs ws : List (Key × V)} (t : TabsN T H) (e : H D = some (.dK vs)) : TabsN T (upd H D (.dK ws)) := fun p hp => by
  obtain ⟨ps, h1, h2, h3⟩ := t p hp
  have n1 : p.1 ≠ D := ne_of h1 e (by simp)
  refine ⟨ps, by rw [upd_ne n1]; exact h1, h2, fun pos cv hc => ?_⟩
  obtain ⟨c, e1, e2⟩ := h3 pos cv hc
  have n2 : c ≠ D := ne_of e2 e (by unfold LamX.CodeO; simp)
  exact ⟨c, e1, by rw [upd_ne n2]; exact e2⟩
theorem keepE_updK {H : Hp} {p : Addr} {vs ws : List (Key × V)} (e : H p = some (.dK vs)) : KeepE H (upd H p (.dK ws)) := fun a φ q => by
  rw [upd_ne (fun z => by rw [z, e] at q; cases q)]
  exact q
theorem SR.updFreeK {X : Tx} {B : Base} {env : Ev} {w : World} {σ : St} {H F : Hp} {O : Nat → Addr} {M : List Addr} {D : Addr} {vs ws : List (Key × V)} (s : SR X B env w σ H F O M) (e : H D = some (.dK vs)) (hB : B.H D = none) (hF : F D = none) (hM : D ∉ M)
    (hO : ∀ i l, env[i]? = some (.own l) → O i ≠ D) : SR X B env w σ (upd H D (.dK ws)) F O M := by
  have ne : ∀ {a : Addr} {o : HO}, H a = some o → a ≠ D → upd H D (.dK ws) a = some o := fun h n => by rw [upd_ne n]; exact h
  refine ⟨s.len, fun b o q => ?_, s.nt, ⟨s.st.fg, fun a o hM' ht q => ?_, fun a h => ?_, s.st.nf, s.st.mw⟩, ⟨s.wr.nd, ?_⟩, tab_updK s.tb e, fun i sl e' => ?_, s.inj⟩
  · exact ne (s.fh _ _ q) (fun z => by subst z; rw [hF] at q; cases q)
  · exact ne (s.st.fr a o hM' ht q) (fun z => by subst z; rw [hB] at q; cases q)
  · by_cases z : a = D
    · subst z; rw [upd_same]; simp
    · rw [upd_ne z]; exact s.st.th a h
  · have go : ∀ {N M : List Addr} {w : World}, D ∉ M → Paired (fun m o => F m = none ∧ WO.isAt X F H N m o) M w → Paired (fun m o => F m = none ∧ WO.isAt X F (upd H D (.dK ws)) N m o) M w := by
      intro N M w hM h
      induction h with
      | nil => exact .nil
      | @cons m o _ _ h1 _ ih =>
        have nm : m ≠ D := fun z => hM (by rw [← z]; exact List.mem_cons_self)
        refine .cons ⟨h1.1, ?_⟩ (ih fun z => hM (List.mem_cons_of_mem _ z))
        cases o with
        | lst l => obtain ⟨_, ez, us, e1, e2⟩ := h1; exact ⟨ez, us, ne e1 nm, e2⟩
        | clo i caps => exact CloAt.keep h1.2 (keepE_updK e) (Same.refl _) (fun _ _ e => e)
        | obj y gs => exact ObjAt.keep h1.2 (Same.refl _) fun _ _ _ q => ne q nm
        | fls es => exact FlsAt.keep h1.2 (Same.refl _) fun _ q => ne q nm
        | dic kvs => exact DicAt.keep h1.2 (Same.refl _) fun _ q => ne q nm
    exact go hM s.wr.at_
  · have h := s.sl i sl e'
    cases sl with
    | un => trivial
    | dat d => exact h
    | own l =>
      obtain ⟨e1, e2, e3, e4, ez, us, e5, e6⟩ := h
      exact ⟨e1, e2, e3, e4, ez, us, ne e5 (hO i l e'), e6⟩
    | wref k => exact h
    | exn x => obtain ⟨a, cls, d, e1, e2, e3⟩ := h; exact ⟨a, cls, d, e1, e2, Exn.keep e3 (Same.refl _) (keepX_upd fun fs z => by rw [e] at z; cases z)⟩
section
variable {X : Cx} {T : Tbs} {Wi : WX} {pos : Pos}
def dKeys (src : Src) (vs : List Nat) (g : Tgt) (tt : Tst) (kx : Ex) : Ex := fun env w => (src env w).bind fun l w1 => (compGo g tt kx (wipeE env vs) l w1).bind fun xs w2 => match strsOf xs with
  | some ks => .ok (.fresh ((ks.foldl keysAdd []).map .str)) w2
  | none => .stuck
theorem dk_read {src : Src} {g : Tgt} {tt : Tst} {elt : Ex} {vs us : List Nat} (hvs : ∀ i ∈ us, i ∈ vs) {σ : St} {H : Hp} {Q : VK} (q : tD (Cx.tx X T) Wi (dKeys src vs g tt elt) σ H Q) :
    tDc (tIt (Cx.tx X T) Wi src) (tG (Cx.tx X T) g us) (tT (Cx.tx X T) noW tt) (tD (Cx.tx X T) noW elt) (tC (.bl true)) vs σ H (fun x H1 => rListD [x] H1 Q) := by
  obtain ⟨B, env, w, F, O, M, s, q⟩ := q
  refine ⟨B, env, w, F, O, M, s, q.bind.imp fun l w1 q1 J H1 F1 M1 s1 st1 wk D hD => ?_⟩
  have q1 := q1.bind
  have hB : B.H D = none := by
    cases z : B.H D with
    | none => rfl
    | some o => exact absurd hD (s1.st.th D (by rw [z]; simp))
  have hH : H D = none := by
    cases z : H D with
    | none => rfl
    | some o => exact absurd hD (st1.th D (by rw [z]; simp))
  have hO : ∀ i k, env[i]? = some (.own k) → O i ≠ D := fun i k e z => by
    obtain ⟨_, _, _, _, _, ws, q', _⟩ := s.sl i _ e
    rw [z, hH] at q'; cases q'
  refine ⟨fun i m H' => m = l.length - i ∧ i ≤ l.length ∧ ∃ w' F' M' ks, ks.length ≤ i ∧ SR (Cx.tx X T) B env w' σ H' F' O M' ∧ Stp H F M H' F' M' ∧ Same F1 F' ∧ H' D = some (.dK (entsOf ks)) ∧ F' D = none ∧ D ∉ M' ∧ (∀ k ∈ ks, SOk k) ∧
      Pst (compGo g tt elt (wipeE env vs) (l.drop i) w') (fun rest w2 => ∃ zs, strsOf rest = some zs ∧ ∀ v H2 F2 M2, SR (Cx.tx X T) B env w2 σ H2 F2 O M2 → Stp H F M H2 F2 M2 → RV.isAt (Cx.tx X T) H env O H2 F2 M2 v (.fresh ((zs.foldl keysAdd ks).map .str)) → Q v H2) (fun _ _ _ => False), ⟨l.length, by simp, Nat.zero_le _, w1, F1, M1, [], Nat.le_refl _, ?_⟩, ?_⟩
  · have xt : Xt H1 F1 (upd H1 D (.dK [])) F1 := ⟨same_upd hD, Same.refl _, s1.fh.trans (same_upd hD), fun _ _ e => e, s1.nt⟩
    refine ⟨s1.xt xt, st1.trans xt.stp, Same.refl _, upd_same, s1.fh.free hD, fun z => s1.wr.there z hD, (by simp), ?_⟩
    rw [List.drop_zero]
    cases eg : compGo g tt elt (wipeE env vs) l w1 with
    | stuck => rw [eg] at q1; exact q1.elim
    | ok rest w2 =>
      rw [eg] at q1
      have q1 : Pst (match strsOf rest with
        | some ks => Out.ok (RV.fresh ((ks.foldl keysAdd []).map .str)) w2
        | none => .stuck) _ _ := q1
      cases ez : strsOf rest with
      | none => rw [ez] at q1; exact q1.elim
      | some zs => rw [ez] at q1; exact ⟨zs, ez, fun v H2 F2 M2 s2 st2 r2 => q1 v H2 F2 M2 s2 st2 r2⟩
    | exc x e' w2 =>
      exfalso
      have nx : ∀ (l : List Dl.D) (w : World) (x : Exn) (e : Ev) (w2 : World), compGo g tt elt (wipeE env vs) l w ≠ .exc x e w2 := by
        intro l
        induction l with
        | nil => intro w x e w2 z; cases z
        | cons d ds ih =>
          intro w x e w2 z
          unfold compGo at z
          split at z
          · cases z
          · rename_i env1 _
            cases h1 : tt env1 w with
            | stuck => rw [h1] at z; cases z
            | exc _ _ _ => rw [h1] at z; cases z
            | ok b w3 =>
              rw [h1] at z
              simp only [noX_ok, bind_ok] at z
              split at z
              · cases h2 : elt env1 w3 with
                | stuck => rw [h2] at z; cases z
                | exc _ _ _ => rw [h2] at z; cases z
                | ok r w4 =>
                  rw [h2] at z
                  simp only [noX_ok, bind_ok] at z
                  split at z
                  · cases h3 : compGo g tt elt (wipeE env vs) ds w4 with
                    | stuck => rw [h3] at z; cases z
                    | exc a b c => exact ih _ _ _ _ h3
                    | ok a b => rw [h3] at z; cases z
                  · cases z
              · exact ih _ _ _ _ z
      exact nx l w1 x e' w2 eg
  · rintro i m H' ⟨rfl, hi, w', F', M', ks, hes, sr, st, sf, hDl, hFD, hMD, pd, qq⟩
    by_cases hlt : i < l.length
    · refine .inr ⟨wk.go i H' F' sf sr.fh hlt, fun H'' => i + 1 ≤ l.length ∧ ∃ w' F' M' ks, ks.length ≤ i + 1 ∧ SR (Cx.tx X T) B env w' σ H'' F' O M' ∧ Stp H F M H'' F' M' ∧ Same F1 F' ∧ H'' D = some (.dK (entsOf ks)) ∧ F' D = none ∧ D ∉ M' ∧ (∀ k ∈ ks, SOk k) ∧
          Pst (compGo g tt elt (wipeE env vs) (l.drop (i + 1)) w') (fun rest w2 => ∃ zs, strsOf rest = some zs ∧ ∀ v H2 F2 M2, SR (Cx.tx X T) B env w2 σ H2 F2 O M2 → Stp H F M H2 F2 M2 → RV.isAt (Cx.tx X T) H env O H2 F2 M2 v (.fresh ((zs.foldl keysAdd ks).map .str)) → Q v H2) (fun _ _ _ => False), fun H'' ⟨z1, z2⟩ => ⟨l.length - (i + 1), by omega, rfl, z1, z2⟩, fun x H2 hy => ?_⟩
      obtain ⟨F2, xt2, rx⟩ := wk.yld i H' F' x H2 l[i] sf sr.fh sr.nt hy (List.getElem?_eq_getElem hlt)
      have sr2 := sr.xt xt2
      rw [List.drop_eq_getElem_cons hlt] at qq
      unfold compGo at qq
      split at qq
      · exact qq.elim
      · rename_i env1 eg
        refine ⟨B, wipeE env vs, w', F2, O, M', l[i], env1, sr2.wipe vs, rx, eg, fun σ2 s2 hw => ⟨?_, ?_⟩⟩
        · rw [hw vs hvs]
          have idem : ∀ us : List Nat, (∀ i ∈ us, i ∈ vs) → wipe (wipe σ vs) us = wipe σ vs := by
            intro us
            induction us with
            | nil => intro _; rfl
            | cons u us ih =>
              intro hu
              show (wipe (wipe σ vs) us).set u none = wipe σ vs
              rw [ih fun i hi => hu i (List.mem_cons_of_mem _ hi)]
              have hu' := hu u List.mem_cons_self
              have : ∀ {ws : List Nat}, u ∈ ws → (wipe σ ws).set u none = wipe σ ws := by
                intro ws
                induction ws with
                | nil => intro h; cases h
                | cons a ws ih2 =>
                  intro h
                  show ((wipe σ ws).set a none).set u none = (wipe σ ws).set a none
                  by_cases ha : a = u
                  · subst ha; rw [List.set_set]
                  · rcases List.mem_cons.mp h with z | z
                    · exact absurd z.symm ha
                    · rw [List.set_comm _ _ ha, ih2 z]
              exact this hu'
          exact idem vs fun _ h => h
        · have qt := qq.bind.noX (b' := badX (Cx.tx X T) B noW)
          refine ⟨B, env1, w', F2, O, M', s2, qt.imp fun b w3 q3 H3 F3 M3 s3 st3 => ?_⟩
          have sr3 := sr2.step st3 s3.fh s3.nt s3.wr s3.tb
          have hDl3 : H3 D = some (.dK (entsOf ks)) := st3.fr D _ (fun z => absurd z hMD) (fun _ z => by cases z) (xt2.hh _ _ hDl)
          have hMD3 : D ∉ M3 := notM' st3 hMD (by rw [xt2.hh _ _ hDl]; simp)
          have hFD2 : F2 D = none := xt2.nf D (by rw [hDl]; simp) hFD
          have hFD3 : F3 D = none := st3.nf D (by rw [xt2.hh _ _ hDl]; simp) hFD2
          have st03 := (st.trans xt2.stp).trans st3
          cases b with
          | false =>
            simp only [Bool.false_eq_true, if_false] at q3 ⊢
            exact ⟨hlt, w3, F3, M3, ks, by omega, sr3, st03, (sf.trans xt2.ff).trans st3.fg, hDl3, hFD3, hMD3, pd, q3⟩
          | true =>
            simp only [if_true] at q3 ⊢
            have qe := q3.bind.noX (b' := badX (Cx.tx X T) B noW)
            refine ⟨B, env1, w3, F3, O, M3, s3, qe.imp fun r w4 q4 y H4 F4 M4 s4 st4 r4 => ?_⟩
            split at q4
            · rename_i d ed
              obtain ⟨F5, s5, st5, a5⟩ := keep_arg s3 s4 st4 r4 (st_arg ed)
              have hDl4 : H4 D = some (.dK (entsOf ks)) := st5.fr D _ (fun z => absurd z hMD3) (fun _ z => by cases z) hDl3
              have hMD4 : D ∉ M4 := notM' st5 hMD3 (by rw [hDl3]; simp)
              have hFD5 : F5 D = none := st5.nf D (by rw [hDl3]; simp) hFD3
              have sr5 := sr3.step st5 s5.fh s5.nt s5.wr s5.tb
              have st05 := st03.trans st5
              cases eg2 : compGo g tt elt (wipeE env vs) (l.drop (i + 1)) w4 with
              | stuck => rw [eg2] at q4; exact q4.elim
              | exc a b c => rw [eg2] at q4; exact q4.elim
              | ok rest w5 =>
                rw [eg2] at q4
                obtain ⟨zs, ez, qv⟩ := q4
                cases d <;> first | (simp only [strsOf] at ez; cases ez; done) | skip
                rename_i k
                simp only [strsOf] at ez
                cases ez2 : strsOf rest with
                | none => rw [ez2] at ez; cases ez
                | some zs2 =>
                  rw [ez2] at ez
                  cases ez
                  have hyk : y = V.str k ∧ SOk k := by
                    cases a5 with
                    | str _ ok => exact ⟨rfl, ok⟩
                  have sr6 := sr5.updFreeK (ws := entsOf (keysAdd ks k)) hDl4 hB hFD5 hMD4 hO
                  have hbd := wk.bd
                  have hel : (entsOf ks).length ≤ i := by unfold entsOf; rw [List.length_map]; exact hes
                  refine ⟨entsOf ks, Sum.inr k, hyk.1, hDl4, by omega, ?_⟩
                  rw [put_ents]
                  refine ⟨hlt, w4, F5, M4, keysAdd ks k, Nat.le_trans keysAdd_len (by omega), sr6, ?_, ((sf.trans xt2.ff).trans st3.fg).trans st5.fg, upd_same, hFD5, hMD4, fun z hz => ?_, ?_⟩
                  · exact ⟨st05.fg, fun a o hM' ht q' => by
                      have := st05.fr a o hM' ht q'
                      have na : a ≠ D := fun z => by subst z; rw [hH] at q'; cases q'
                      rw [upd_ne na]; exact this, fun a h => by
                      by_cases z : a = D
                      · subst z; rw [upd_same]; simp
                      · rw [upd_ne z]; exact st05.th a h, st05.nf, st05.mw⟩
                  · unfold keysAdd at hz
                    split at hz
                    · exact pd z hz
                    · rcases List.mem_append.mp hz with h1 | h1
                      · exact pd z h1
                      · rw [List.mem_singleton.mp h1]; exact hyk.2
                  · rw [eg2]
                    exact ⟨zs2, ez2, qv⟩
            · exact q4.elim
    · have hil : i = l.length := by omega
      subst hil
      refine .inl ⟨wk.stop _ H' F' sf sr.fh (Nat.le_refl _), ?_⟩
      rw [List.drop_length] at qq
      obtain ⟨zs, ez, qq'⟩ := qq
      cases ez
      refine ⟨D, entsOf ks, rfl, hDl, fun p hp => ?_⟩
      have ek : (entsOf ks).map (fun kv => kV kv.1) = ks.map V.str := by unfold entsOf; rw [List.map_map]; rfl
      rw [ek]
      have xt := Xt.newL (vs := ks.map V.str) sr.fh sr.nt hp
      have hHp : H p = none := by
        cases z : H p with
        | none => rfl
        | some o => exact absurd hp (st.th p (by rw [z]; simp))
      have bd := wk.bd
      exact qq' _ _ F' M' (sr.xt xt) (st.trans xt.stp) ⟨by simpa using Nat.le_trans hes bd, p, ks.map V.str, rfl, hHp, sr.fh.free hp, fun z => sr.wr.there z hp, upd_same, strs_rp pd⟩
theorem je_keys {kx tg iter : Expr} {ifs : List Expr} {scope : Scope} {own : List (Str × Nat)} {src : Src} {g : Tgt} {tt : Tst} {dk : Ex} {us vs : List Nat} {p dpos cpos : Pos} {j : Nat} (hc : X.calm = true) (hN : X.N.Nodup) (hgl : Gl X "list") (hml : X.mg "list" = none) (hi : JI X T Wi tg iter src) (ok : BlkOk X.N X.env.scope scope own)
    (hv : own.map (·.2) = vs) (hvs : ∀ i ∈ us, i ∈ vs)
    (hg : ∀ (s : Shared) (H : Hp) (C : Addr) (cl : List (Str × Addr)) (fp : List Addr), JG (X.blk s H scope (compEnvC scope cl C X.env) fp) T tg g us)
    (ht : ∀ (s : Shared) (H : Hp) (C : Addr) (cl : List (Str × Addr)) (fp : List Addr), JTs (X.blk s H scope (compEnvC scope cl C X.env) fp) T ifs tt)
    (hk : ∀ (s : Shared) (H : Hp) (C : Addr) (cl : List (Str × Addr)) (fp : List Addr), JE (X.blk s H scope (compEnvC scope cl C X.env) fp) T noW kx dk) (hs : ∀ x, foldedSetIterable iter X.env x = pure x := by intro _; rfl)
    (he : starEach [.DictComp kx (.Constant (.bool true) j cpos) [⟨tg, iter, ifs, 0⟩] scope dpos] X.env = (false, eval (.DictComp kx (.Constant (.bool true) j cpos) [⟨tg, iter, ifs, 0⟩] scope dpos) X.env) :: starEach [] X.env := by rfl) (hpl : (backTo pos (starEach [] X.env)).any (·.1) = false := by rfl) :
    JE X T Wi (.Call (.Name "list" p) [.DictComp kx (.Constant (.bool true) j cpos) [⟨tg, iter, ifs, 0⟩] scope dpos] [] pos) (dKeys src vs g tt dk) := by
  subst hv
  refine (pe_callTy (call_list_dK hc) hgl hml (by decide +kernel) (pa_cons (pe_dc (g := tG (Cx.tx X T) g us) (tt := tT (Cx.tx X T) noW tt) (tk := tD (Cx.tx X T) noW dk) (tv := tC (.bl true)) hc hN hi ok hg ht hk (fun _ _ _ _ _ => pe_bl) hs) pa_nil he) (by decide) (by decide) he hpl).impD fun σ H Q q => ?_
  exact dk_read hvs q
end
end Dl
namespace Dl
open PySem PySem.Spec PyProof.Rows L2 NdefX
def b__law_tape (C : Cs) : Sd := (sRet (dLst (aCons (dBlt cList (rCons (dName 0) rNil)) (aCons (dC (.int 0)) (aCons (dC (.int 0)) (aCons (dC (.int 1)) (aCons (dC (.int 0)) aNil)))))))
def b__law_pick (C : Cs) : Sd := (sSeq (sIf (dTst (dBin (gGt C.room) (dIxW 0 (dC (.int 2))) (dC (.int 1)))) (sSeq (sSet 2 (dBin gMod (dBlt cInt (rCons (dIxW 0 (dC (.int 2))) rNil)) (dName 1)))
  (sSeq (sSetIx 0 (dC (.int 2)) (dBin gFdiv (dIxW 0 (dC (.int 2))) (dName 1)))
  (sRet (dName 2)))) sNil)
  (sSeq (sSetIx 0 (dC (.int 4)) (dBin gAdd (dIxW 0 (dC (.int 4))) (dC (.int 1))))
  (sSeq (sSet 3 (dC (.int 0)))
  (sSeq (sIf (dTst (dBin (gLt C.room) (dIxW 0 (dC (.int 1))) (dBlt cLen (rCons (dIxW 0 (dC (.int 0))) rNil)))) (sSeq (sSet 3 (dBin gIx (dIxW 0 (dC (.int 0))) (dIxW 0 (dC (.int 1)))))
  (sSetIx 0 (dC (.int 1)) (dBin gAdd (dIxW 0 (dC (.int 1))) (dC (.int 1))))) sNil)
  (sSeq (sIf (dTst (dBin (gGe C.room) (dName 3) (dBin gPow (dC (.int 10)) (dC (.int 18))))) (sSeq (sSetIx 0 (dC (.int 2)) (dBin gFdiv (dName 3) (dName 1)))
  (sRet (dBin gMod (dBlt cInt (rCons (dName 3) rNil)) (dName 1)))) sNil)
  (sSeq (sSet 4 (dBin gMod (dBlt cInt (rCons (dBin gAdd (dBin gAdd (dBin gMul (dIxW 0 (dC (.int 3))) (dC (.int 48271))) (dBin gMod (dBlt cInt (rCons (dName 3) rNil)) (dC (.int 2147483629)))) (dBin gMul (dIxW 0 (dC (.int 4))) (dC (.int 69621)))) rNil)) (dC (.int 2147483647))))
  (sSeq (sSet 4 (dBin gMod (dBlt cInt (rCons (dBin gMul (dName 4) (dBin gAdd (dBin gFdiv (dName 4) (dC (.int 1009))) (dC (.int 40692)))) rNil)) (dC (.int 2147483399))))
  (sSeq (sSetIx 0 (dC (.int 3)) (dName 4))
  (sRet (dBin gMod (dBlt cInt (rCons (dBin gFdiv (dName 4) (dC (.int 16))) rNil)) (dName 1)))))))))))
end Dl
namespace Dl
open PySem PySem.Spec PyProof.Rows L2 NdefX
section
variable {α β : Type} {env : Ev} {w : World} {i : Nat} {e : Ex} {a b : Sd}
@[simp] theorem bind_ite {c : Prop} [Decidable c] {x y : Out α} {f : α → World → Out β} : (if c then x else y).bind f = if c then x.bind f else y.bind f := by split <;> rfl
@[simp] theorem sNil_ap : sNil env w = .ok (.nx env) w := rfl
@[simp] theorem sPass_ap : sPass env w = .ok (.nx env) w := rfl
@[simp] theorem sBreak_ap : sBreak env w = .ok (.bk env) w := rfl
@[simp] theorem sCont_ap : sCont env w = .ok (.ct env) w := rfl
@[simp] theorem sRetN_ap : sRetN env w = .ok (.rt (.dat .non)) w := rfl
def seqK (b : Sd) : Fl → World → Out Fl := fun f w1 => match f with
  | .nx env1 => b env1 w1
  | f => .ok f w1
@[simp] theorem seqK_nx : seqK b (.nx env) w = b env w := rfl
@[simp] theorem seqK_rt {r : RV} : seqK b (.rt r) w = .ok (.rt r) w := rfl
@[simp] theorem seqK_bk : seqK b (.bk env) w = .ok (.bk env) w := rfl
@[simp] theorem seqK_ct : seqK b (.ct env) w = .ok (.ct env) w := rfl
@[simp] theorem sSeq_ap : sSeq a b env w = (a env w).bind (seqK b) := rfl
@[simp] theorem sIf_ap {c : Tst} : sIf c a b env w = (c env w).bind fun k w1 => if k = true then a env w1 else b env w1 := rfl
@[simp] theorem sExpr_ap : sExpr e env w = (e env w).bind fun _ w1 => .ok (.nx env) w1 := rfl
@[simp] theorem sRet_ap : sRet e env w = (e env w).bind fun r w1 => .ok (.rt r.ret) w1 := rfl
@[simp] theorem ret_dat {d : D} : (RV.dat d).ret = .dat d := rfl
@[simp] theorem ret_fresh {l : List D} : (RV.fresh l).ret = .fresh l := rfl
@[simp] theorem ret_bor {l : List D} : (RV.bor i l).ret = .fresh l := rfl
@[simp] theorem ret_wref {k : Nat} : (RV.wref k).ret = .wref k := rfl
def setK (i : Nat) (env : Ev) : RV → World → Out Fl := fun r w1 => match r with
  | .dat d => .ok (.nx (env.set i (.dat d))) w1
  | .fresh l => .ok (.nx (env.set i (.own l))) w1
  | .wref k => .ok (.nx (env.set i (.wref k))) w1
  | .bor _ _ => .stuck
@[simp] theorem setK_dat {d : D} : setK i env (.dat d) w = .ok (.nx (env.set i (.dat d))) w := rfl
@[simp] theorem setK_fresh {l : List D} : setK i env (.fresh l) w = .ok (.nx (env.set i (.own l))) w := rfl
@[simp] theorem setK_wref {k : Nat} : setK i env (.wref k) w = .ok (.nx (env.set i (.wref k))) w := rfl
@[simp] theorem sSet_ap : sSet i e env w = (e env w).bind (setK i env) := rfl
@[simp] theorem sSetW_ap : sSetW i e env w = (e env w).bind fun r w1 => match r with
  | .fresh l => .ok (.nx (env.set i (.wref w1.length))) (w1 ++ [.lst l])
  | _ => .stuck := rfl
@[simp] theorem sAsg_ap {g : Tgt} : sAsg g e env w = (e env w).bind fun r w1 => match r.arg with
  | some (.dat d) => (match g d env with
    | some env' => .ok (.nx env') w1
    | none => .stuck)
  | _ => .stuck := rfl
@[simp] theorem sAppend_ap : sAppend i e env w = (match env[i]? with
  | some (.own l) => (e env w).bind fun r w1 => (match r.st with
    | some d => if l.length < 16777216 then .ok (.nx (env.set i (.own (l ++ [d])))) w1 else .stuck
    | none => .stuck)
  | _ => .stuck) := rfl
@[simp] theorem sSetIx_ap {ix : Ex} : sSetIx i ix e env w = (e env w).bind fun r w1 => match env[i]?, r.st with
  | some (.own l), some d => (ix env w1).bind fun k w2 => (match k with
    | .dat (.int z) => (match ixN l.length z with
      | some j => .ok (.nx (env.set i (.own (l.set j d)))) w2
      | none => .stuck)
    | _ => .stuck)
  | some (.wref m), some d => (ix env w1).bind fun k w2 => (match k, w2[m]? with
    | .dat (.int z), some (.lst l) => (match ixN l.length z with
      | some j => .ok (.nx env) (w2.set m (.lst (l.set j d)))
      | none => .stuck)
    | _, _ => .stuck)
  | _, _ => .stuck := rfl
@[simp] theorem sFor_ap {src : Src} {g : Tgt} {body : Sd} : sFor src g body env w = (src env w).bind fun l w1 => forGo g body l env w1 := rfl
@[simp] theorem sAug_ap {g : D → D → Option RV} : sAug i g e env w = (match env[i]? with
  | some (.dat x) => (e env w).bind fun r w1 => (match r.val with
    | some y => (match g x y with
      | some (.dat z) => .ok (.nx (env.set i (.dat z))) w1
      | _ => .stuck)
    | none => .stuck)
  | _ => .stuck) := rfl
end
section
variable {env : Ev} {w : World} {i : Nat} {e a b c : Ex} {d : D} {l : List D}
@[simp] theorem dName_ap : dName i env w = (match env[i]? with
  | some (.dat d) => .ok (.dat d) w
  | some (.own l) => .ok (.bor i l) w
  | some (.wref k) => .ok (.wref k) w
  | _ => .stuck) := rfl
@[simp] theorem dC_ap : dC d env w = .ok (.dat d) w := rfl
@[simp] theorem arg_dat : (RV.dat d).arg = some (.dat d) := rfl
@[simp] theorem arg_fresh : (RV.fresh l).arg = some (.dat (.lst l)) := rfl
@[simp] theorem arg_wref {k : Nat} : (RV.wref k).arg = some (.wref k) := rfl
@[simp] theorem arg_bor : (RV.bor i l).arg = none := rfl
@[simp] theorem val_dat : (RV.dat d).val = some d := rfl
@[simp] theorem val_fresh : (RV.fresh l).val = some (.lst l) := rfl
@[simp] theorem val_bor : (RV.bor i l).val = some (.lst l) := rfl
@[simp] theorem st_dat : (RV.dat d).st = some d := rfl
@[simp] theorem st_fresh : (RV.fresh l).st = some (.lst l) := rfl
@[simp] theorem aNil_ap : aNil env w = .ok [] w := rfl
@[simp] theorem rNil_ap : rNil env w = .ok [] w := rfl
@[simp] theorem aCons_ap {r : Exs} : aCons e r env w = (e env w).bind fun x w1 => match x.arg with
  | some a => (r env w1).bind fun as w2 => .ok (a :: as) w2
  | none => .stuck := rfl
@[simp] theorem rCons_ap {r : Exs} : rCons e r env w = (e env w).bind fun x w1 => (r env w1).bind fun xs w2 => .ok (x :: xs) w2 := rfl
@[simp] theorem dats_nil : dats [] = some [] := rfl
@[simp] theorem dats_cons {rs : List RV} : dats (.dat d :: rs) = (dats rs).map (d :: ·) := by
  show (match some d, dats rs with
    | some d, some ds => some (d :: ds)
    | _, _ => none) = _
  cases dats rs <;> rfl
@[simp] theorem vals_nil : vals [] = some [] := rfl
@[simp] theorem vals_cons {r : RV} {rs : List RV} : vals (r :: rs) = (match r.val, vals rs with
    | some d, some ds => some (d :: ds)
    | _, _ => none) := rfl
@[simp] theorem dTup_ap {es : Exs} : dTup es env w = (es env w).bind fun rs w1 => match dats rs with
  | some ds => if ds.length ≤ 1000 then .ok (.dat (.tup ds)) w1 else .stuck
  | none => .stuck := rfl
@[simp] theorem dLst_ap {es : Exs} : dLst es env w = (es env w).bind fun rs w1 => match dats rs with
  | some ds => if ds.length ≤ 1000 then .ok (.fresh ds) w1 else .stuck
  | none => .stuck := rfl
@[simp] theorem dCall_ap {C : Cs} {es : Exs} : dCall C i es env w = (es env w).bind fun rs w1 => withEnv env (C.call i rs w1) := rfl
@[simp] theorem dBlt_ap {g : List D → Option RV} {es : Exs} : dBlt g es env w = (es env w).bind fun rs w1 => match vals rs with
  | some ds => lift (g ds) w1
  | none => .stuck := rfl
@[simp] theorem vals2_ap {g : D → D → Option RV} {x y : RV} : vals2 g x y = (match x.val, y.val with
  | some x, some y => g x y
  | _, _ => none) := rfl
@[simp] theorem vals1_ap {g : D → Option RV} {x : RV} : vals1 g x = (match x.val with
  | some x => g x
  | none => none) := rfl
@[simp] theorem dBin_ap {g : D → D → Option RV} : dBin g a b env w = (a env w).bind fun ra w1 => (b env w1).bind fun rb w2 => lift (vals2 g ra rb) w2 := rfl
@[simp] theorem dIsi_ap {t : Ty} : dIsi t a env w = (a env w).bind (isiK [t]) := rfl
@[simp] theorem isiK_dat {ts : List Ty} {d : D} : isiK ts (.dat d) w = .ok (.dat (.bl (ts.any d.isTy))) w := rfl
@[simp] theorem isiK_fresh {ts : List Ty} {l : List D} : isiK ts (.fresh l) w = .ok (.dat (.bl (ts.any (D.lst l).isTy))) w := rfl
@[simp] theorem isiK_bor {ts : List Ty} {i : Nat} {l : List D} : isiK ts (.bor i l) w = .ok (.dat (.bl (ts.any (D.lst l).isTy))) w := rfl
@[simp] theorem dUn_ap {g : D → Option RV} : dUn g a env w = (a env w).bind fun ra w1 => lift (vals1 g ra) w1 := rfl
def andK (b : Ex) (env : Ev) : RV → World → Out RV := fun ra w1 => match ra with
  | .dat (.bl true) => b env w1
  | .dat (.bl false) => .ok (.dat (.bl false)) w1
  | _ => .stuck
@[simp] theorem andK_bl {k : Bool} : andK b env (.dat (.bl k)) w = if k = true then b env w else .ok (.dat (.bl false)) w := by cases k <;> rfl
@[simp] theorem dAnd_ap : dAnd a b env w = (a env w).bind (andK b env) := rfl
def orK (b : Ex) (env : Ev) : RV → World → Out RV := fun ra w1 => match ra with
  | .dat (.bl false) => b env w1
  | .dat (.bl true) => .ok (.dat (.bl true)) w1
  | _ => .stuck
@[simp] theorem orK_bl {k : Bool} : orK b env (.dat (.bl k)) w = if k = true then .ok (.dat (.bl true)) w else b env w := by cases k <;> rfl
@[simp] theorem dOr_ap : dOr a b env w = (a env w).bind (orK b env) := rfl
@[simp] theorem dIf_ap {t : Tst} : dIf t a b env w = (t env w).bind fun c w1 => if c = true then a env w1 else b env w1 := rfl
def chK (g' : D → D → Option RV) (c : Ex) (env : Ev) (rb : RV) (w2 : World) : Option RV → Out RV
  | some (.dat (.bl true)) => (c env w2).bind fun rc w3 => lift (vals2 g' rb rc) w3
  | some (.dat (.bl false)) => .ok (.dat (.bl false)) w2
  | _ => .stuck
@[simp] theorem chK_bl {g' : D → D → Option RV} {rb : RV} {k : Bool} : chK g' c env rb w (some (.dat (.bl k))) = if k = true then (c env w).bind fun rc w3 => lift (vals2 g' rb rc) w3 else .ok (.dat (.bl false)) w := by cases k <;> rfl
@[simp] theorem dChain_ap {g g' : D → D → Option RV} : dChain g g' a b c env w = (a env w).bind fun ra w1 => (b env w1).bind fun rb w2 => chK g' c env rb w2 (vals2 g ra rb) := by
  unfold dChain chK
  rfl
@[simp] theorem dTst_ap : dTst a env w = (a env w).bind fun ra w1 => match ra with
  | .dat (.bl b) => .ok b w1
  | _ => .stuck := rfl
@[simp] theorem dTru_ap : dTru a env w = (a env w).bind fun ra w1 => match ra.val with
  | some d => (match d.truth with
    | some b => .ok b w1
    | none => .stuck)
  | none => .stuck := rfl
@[simp] theorem truth_bl {k : Bool} : (D.bl k).truth = some k := rfl
@[simp] theorem truth_int {k : Int} : (D.int k).truth = some (k != 0) := rfl
@[simp] theorem truth_lst : (D.lst l).truth = some (!l.isEmpty) := rfl
@[simp] theorem truth_tup : (D.tup l).truth = some (!l.isEmpty) := rfl
@[simp] theorem truth_non : D.non.truth = some false := rfl
@[simp] theorem tNot_ap {t : Tst} : tNot' t env w = (t env w).bind fun b w1 => .ok (!b) w1 := rfl
@[simp] theorem tAnd_ap {t u : Tst} : tAnd' t u env w = (t env w).bind fun c w1 => if c = true then u env w1 else .ok false w1 := rfl
@[simp] theorem tOr_ap {t u : Tst} : tOr' t u env w = (t env w).bind fun c w1 => if c = true then .ok true w1 else u env w1 := rfl
@[simp] theorem tYes_ap : tYes' env w = .ok true w := rfl
@[simp] theorem optI_none : optI none env w = .ok none w := rfl
@[simp] theorem optI_some : optI (some a) env w = (a env w).bind fun r w1 => match r with
    | .dat (.int i) => .ok (some i) w1
    | _ => .stuck := rfl
@[simp] theorem dSl_ap {lo hi : Option Ex} : dSl a lo hi env w = (a env w).bind fun ra w1 => (optI lo env w1).bind fun l w2 => (optI hi env w2).bind fun u w3 => lift (vals1 (gSl l u) ra) w3 := rfl
@[simp] theorem dIxW_ap : dIxW i a env w = (match env[i]? with
  | some (.wref m) => (a env w).bind fun k w1 => (match k, w1[m]? with
    | .dat (.int z), some (.lst l) => lift ((atI l z).map .dat) w1
    | _, _ => .stuck)
  | _ => .stuck) := rfl
@[simp] theorem iSeq_ap : iSeq a env w = (a env w).bind fun r w1 => match r.its with
  | some l => .ok l w1
  | none => .stuck := rfl
@[simp] theorem its_lst : (RV.dat (.lst l)).its = some l := rfl
@[simp] theorem its_tup : (RV.dat (.tup l)).its = some l := rfl
@[simp] theorem its_fresh : (RV.fresh l).its = some l := rfl
@[simp] theorem iRange_ap {g : List D → Option (Int × Int)} {es : Exs} : iRange g es env w = (es env w).bind fun rs w1 => match vals rs with
  | some ds => (match g ds with
    | some (lo, hi) => if (hi - lo).toNat ≤ 16777216 ∧ -(2 ^ 62) ≤ lo ∧ lo < 2 ^ 62 ∧ -(2 ^ 62) ≤ hi ∧ hi < 2 ^ 62 then .ok (rngD lo hi) w1 else .stuck
    | none => .stuck)
  | none => .stuck := rfl
@[simp] theorem rg1_i {j : Int} : rg1 [.int j] = some (0, j) := rfl
@[simp] theorem rg2_i {j k : Int} : rg2 [.int j, .int k] = some (j, k) := rfl
@[simp] theorem dComp_ap {src : Src} {vs : List Nat} {g : Tgt} {tt : Tst} : dComp src vs g tt e env w = (src env w).bind fun l w1 => (compGo g tt e (wipeE env vs) l w1).bind fun xs w2 => .ok (.fresh xs) w2 := rfl
@[simp] theorem wipe_nil : wipeE env [] = env := rfl
@[simp] theorem wipe_cons {v : Nat} {vs : List Nat} : wipeE env (v :: vs) = (wipeE env vs).set v .un := rfl
@[simp] theorem gN_ap : gN i d env = some (env.set i (.dat d)) := rfl
@[simp] theorem gT_ap {n : Nat} {ts : Tgts} : gT n ts (.tup l) env = if l.length = n then ts l env else none := rfl
@[simp] theorem gTl_ap {n : Nat} {ts : Tgts} : gT n ts (.lst l) env = if l.length = n then ts l env else none := rfl
@[simp] theorem gsNil_ap : gsNil [] env = some env := rfl
@[simp] theorem gsCons_ap {t : Tgt} {ts : Tgts} : gsCons t ts (d :: l) env = (t d env).bind fun env' => ts l env' := rfl
@[simp] theorem go_nil {g : Tgt} {tt : Tst} : compGo g tt e env [] w = .ok [] w := rfl
@[simp] theorem for_nil {g : Tgt} {s : Sd} : forGo g s [] env w = .ok (.nx env) w := rfl
end
section
variable {i j : Int} {s t : Str} {rm : Nat} {k l : List D} {b c : Bool} {d : D}
@[simp] theorem gAdd_i : gAdd (.int i) (.int j) = some (.dat (.int (i + j))) := rfl
@[simp] theorem gSub_i : gSub (.int i) (.int j) = some (.dat (.int (i - j))) := rfl
@[simp] theorem gMul_i : gMul (.int i) (.int j) = if mulOk i j then some (.dat (.int (i * j))) else none := rfl
@[simp] theorem gFdiv_i : gFdiv (.int i) (.int j) = if 0 < j ∧ (j < 1073741824 ∨ j.natAbs.log2 < 8990) then some (.dat (.int (i / j))) else none := rfl
@[simp] theorem gMod_i : gMod (.int i) (.int j) = if 0 < j then some (.dat (.int (i % j))) else none := rfl
@[simp] theorem gPow_i : gPow (.int i) (.int j) = if 0 ≤ j ∧ j ≤ 1000000 ∧ i.natAbs < 2 ^ 64 then some (.dat (.int (i ^ j.toNat))) else none := rfl
@[simp] theorem gAdd_t : gAdd (.tup k) (.tup l) = if k.length + l.length ≤ sizeLine then some (.dat (.tup (k ++ l))) else none := rfl
@[simp] theorem gAdd_l : gAdd (.lst k) (.lst l) = if k.length + l.length ≤ sizeLine then some (.fresh (k ++ l)) else none := rfl
@[simp] theorem gNeg_i : gNeg (.int i) = some (.dat (.int (-i))) := rfl
@[simp] theorem gNot_b : gNot (.bl b) = some (.dat (.bl (!b))) := rfl
@[simp] theorem dep_i : (D.int i).dep = 0 := rfl
@[simp] theorem dep_b : (D.bl b).dep = 0 := rfl
@[simp] theorem dep_s : (D.str s).dep = 0 := rfl
@[simp] theorem dep_n : D.non.dep = 0 := rfl
theorem eq_i : (D.int i).eq (.int j) = decide (i = j) := by rfl
@[simp] theorem gEq_i : gEq rm (.int i) (.int j) = some (.dat (.bl (decide (i = j)))) := by simp [gEq, eq_i]
@[simp] theorem gNe_i : gNe rm (.int i) (.int j) = some (.dat (.bl (!decide (i = j)))) := by simp [gNe, eq_i]
@[simp] theorem gLt_i : gLt rm (.int i) (.int j) = some (.dat (.bl (decide (i < j)))) := rfl
@[simp] theorem gGt_i : gGt rm (.int i) (.int j) = some (.dat (.bl (decide (j < i)))) := rfl
@[simp] theorem gLe_i : gLe rm (.int i) (.int j) = some (.dat (.bl (decide (i ≤ j)))) := rfl
@[simp] theorem gGe_i : gGe rm (.int i) (.int j) = some (.dat (.bl (decide (j ≤ i)))) := rfl
@[simp] theorem gIs_b : gIs (.bl b) (.bl c) = some (.dat (.bl (decide (b = c)))) := rfl
@[simp] theorem gIsNot_b : gIsNot (.bl b) (.bl c) = some (.dat (.bl (!decide (b = c)))) := rfl
@[simp] theorem gIs_n : gIs d .non = some (.dat (.bl d.isN)) := by cases d <;> rfl
@[simp] theorem gIsNot_n : gIsNot d .non = some (.dat (.bl (!d.isN))) := by cases d <;> rfl
@[simp] theorem isN_n : D.non.isN = true := rfl
@[simp] theorem isN_i : (D.int i).isN = false := rfl
@[simp] theorem isN_b : (D.bl b).isN = false := rfl
@[simp] theorem isN_s : (D.str s).isN = false := rfl
@[simp] theorem isN_l : (D.lst l).isN = false := rfl
@[simp] theorem isN_t : (D.tup l).isN = false := rfl
@[simp] theorem gIx_l : gIx (.lst l) (.int i) = (atI l i).map .dat := rfl
@[simp] theorem gIx_t : gIx (.tup l) (.int i) = (atI l i).map .dat := rfl
@[simp] theorem gSl_l {lo hi : Option Int} : gSl lo hi (.lst l) = some (.fresh (cutD l lo hi)) := rfl
@[simp] theorem gSl_t {lo hi : Option Int} : gSl lo hi (.tup l) = some (.dat (.tup (cutD l lo hi))) := rfl
@[simp] theorem cLen_l : cLen [.lst l] = some (.dat (.int l.length)) := rfl
@[simp] theorem cLen_t : cLen [.tup l] = some (.dat (.int l.length)) := rfl
@[simp] theorem cLen_s : cLen [.str s] = some (.dat (.int s.length)) := rfl
@[simp] theorem cInt_i : cInt [.int i] = some (.dat (.int i)) := rfl
@[simp] theorem cInt_b : cInt [.bl b] = some (.dat (.int (if b then 1 else 0))) := rfl
@[simp] theorem cTup_l : cTuple [.lst l] = some (.dat (.tup l)) := rfl
@[simp] theorem cTup_t : cTuple [.tup l] = some (.dat (.tup l)) := rfl
@[simp] theorem cLst_l : cList [.lst l] = some (.fresh l) := rfl
@[simp] theorem cLst_t : cList [.tup l] = some (.fresh l) := rfl
@[simp] theorem cMax_i : cMax2 [.int i, .int j] = some (.dat (.int (if j > i then j else i))) := rfl
@[simp] theorem cMin_i : cMin2 [.int i, .int j] = some (.dat (.int (if j < i then j else i))) := rfl
@[simp] theorem cAll_l : cAll [.lst l] = (bolsOf l).map fun ns => .dat (.bl (ns.all id)) := rfl
@[simp] theorem cAny_l : cAny [.lst l] = (bolsOf l).map fun ns => .dat (.bl (ns.any id)) := rfl
@[simp] theorem cSum_l : cSum [.lst l] = (intsOf l).map fun ns => .dat (.int ns.sum) := rfl
@[simp] theorem isi_ap {ts : List Ty} : gIsi ts d = some (.dat (.bl (ts.any d.isTy))) := rfl
@[simp] theorem bolsOf_mapF {α : Type} {f : α → Bool} (xs : List α) : bolsOf (xs.map fun x => D.bl (f x)) = some (xs.map f) := by
  induction xs with
  | nil => rfl
  | cons x xs ih => simp [bolsOf, ih]
theorem eq_s : (D.str s).eq (.str t) = decide (s = t) := by rfl
@[simp] theorem gEq_s : gEq rm (.str s) (.str t) = some (.dat (.bl (decide (s = t)))) := by simp [gEq, eq_s]
@[simp] theorem gNe_s : gNe rm (.str s) (.str t) = some (.dat (.bl (!decide (s = t)))) := by simp [gNe, eq_s]
theorem eq_b : (D.bl b).eq (.bl c) = decide (b = c) := by cases b <;> cases c <;> rfl
@[simp] theorem gEq_b : gEq rm (.bl b) (.bl c) = some (.dat (.bl (decide (b = c)))) := by simp [gEq, eq_b]
@[simp] theorem gNe_b : gNe rm (.bl b) (.bl c) = some (.dat (.bl (!decide (b = c)))) := by simp [gNe, eq_b]
end
theorem compGo_map {i : Nat} {e : Ex} {env : Ev} {w : World} {f : D → D} : ∀ {l : List D}, (∀ d ∈ l, e (env.set i (.dat d)) w = .ok (.dat (f d)) w) → compGo (gN i) tYes' e env l w = .ok (l.map f) w
  | [], _ => rfl
  | d :: l, h => by
    have h1 := h d (.head _)
    have h2 := compGo_map (l := l) (fun x hx => h x (.tail _ hx))
    unfold compGo
    simp only [gN_ap, tYes_ap, noX_ok, bind_ok, if_true, h1, st_dat, h2, List.map_cons]
theorem for_cons {g : Tgt} {s : Sd} {d : D} {ds : List D} {env : Ev} {w : World} : forGo g s (d :: ds) env w = (match g d env with
    | some env1 => (s env1 w).bind fun f w1 => (match f with
      | .nx e => forGo g s ds e w1
      | .ct e => forGo g s ds e w1
      | .bk e => .ok (.nx e) w1
      | .rt r => .ok (.rt r) w1)
    | none => .stuck) := rfl
end Dl
namespace Dl
open PySem PySem.Spec PyProof.Rows L2 NdefX
theorem atI_nat {α : Type} {l : List α} {i : Int} (h0 : 0 ≤ i) (h1 : i < l.length) : atI l i = l[i.toNat]? := by
  unfold atI ixN
  rw [if_pos h0, if_pos h1]
  rfl
def tapeD (ns : List Int) (pos c2 c3 c4 : Int) : WO := .lst [.lst (ns.map .int), .int pos, .int c2, .int c3, .int c4]
def TapeOk (rest w : World) : Prop := ∃ ns pos c2 c3 c4, w = tapeD ns pos c2 c3 c4 :: rest ∧ 0 ≤ pos
theorem at0 {a b c d e : D} : atI [a, b, c, d, e] 0 = some a := rfl
theorem at1 {a b c d e : D} : atI [a, b, c, d, e] 1 = some b := rfl
theorem at2 {a b c d e : D} : atI [a, b, c, d, e] 2 = some c := rfl
theorem at3 {a b c d e : D} : atI [a, b, c, d, e] 3 = some d := rfl
theorem at4 {a b c d e : D} : atI [a, b, c, d, e] 4 = some e := rfl
theorem ix5 {i : Int} (h : 0 ≤ i) (h1 : i < 5) : ixN 5 i = some i.toNat := by
  unfold ixN
  rw [if_pos h, if_pos (by simpa using h1)]
@[simp] theorem endR_rt' (r : RV) (w : World) : endR (.ok (.rt r) w) = .ok r w := rfl
theorem tape_run {C : Cs} {l : List Int} {w : World} : runB ⟨1, 1, b__law_tape⟩ C [.dat (.lst (l.map .int))] w = .ok (.fresh [.lst (l.map .int), .int 0, .int 0, .int 1, .int 0]) w := by
  simp [runB, initE, toSl, b__law_tape]
theorem pick_run {C : Cs} {rest w : World} {m : Int} (h : TapeOk rest w) (hm : 0 < m) (hb : m < 1073741824) :
    ∃ r w', runB ⟨2, 5, b__law_pick⟩ C [.wref 0, .dat (.int m)] w = .ok (.dat (.int r)) w' ∧ TapeOk rest w' ∧ 0 ≤ r ∧ r < m := by
  obtain ⟨ns, pos, c2, c3, c4, rfl, hp⟩ := h
  have hmod : ∀ z : Int, 0 ≤ z % m ∧ z % m < m := fun z => ⟨Int.emod_nonneg _ (by omega), Int.emod_lt_of_pos _ hm⟩
  simp only [runB, initE, toSl, b__law_pick, tapeD, List.length_cons, List.length_nil, Nat.reduceAdd, if_true, List.map_cons, List.map_nil, Nat.reduceSub, List.replicate]
  by_cases h2 : 1 < c2
  · refine ⟨c2 % m, tapeD ns pos (c2 / m) c3 c4 :: rest, ?_, ⟨ns, pos, c2 / m, c3, c4, rfl, hp⟩, hmod c2⟩
    simp [at0, at1, at2, at3, at4, h2, hm, hb, ix5, tapeD]
  · have mk : ∀ i j : Int, i.natAbs < 2 ^ 64 → mulOk i j = true := fun i j h => by simp [mulOk, h]
    have mk' : ∀ i j : Int, j.natAbs < 2 ^ 64 → mulOk i j = true := fun i j h => by simp [mulOk, h]
    have fin : ∀ cell pos' : Int, 0 ≤ pos' → ∃ r w', endR
        ((if 1000000000000000000 ≤ cell then Out.ok (Fl.rt (.dat (.int (cell % m)))) (tapeD ns pos' (cell / m) c3 (c4 + 1) :: rest) else
          (Out.ok (Fl.rt (.dat (.int ((c3 * 48271 + cell % 2147483629 + (c4 + 1) * 69621) % 2147483647 * ((c3 * 48271 + cell % 2147483629 + (c4 + 1) * 69621) % 2147483647 / 1009 + 40692) % 2147483399 / 16 % m)))) (tapeD ns pos' c2 ((c3 * 48271 + cell % 2147483629 + (c4 + 1) * 69621) % 2147483647 * ((c3 * 48271 + cell % 2147483629 + (c4 + 1) * 69621) % 2147483647 / 1009 + 40692) % 2147483399) (c4 + 1) :: rest)))) = .ok (.dat (.int r)) w' ∧ TapeOk rest w' ∧ 0 ≤ r ∧ r < m := fun cell pos' hp' => by
      split
      · exact ⟨_, _, rfl, ⟨_, _, _, _, _, rfl, hp'⟩, hmod _⟩
      · exact ⟨_, _, rfl, ⟨_, _, _, _, _, rfl, hp'⟩, hmod _⟩
    by_cases hlt : pos < ns.length
    · obtain ⟨k, rfl⟩ : ∃ k : Nat, pos = k := ⟨pos.toNat, by omega⟩
      have hk : k < ns.length := by omega
      have hc : atI (ns.map D.int) (k : Int) = some (.int ns[k]) := by
        rw [atI_nat (by omega) (by simpa using hlt)]
        simp [hk]
      have mo := mk ((c3 * 48271 + ns[k] % 2147483629 + (c4 + 1) * 69621) % 2147483647) ((c3 * 48271 + ns[k] % 2147483629 + (c4 + 1) * 69621) % 2147483647 / 1009 + 40692) (by omega)
      have := fin ns[k] (k + 1) (by omega)
      revert this
      simp [at0, at1, at2, at3, at4, h2, hm, hb, ix5, tapeD, hlt, hc, mk', mo, hk]
    · have mo := mk ((c3 * 48271 + (c4 + 1) * 69621) % 2147483647) ((c3 * 48271 + (c4 + 1) * 69621) % 2147483647 / 1009 + 40692) (by omega)
      have := fin 0 pos hp
      revert this
      simp [at0, at1, at2, at3, at4, h2, hm, hb, ix5, tapeD, hlt, mk', mo]
end Dl
namespace Dl
open PySem PySem.Spec PyProof.Rows L2 NdefX
section
variable {α : Type} {l : List α}
theorem atI_get {k : Nat} (h : k < l.length) : atI l (k : Int) = some l[k] := by
  rw [atI_nat (by omega) (by omega)]
  simp [h]
end
end Dl
namespace Dl
open PySem PySem.Spec PyProof.Rows L2 NdefX
abbrev Cts : Type := List (Addr × Addr × Str)
abbrev TT (nd : Nat → Option ND) (cts : Cts) : Tbs := { tabs := (cts.map (·.2)).map fun p => (p.1, fun _ _ => p.2), nd := nd }
theorem tt_tabs {nd : Nat → Option ND} (cts : Cts) : (TT nd cts).tabs = (cts.map (·.2)).map fun p => (p.1, fun _ _ => p.2) := rfl
theorem tt_mem {nd : Nat → Option ND} {cts : Cts} {P : Addr} {q : Str} (h : (P, q) ∈ cts.map (·.2)) : ((P, fun _ _ => q) : NTab) ∈ (TT nd cts).tabs := List.mem_map.mpr ⟨(P, q), h, rfl⟩
theorem tt_uni {nd : Nat → Option ND} {cts : Cts} {P : Addr} {q : Str} (h : ∀ p ∈ cts.map (·.2), p.1 = P → p.2 = q) : ∀ p ∈ (TT nd cts).tabs, p.1 = P → p.2 = fun _ _ => q := fun p hp e => by
  obtain ⟨z, hz, rfl⟩ := List.mem_map.mp hp
  funext a b
  exact h z hz e
structure Makes (base : Heap) (mg : Str → Option Value) (cts : Cts) : Prop where
  tb : ∀ p ∈ cts, LamX.TabB base mg p.1 p.2.1
  un : ∀ p ∈ cts, ∀ q ∈ cts, p.2.1 = q.2.1 → p.2.2 = q.2.2
theorem Makes.mem {base : Heap} {mg : Str → Option Value} {cts : Cts} {c P : Addr} {q : Str} (_ : Makes base mg cts) (h : (c, P, q) ∈ cts) : (P, q) ∈ cts.map (·.2) := List.mem_map.mpr ⟨_, h, rfl⟩
theorem Makes.uni {base : Heap} {mg : Str → Option Value} {cts : Cts} {c P : Addr} {q : Str} (B : Makes base mg cts) (h : (c, P, q) ∈ cts) : ∀ p ∈ cts.map (·.2), p.1 = P → p.2 = q := fun p hp e => by
  obtain ⟨z, hz, rfl⟩ := List.mem_map.mp hp
  exact B.un z hz _ h e
theorem lasts_tt : Lasts (fun _ _ _ _ => True) := fun _ _ _ _ _ _ _ _ _ => trivial
theorem fr_of {fr : List Str} {ns : List (Str × NameKind)} (h : (ns.all fun y => !decide (y.2 = .free) || decide (y.1 ∈ fr)) = true) {y : Str} (hy : (y, NameKind.free) ∈ ns) : y ∈ fr := by
  have q := List.all_eq_true.mp h _ hy
  simp only [decide_true, Bool.not_true, Bool.false_or, decide_eq_true_eq] at q
  exact q
theorem own_of {l : List Str} {f : Str → Bool} (h : (l.all f) = true) {y : Str} (hy : y ∈ l) : f y = true := List.all_eq_true.mp h _ hy
theorem clos_zero {P : Program} {w : PySem.World} {K : PySem.W.Frag} {mg : Str → Option Value} {base : Heap} {T : Tbs} {tbl : Nat → Option DefB} : Clos P w K mg base T (Den tbl 0) 0 := fun i nd caps _ _ => by
  have no : ∀ ws vs H Q E, ¬ spC ⟨K, mg, T⟩ ((Den tbl 0).call i) caps ws vs H Q E := fun ws vs H Q E h => by
    obtain ⟨_, _, _, _, _, _, _, _, _, _, q⟩ := h
    exact q
  exact ⟨fun ws vs H Q E h => absurd h (no ws vs H Q E), fun f cl c' A outer s H us vs ws Q E _ _ _ _ _ _ h => absurd h (no ws vs H Q E)⟩
def stAt (i : Nat) (b : List Stmt) : Stmt := b.getD i (.Pass ⟨0, 0, 0, 0⟩)
def lamE : Nat → Expr → Option Expr
  | 0, _ => none
  | n + 1, e => match e with
    | .Lambda a b s p => some (.Lambda a b s p)
    | .Call f es _ _ => (f :: es).findSome? (lamE n)
    | .Tuple es _ _ => es.findSome? (lamE n)
    | _ => none
def lamIn (b : List Stmt) : Option Expr := b.findSome? fun st => match st with
  | .Return (some e) _ => lamE 8 e
  | _ => none
def ndLam (o : Option Expr) (q : Str) (ps fr : List Str) : ND := match o with
  | some (.Lambda a b s _) => ⟨"<lambda>", q, a, .inr b, s, ps, fr⟩
  | _ => ⟨"<lambda>", q, defArgs (.Pass ⟨0, 0, 0, 0⟩), .inl [], defScope (.Pass ⟨0, 0, 0, 0⟩), ps, fr⟩
end Dl
namespace Dl
open PySem PySem.Spec PyProof.Rows L2 NdefX He
abbrev AlX : Type := AlT × Bool
def obsX (fa : List Fa) (fn : List DefD) (ts : List Tab) (ex : PySem.W.Frag → Bool) (K : PySem.W.Frag) : AlX := (obsT fa fn ts K, ex K)
def valX (fn : List DefD) (ts : List Tab) (w : PySem.World) : AlX := (valT fn ts w, true)
def obsXG (n : Nat) (fa : List Fa) (fn : List DefD) (ts : List Tab) (ex : PySem.W.Frag → Bool) (g : Addr → Option Obj) : AlX := obsX fa fn ts ex (frG g (asD g n))
def SaysX (fa : List Fa) (fn : List DefD) (ts : List Tab) (ex : PySem.W.Frag → Bool) (w : PySem.World) (K : PySem.W.Frag) : Prop := obsX fa fn ts ex K = valX fn ts w
def hookX (n : Nat) (fa : List Fa) (fn : List DefD) (ts : List Tab) (ex : PySem.W.Frag → Bool) : PySem.W.Hook where
  α := AlX
  obs := fun s => obsXG n fa fn ts ex s.heap.get?
  val := fun w => valX fn ts w
  says := fun w h => ∃ K : PySem.W.Frag, K.In h ∧ SaysX fa fn ts ex w K
  of := fun _ _ e => ⟨_, frG_in, e⟩
  keeps := fun _ _ _ ⟨K, hK, c⟩ k => ⟨K, PySem.W.Frag.In.keeps hK k, c⟩
section
variable {fa : List Fa} {fn : List DefD} {ts : List Tab} {ex : PySem.W.Frag → Bool} {w : PySem.World} {K : PySem.W.Frag}
theorem SaysX.t (c : SaysX fa fn ts ex w K) : SaysT fa fn ts w K := congrArg (fun z : AlX => z.1) c
theorem SaysX.x (c : SaysX fa fn ts ex w K) : ex K = true := congrArg (fun z : AlX => z.2) c
end
theorem noCX {P : Program} {w : PySem.World} (H : Hp) (s : Shared) (e : Value) (s' : Shared) (h : L2N.CX P w [] H s (fun _ _ _ => False) e s') : False := by
  obtain ⟨_, _, _, _, _, _, _, _, _, _, _, _, f⟩ := h
  exact f
def atLaw (K : PySem.W.Frag) (a : Addr) (ob : Obj) (l : List V) (ts : List Addr) : Hp := fun b => if b = a ∧ (K.lookup a).isNone = true then some (.frz ob (.lst l)) else if b ∈ ts then some (.tbl #[]) else none
theorem atLaw_cases {K : PySem.W.Frag} {a b : Addr} {ob : Obj} {l : List V} {ts : List Addr} {u : HO} (h : atLaw K a ob l ts b = some u) : (b = a ∧ (K.lookup a).isNone = true ∧ u = .frz ob (.lst l)) ∨ (b ∈ ts ∧ u = .tbl #[]) := by
  unfold atLaw at h
  split at h
  · rename_i c
    exact .inl ⟨c.1, c.2, (Option.some.inj h).symm⟩
  · split at h
    · rename_i c
      exact .inr ⟨c, (Option.some.inj h).symm⟩
    · cases h
theorem law_callG {P : Program} {w : PySem.World} {K : PySem.W.Frag} {mg mb : Str → Option Value} {CX : CXT} {k : Nat} {fa a : Addr} {cs : List (Addr × Addr)} {fd : FuncData} {x : Str} {sp : Sp} {s1 : Shared} {vs : List Value} {ns : List Int}
    (KX : K.In s1.heap) (gN : s1.heap.Ns mainGlobals mg) (gB : s1.heap.Ns builtinsNs mb) (hbb : ∀ x : Str, x ≠ "__name__" → mb x = bootBuiltins x) (hlim : s1.heap.NoLimit) (hg : s1.gens = #[])
    (hT : ∀ p ∈ cs, s1.heap.get? p.2 = some { cls := .none, data := .fields #[] }) (nT : ∀ p ∈ cs, K.lookup p.2 = none) (hC : ∀ p ∈ cs, PySem.W.CodeHd s1.heap p.1 p.2)
    (hbm : ∃ (bm : Addr) (ob : Obj), mg "__builtins__" = some (.ref bm) ∧ bm ≠ builtinsNs ∧ s1.heap.get? bm = some ob ∧ ob.cls = .type "module" ∧ ob.dict = some builtinsNs ∧ ob.data = .plain)
    (ha : s1.heap.get? a = some { cls := .type "list", data := .seq vs.toArray }) (hi : IntsAre vs ns) (hl : ns.length ≤ sizeLine) (hr : RoomB k callerA)
    (F : ∀ base : Heap, K.In base → base.Ns mainGlobals mg → (∀ p ∈ cs, LamX.TabB base mg p.1 p.2) → FnG P w K mg base CX k fa fd [x] sp) (hbind : ∀ (s : Shared) (u : Value), BindsTo s fd ⟨[u], []⟩ [(x, u)])
    (hsp : ∀ H : Hp, (∀ b, H b = none ∨ b ∈ cs.map (·.2) ∨ ∃ o xs, H b = some (.frz o (.lst xs))) → (∀ p ∈ cs, H p.2 = some (.tbl #[])) → SqL K H a (ns.map V.int) → sp [.ref a] H (fun v _ => v = .bl true) fun _ _ _ => False)
    (hCX : ∀ H e s', CX [] H s1 (fun _ _ _ => False) e s' → False) :
    codeAny (model P w) callerA (.call (.ref fa) ⟨[.ref a], []⟩) (fun r s' => r = .ok (.ret (.bool true)) ∧ OldK s1.heap s'.heap ∧ s'.os = s1.os ∧ AllBare s'.gens) s1 := by
  have rv := vals_ints hi
  have tabs : ∀ b ∈ cs.map (·.2), s1.heap.get? b = some { cls := .none, data := .fields #[] } ∧ K.lookup b = none := fun b hb => by
    obtain ⟨p, hp, rfl⟩ := List.mem_map.mp hb
    exact ⟨hT p hp, nT p hp⟩
  have aT : a ∉ cs.map (·.2) := fun z => by
    have q := (tabs a z).1
    rw [ha] at q
    exact absurd (congrArg Obj.data (Option.some.inj q)) (by simp)
  have memT : ∀ p ∈ cs, p.2 ∈ cs.map (·.2) := fun p hp => List.mem_map.mpr ⟨p, hp, rfl⟩
  generalize eH : atLaw K a { cls := .type "list", data := .seq vs.toArray } (ns.map V.int) (cs.map (·.2)) = H
  have cas : ∀ {b : Addr} {u : HO}, H b = some u → (b = a ∧ (K.lookup a).isNone = true ∧ u = .frz { cls := .type "list", data := .seq vs.toArray } (.lst (ns.map V.int))) ∨ (b ∈ cs.map (·.2) ∧ u = .tbl #[]) := fun {b u} h => atLaw_cases (by rw [eH]; exact h)
  have tT : ∀ b ∈ cs.map (·.2), H b = some (.tbl #[]) := fun b hb => by
    rw [← eH]
    unfold atLaw
    rw [if_neg (fun z => aT (by rw [← z.1]; exact hb)), if_pos hb]
  -- what is neither the script nor a table is not tracked
  have free : ∀ {b : Addr} {o : Obj}, s1.heap.get? b = some o → (∀ l n, o.data ≠ .seq l n) → o.data ≠ .fields #[] → H b = none := fun {b o} e n1 n2 => by
    cases q : H b with
    | none => rfl
    | some u =>
      rcases cas q with ⟨rfl, _⟩ | ⟨hb, _⟩
      · rw [ha] at e
        cases e
        exact (n1 _ _ rfl).elim
      · rw [(tabs b hb).1] at e
        cases e
        exact (n2 rfl).elim
  have out : ∀ {b : Addr} {o : Obj}, s1.heap.get? b = some o → (∀ l n, o.data ≠ .seq l n) → o.data ≠ .fields #[] → (hidT s1.heap H).get? b = some o := fun e n1 n2 => hidT_get e (free e n1 n2)
  have ns_out : ∀ {b : Addr} {m : Str → Option Value}, s1.heap.Ns b m → (hidT s1.heap H).Ns b m := fun {b m} ⟨o, es, n, e, d, r⟩ => ⟨o, es, n, out e (fun l n z => by rw [d] at z; cases z) (fun z => by rw [d] at z; cases z), d, r⟩
  have KB : K.In (hidT s1.heap H) := fun b o e => hidT_get (KX b o e) (by
    cases q : H b with
    | none => rfl
    | some u =>
      rcases cas q with ⟨rfl, z, _⟩ | ⟨hb, _⟩
      · rw [e] at z; cases z
      · rw [(tabs b hb).2] at e; cases e)
  have M : L2.Mod K mg (hidT s1.heap H) := ⟨KB, ns_out gN, ⟨mb, ns_out gB, hbb⟩, by
    obtain ⟨mc, h1, h2⟩ := hlim
    exact ⟨mc, ns_out h1, h2⟩⟩
  have okH : HOk P w H s1.heap := fun b u q => by
    rcases cas q with ⟨rfl, _, rfl⟩ | ⟨hb, rfl⟩
    · exact ⟨ha, by rw [List.length_map]; exact hl, vs, _, rv, ha⟩
    · exact (tabs b hb).1
  have sq : SqL K H a (ns.map V.int) := by
    cases hk : K.lookup a with
    | none => exact .inl (.inr ⟨_, by rw [← eH]; exact if_pos ⟨rfl, by rw [hk]; rfl⟩⟩)
    | some o =>
      have e := KX a o hk
      rw [ha] at e
      cases e
      exact .inr ⟨_, vs.toArray, _, hk, rfl, rfl, rfl, by rw [List.size_toArray, hi.length]; exact hl, by simpa using rv⟩
  have TB : ∀ p ∈ cs, LamX.TabB (hidT s1.heap H) mg p.1 p.2 := fun p hp => by
    have eT := hT p hp
    obtain ⟨bm, ob, b1, b2, b3, b4, b5, b6⟩ := hbm
    obtain ⟨og, eg, ng, g1, g2, _⟩ := gN
    refine ⟨?_, ⟨bm, ob, b1, b2, fun q => ?_, fun q => ?_, out b3 (fun l n z => by rw [b6] at z; cases z) (fun z => by rw [b6] at z; cases z), b4, b5, b6⟩, fun z => ?_⟩
    · obtain ⟨o, us, file, tf, flags, tg, inF, text, tt, e1, r1, r2, r3, rest⟩ := hC p hp
      exact ⟨o, us, file, tf, flags, tg, inF, text, tt, out e1 (fun l n z => by rw [r2] at z; cases z) (fun z => by rw [r2] at z; cases z; simp at r3), r1, r2, r3, rest⟩
    · rw [q, g1] at b3
      cases b3
      rw [g2] at b6
      cases b6
    · rw [q, eT] at b3
      cases b3
      cases b6
    · rw [z, eT] at g1
      cases g1
      cases g2
  have e0 : Env0 P w K mg (hidT s1.heap H) callerA [] s1 H := ⟨rfl, M, fun b o e => of_hidT e, Nat.le_of_eq (hidT_size _ _), trivial, fun b hb => (List.not_mem_nil hb).elim, okH, .of_eq hg⟩
  refine codeAny_mono ((F _ KB (ns_out gN) TB).goes callerA [] s1 H ⟨[.ref a], []⟩ [.ref a] [.ref a] _ _ ⟨hr, rfl⟩ e0 (hbind s1 (.ref a)) (.cons rfl .nil) (hsp H (fun b => ?_) (fun p hp => tT _ (memT p hp)) sq)) ?_
  · cases q : H b with
    | none => exact .inl rfl
    | some u =>
      rcases cas q with ⟨_, _, z⟩ | ⟨hb, _⟩
      · exact .inr (.inr ⟨_, _, by rw [z]⟩)
      · exact .inr (.inl hb)
  · rintro (e | fl) s2 h
    · exact (hCX H e s2 h).elim
    · cases fl with
      | next => exact h.elim
      | brk => exact h.elim
      | cont => exact h.elim
      | ret u =>
        obtain ⟨v, H2, hos, bare, un, ok2, ru, ev⟩ := h
        have ev : v = .bl true := ev
        subst ev
        have eu : u = Value.bool true := ru
        subst eu
        have more : ∀ b ∈ cs.map (·.2), ∃ m : Array Value, s2.heap.get? b = some { cls := .none, data := .fields m } := fun b hb => by
          obtain ⟨m, z⟩ := un.tbls b #[] (tT b hb)
          exact ⟨_, ok2 b _ z⟩
        have stay : ∀ b o, b ∉ cs.map (·.2) → s1.heap.get? b = some o → s2.heap.get? b = some o := fun b o nb e => by
          cases q : H b with
          | none => exact un.keep b o e q (fun z => (List.not_mem_nil z).elim) (by simp)
          | some u =>
            rcases cas q with ⟨_, _, z⟩ | ⟨hb, _⟩
            · subst z
              have e1 := (okH b _ q).1
              rw [e] at e1
              cases e1
              exact (ok2 b _ (un.frzs b _ _ q)).1
            · exact absurd hb nb
        refine ⟨rfl, ⟨fun b o e => ?_, fun b o e => ?_⟩, hos, bare⟩
        · by_cases hb : b ∈ cs.map (·.2)
          · obtain ⟨m, hm⟩ := more b hb
            obtain ⟨p, hp, rfl⟩ := List.mem_map.mp hb
            rw [hT p hp] at e
            cases e
            exact .inr (.inl ⟨((hC p hp).tab (hT p hp)).isCodeTable, rfl, #[], m, rfl, by rw [Array.empty_append]; exact hm⟩)
          · exact .inl (stay b o hb e)
        · by_cases hb : b ∈ cs.map (·.2)
          · obtain ⟨m, hm⟩ := more b hb
            exact ⟨_, hm⟩
          · exact ⟨o, stay b o hb e⟩
theorem ref_inj {f g : Addr} (h : some (Value.ref f) = some (Value.ref g)) : f = g := by
  cases h
  rfl
end Dl
namespace Dl
open PySem PySem.Spec PyProof.Rows L2 NdefX
def ctsOf (K : PySem.W.Frag) (tq : List (He.Defn × Str)) : Cts := tq.map fun p => ((He.cT K p.1).1, (He.cT K p.1).2, p.2)
def apart (K : PySem.W.Frag) (tf : List He.Defn) : Bool := decide ((tf.map fun p => (He.cT K p).2).Nodup)
theorem cts_un {K : PySem.W.Frag} {tq : List (He.Defn × Str)} (h : apart K (tq.map (·.1)) = true) : ∀ p ∈ ctsOf K tq, ∀ q ∈ ctsOf K tq, p.2.1 = q.2.1 → p.2.2 = q.2.2 := by
  have h := of_decide_eq_true h
  rw [List.map_map] at h
  intro p hp q hq e
  obtain ⟨a, ha, rfl⟩ := List.mem_map.mp hp
  obtain ⟨b, hb, rfl⟩ := List.mem_map.mp hq
  have key : ∀ (l : List (He.Defn × Str)), (l.map ((fun p => (He.cT K p).2) ∘ (·.1))).Nodup → a ∈ l → b ∈ l → (He.cT K a.1).2 = (He.cT K b.1).2 → a = b := by
    intro l
    induction l with
    | nil => intro _ h; cases h
    | cons x l ih =>
      intro nd h1 h2 e
      rw [List.map_cons, List.nodup_cons] at nd
      rcases List.mem_cons.mp h1 with e1 | k1
      · rcases List.mem_cons.mp h2 with e2 | k2
        · rw [e1, e2]
        · exact absurd (List.mem_map.mpr ⟨b, k2, by rw [← e1]; exact e.symm⟩) nd.1
      · rcases List.mem_cons.mp h2 with e2 | k2
        · exact absurd (List.mem_map.mpr ⟨a, k1, by rw [← e2]; exact e⟩) nd.1
        · exact ih nd.2 k1 k2 e
  rw [key tq h ha hb e]
theorem maker_of {K : PySem.W.Frag} {x qual : Str} {params : Arguments} {body : List Stmt} {scope : Scope} {fd : FuncData} {tq : List (He.Defn × Str)} {p : He.Defn} {q : Str} (F : FunD K x qual params body scope [] [] (He.fAd K p) fd) (h : (p, q) ∈ tq) :
    ∃ c Pt, fd.code = .ref c ∧ ((c, Pt, q) : Addr × Addr × Str) ∈ ctsOf K tq := by
  obtain ⟨oc, od, dV, kV, doc, pm, an, cdv, ct, osl, rfl, lk, hcd, _, _⟩ := F.ex
  obtain ⟨c, e⟩ := He.codeIn_ref hcd
  have e2 := He.codeOf_eq lk (show _ = Value.ref c from e)
  refine ⟨c, (He.cT K p).2, e, List.mem_map.mpr ⟨(p, q), h, ?_⟩⟩
  show ((He.cT K p).1, (He.cT K p).2, q) = _
  rw [show (He.cT K p).1 = c from e2]
theorem tabs_nil {nd : Nat → Option ND} {cts : Cts} {H : Hp} (h : ∀ p ∈ cts, H p.2.1 = some (.tbl #[])) : TabsN (TT nd cts).tabs H := fun pT hp => by
  obtain ⟨z, hz, rfl⟩ := List.mem_map.mp hp
  obtain ⟨y, hy, rfl⟩ := List.mem_map.mp hz
  exact TabN.nil (h y hy)
theorem walk_ofM {l : PySem.W.OpenLaw} {n k : Nat} {q : Program} {loose : List Str} {XP : (Str → Option Value) → Heap → Prop} {fa : List He.Fa} {fn : List He.DefD} {ts : List He.Tab} {tq : List (He.Defn × Str)} {ex : PySem.W.Frag → Bool} {d : DefRec} {x : Str}
    (hn : l.most = some n) (hn2 : n ≤ sizeLine) (hdf : d.params.defaults = []) (hr : RoomB k callerA)
    (F : ∀ (w : PySem.World) (K : PySem.W.Frag) (mg : Str → Option Value) (fa' : Addr) (h : Heap), K.In h → He.SaysX fa fn ts (tq.map (·.1)) ex w h K → h.Ns mainGlobals mg → mg d.name = some (.ref fa') →
      ∃ (fd : FuncData) (sp : Sp), (∀ (s : Shared) (u : Value), BindsTo s fd ⟨[u], []⟩ [(x, u)]) ∧
        (∀ (H : Hp) (a : Addr) (ns : List Int), ns.length ≤ n → (∀ p ∈ ctsOf K tq, H p.2.1 = some (.tbl #[])) → SqL K H a (ns.map V.int) → sp [.ref a] H (fun v _ => v = .bl true) fun _ _ _ => False) ∧
        ∀ base : Heap, K.In base → base.Ns mainGlobals mg → (∀ p ∈ ctsOf K tq, LamX.TabB base mg p.1 p.2.1) → FnG l.prog w K mg base (L2N.CX l.prog w) k fa' fd [x] sp) :
    PySem.W.WalkO q loose XP (fun w h => ∃ K : PySem.W.Frag, K.In h ∧ He.SaysX fa fn ts (tq.map (·.1)) ex w h K) l.row.toRowW d [] (fun f vs => PySem.call f vs) := by
  refine Att.attach_callB hn hdf fun w s₀ s₁ mg mb fa' o pm cd doc a vs ns G Y ho hd hcd hmg hobj hints hlen hbits hg => ?_
  obtain ⟨K, KX, c⟩ := Y
  obtain ⟨fd, sp, h1, h2, h3⟩ := F w K mg fa' _ KX c G.T.g hmg
  have mem : ∀ p ∈ (ctsOf K tq).map (fun p => (p.1, p.2.1)), ∃ t ∈ tq.map (·.1), p = He.cT K t := fun p hp => by
    obtain ⟨z, hz, rfl⟩ := List.mem_map.mp hp
    obtain ⟨y, hy, rfl⟩ := List.mem_map.mp hz
    exact ⟨y.1, List.mem_map.mpr ⟨y, hy, rfl⟩, rfl⟩
  refine law_callG (cs := (ctsOf K tq).map fun p => (p.1, p.2.1)) KX G.T.g G.T.b G.T.builtins G.T.nolimit hg (fun p hp => ?_) (fun p hp => ?_) (fun p hp => ?_) G.T.bmain hobj hints (Nat.le_trans hlen hn2) hr
    (fun base hK hN hB => h3 base hK hN fun p hp => hB (p.1, p.2.1) (List.mem_map.mpr ⟨p, hp, rfl⟩)) h1 (fun H _ hT hS => h2 H a ns hlen (fun p hp => hT (p.1, p.2.1) (List.mem_map.mpr ⟨p, hp, rfl⟩)) hS) fun H e s' => noCX H s₁ e s'
  · obtain ⟨t, ht, rfl⟩ := mem p hp
    exact c.empty t ht
  · obtain ⟨t, ht, rfl⟩ := mem p hp
    exact c.out t ht
  · obtain ⟨t, ht, rfl⟩ := mem p hp
    exact PySem.W.codeHd_of_K KX (c.hd t ht)
end Dl
namespace Dl
open PySem PySem.Spec PyProof.Rows L2 NdefX
structure XoF (K : PySem.W.Frag) (mg : Str → Option Value) (x f : Str) : Prop where
  ex : ∃ (C fI : Addr) (fd : FuncData) (qual : Str) (params : Arguments) (scope : Scope) (p p' p2 pos : Pos), mg x = some (.ref C) ∧ OexC K C ∧ PySem.W.findIn K (.ref C) "__init__" = some (some (.ref fI)) ∧ PySem.W.typeIn K (.ref fI) = some (.type "function") ∧
    FunD K "__init__" qual params [.Assign [.Attribute (.Name "self" p) f p'] (.Name f p2) pos] scope [] [] fI fd ∧ FnScope ["self", f] ["self", f] scope ∧ Binds K fd ["self", f] [] ∧ PySem.W.findIn K (.ref C) f = some none ∧ XfC K C ∧ (f == ("__debug__" : Str)) = false ∧ (f == ("__classdict__" : Str)) = false
def clsBody : Stmt → List Stmt
  | .ClassDef (body := b) .. => b
  | _ => []
def clsAt (i : Nat) (s : Stmt) : Stmt := (clsBody s).getD i (.Pass ⟨0, 0, 0, 0⟩)
def oexB0 (K : PySem.W.Frag) (C : Addr) : Bool := match K.lookup C with
  | some ⟨.type "type", _, .cls cd, sl⟩ => (match cd.mro, sl.toList with
    | .ref C' :: bm, [_, _, _, _, some (.builtin n), _] => C' == C && n == "ValueError.__new__" && !cd.hasDel && cd.hasDict && PySem.HandSPX.refsVE bm
    | _, _ => false)
  | _ => false
theorem oexB0_ok {K : PySem.W.Frag} {C : Addr} (q : oexB0 K C = true) : ∃ nm q N bs bm sn sub ab col dd k0 k1 k2 k3 k5, K.lookup C = some (excClassObj nm q C N bs bm true sn sub ab col dd k0 k1 k2 k3 k5 "ValueError.__new__") ∧ PySem.HandSPX.refsVE bm = true := by
  unfold oexB0 at q
  split at q
  · rename_i dd cd sl ho
    split at q
    · rename_i C' bm k0 k1 k2 k3 n k5 hm hs
      simp only [Bool.and_eq_true, beq_iff_eq, Bool.not_eq_true'] at q
      obtain ⟨⟨⟨⟨rfl, rfl⟩, hdel⟩, hd⟩, ht⟩ := q
      obtain ⟨nm, bs, mro, ns, qn, hd', sn, sub, ab, col, del⟩ := cd
      dsimp only at hm hdel hd
      subst hm hdel hd
      have hsl : sl = #[k0, k1, k2, k3, some (.builtin "ValueError.__new__"), k5] := by
        obtain ⟨l⟩ := sl
        simp only at hs
        rw [hs]
      subst hsl
      exact ⟨nm, qn, ns, bs, bm, sn, sub, ab, col, dd, k0, k1, k2, k3, k5, ho, ht⟩
    · cases q
  · cases q
def xoB (K : PySem.W.Frag) (x f : Str) : Bool :=
  oexB0 K (He.ga K x) && (decide (PySem.W.findIn K (.ref (He.ga K x)) "__setattr__" = some (some (.builtin "object.__setattr__"))) && (decide (PySem.W.subIn K (.ref (He.ga K x)) (.type "BaseException") = some true) && (decide (PySem.W.typeIn K (.ref (He.ga K x)) = some (.type "type")) && (PySem.W.keepIn K (.ref (He.ga K x)) &&
    (decide (PySem.W.findIn K (.ref (He.ga K x)) "__init__" = some (some (.ref (He.ma K (He.ga K x) "__init__")))) && (decide (PySem.W.typeIn K (.ref (He.ma K (He.ga K x) "__init__")) = some (.type "function")) && (decide (PySem.W.findIn K (.ref (He.ga K x)) f = some none) && xfB K (He.ga K x))))))))
theorem xo_of {K : PySem.W.Frag} {h : Heap} {mg : Str → Option Value} {x f qual : Str} {params : Arguments} {scope : Scope} {fd : FuncData} {p p' p2 pos : Pos} (gx : mg x = some (.ref (He.ga K x))) (c : xoB K x f = true)
    (F : FunD K "__init__" qual params [.Assign [.Attribute (.Name "self" p) f p'] (.Name f p2) pos] scope [] [] (He.ma K (He.ga K x) "__init__") fd) (S : FnScope ["self", f] ["self", f] scope) (b : Binds K fd ["self", f] [])
    (h1 : (f == ("__debug__" : Str)) = false := by decide) (h2 : (f == ("__classdict__" : Str)) = false := by decide) : XoF K mg x f := by
  unfold xoB at c
  simp only [Bool.and_eq_true, decide_eq_true_eq] at c
  obtain ⟨c1, c2, c3, c4, c5, c6, c7, c8, c9⟩ := c
  exact ⟨_, _, fd, qual, params, scope, p, p', p2, pos, gx, ⟨oexB0_ok c1, c2, c3, c4, c5⟩, c6, c7, F, S, b, c8, xfB_ok c9, h1, h2⟩
end Dl
namespace Dl
open PySem PySem.Spec PyProof.Rows L2 NdefX
namespace K02
def top (i : Nat) : Stmt := PySem.Challenge.pw_sealedplans_k02_whole_sizes_doors_and_na.main.body.getD i (.Pass ⟨0, 0, 0, 0⟩)
def fnH : List He.DefD := [⟨("is_integer", none), "is_integer", "is_integer", defArgs (top 9), defBody (top 9), defScope (top 9), [], []⟩, ⟨("is_within", none), "is_within", "is_within", defArgs (top 10), defBody (top 10), defScope (top 10), [], []⟩, ⟨("is_pair", none), "is_pair", "is_pair", defArgs (top 11), defBody (top 11), defScope (top 11), [], []⟩, ⟨("is_triple", none), "is_triple", "is_triple", defArgs (top 12), defBody (top 12), defScope (top 12), [], []⟩, ⟨("is_word", none), "is_word", "is_word", defArgs (top 13), defBody (top 13), defScope (top 13), [], []⟩, ⟨("is_door", none), "is_door", "is_door", defArgs (top 14), defBody (top 14), defScope (top 14), [], []⟩, ⟨("is_part", none), "is_part", "is_part", defArgs (top 15), defBody (top 15), defScope (top 15), [], []⟩, ⟨("is_plan_in", none), "is_plan_in", "is_plan_in", defArgs (top 16), defBody (top 16), defScope (top 16), [], []⟩, ⟨("check_plan", none), "check_plan", "check_plan", defArgs (top 17), defBody (top 17), defScope (top 17), [], []⟩, ⟨("check_two", none), "check_two", "check_two", defArgs (top 18), defBody (top 18), defScope (top 18), [], []⟩, ⟨("check_word", none), "check_word", "check_word", defArgs (top 19), defBody (top 19), defScope (top 19), [], []⟩, ⟨("part_size", none), "part_size", "part_size", defArgs (top 23), defBody (top 23), defScope (top 23), [], []⟩, ⟨("size_of", none), "size_of", "size_of", defArgs (top 24), defBody (top 24), defScope (top 24), [], []⟩, ⟨("size", none), "size", "size", defArgs (top 25), defBody (top 25), defScope (top 25), [], []⟩, ⟨("parts_within", none), "parts_within", "parts_within", defArgs (top 26), defBody (top 26), defScope (top 26), [], []⟩, ⟨("items_in", none), "items_in", "items_in", defArgs (top 27), defBody (top 27), defScope (top 27), [], []⟩, ⟨("nesting", none), "nesting", "nesting", defArgs (top 28), defBody (top 28), defScope (top 28), [], []⟩, ⟨("check_room", none), "check_room", "check_room", defArgs (top 29), defBody (top 29), defScope (top 29), [], []⟩, ⟨("roomy", none), "roomy", "roomy", defArgs (top 30), defBody (top 30), defScope (top 30), [], []⟩, ⟨("all_items", none), "all_items", "all_items", defArgs (top 31), defBody (top 31), defScope (top 31), [], []⟩, ⟨("nested", none), "nested", "nested", defArgs (top 32), defBody (top 32), defScope (top 32), [], []⟩, ⟨("doors_of", none), "doors_of", "doors_of", defArgs (top 33), defBody (top 33), defScope (top 33), [], []⟩, ⟨("labels_of", none), "labels_of", "labels_of", defArgs (top 34), defBody (top 34), defScope (top 34), [], []⟩, ⟨("doors", none), "doors", "doors", defArgs (top 35), defBody (top 35), defScope (top 35), [], []⟩, ⟨("names", none), "names", "names", defArgs (top 36), defBody (top 36), defScope (top 36), [], []⟩, ⟨("marks", none), "marks", "marks", defArgs (top 37), defBody (top 37), defScope (top 37), [], []⟩, ⟨("mapped", none), "mapped", "mapped", defArgs (top 38), defBody (top 38), defScope (top 38), [], []⟩, ⟨("raised", none), "raised", "raised", defArgs (top 39), defBody (top 39), defScope (top 39), [], []⟩, ⟨("replaced", none), "replaced", "replaced", defArgs (top 40), defBody (top 40), defScope (top 40), [], []⟩, ⟨("roomy_replaced", none), "roomy_replaced", "roomy_replaced", defArgs (top 41), defBody (top 41), defScope (top 41), [], []⟩, ⟨("beside", none), "beside", "beside", defArgs (top 42), defBody (top 42), defScope (top 42), [], []⟩, ⟨("put", none), "put", "put", defArgs (top 43), defBody (top 43), defScope (top 43), [], []⟩, ⟨("check_mark", none), "check_mark", "check_mark", defArgs (top 44), defBody (top 44), defScope (top 44), [], []⟩, ⟨("mark_put", none), "mark_put", "mark_put", defArgs (top 45), defBody (top 45), defScope (top 45), [], []⟩, ⟨("_law_tape", none), "_law_tape", "_law_tape", defArgs (top 47), defBody (top 47), defScope (top 47), [], []⟩, ⟨("_law_pick", none), "_law_pick", "_law_pick", defArgs (top 48), defBody (top 48), defScope (top 48), [], []⟩, ⟨("_law_plan", none), "_law_plan", "_law_plan", defArgs (top 49), defBody (top 49), defScope (top 49), [], []⟩, ⟨("_law_part", none), "_law_part", "_law_part", defArgs (top 50), defBody (top 50), defScope (top 50), [], []⟩, ⟨("_law_part_size", none), "_law_part_size", "_law_part_size", defArgs (top 51), defBody (top 51), defScope (top 51), [], []⟩, ⟨("_law_size", none), "_law_size", "_law_size", defArgs (top 52), defBody (top 52), defScope (top 52), [], []⟩, ⟨("_law_parts", none), "_law_parts", "_law_parts", defArgs (top 53), defBody (top 53), defScope (top 53), [], []⟩, ⟨("_law_great", none), "_law_great", "_law_great", defArgs (top 54), defBody (top 54), defScope (top 54), [], []⟩, ⟨("_law_all", none), "_law_all", "_law_all", defArgs (top 55), defBody (top 55), defScope (top 55), [], []⟩, ⟨("_law_deep", none), "_law_deep", "_law_deep", defArgs (top 56), defBody (top 56), defScope (top 56), [], []⟩, ⟨("law", none), "law", "law", defArgs (top 57), defBody (top 57), defScope (top 57), [], []⟩, ⟨("TooMany", some "__init__"), "__init__", "TooMany.__init__", defArgs (clsAt 0 (top 5)), defBody (clsAt 0 (top 5)), defScope (clsAt 0 (top 5)), [], []⟩]
def faH : List He.Fa := [.glo "is_integer", .glo "is_within", .glo "is_pair", .glo "is_triple", .glo "is_word", .glo "is_door", .glo "is_part", .glo "is_plan_in", .glo "check_plan", .glo "check_two", .glo "check_word", .glo "part_size", .glo "size_of", .glo "size", .glo "parts_within", .glo "items_in", .glo "nesting", .glo "check_room", .glo "roomy", .glo "all_items", .glo "nested", .glo "doors_of", .glo "labels_of", .glo "doors", .glo "names", .glo "marks", .glo "mapped", .glo "raised", .glo "replaced", .glo "roomy_replaced", .glo "beside", .glo "put", .glo "check_mark", .glo "mark_put", .glo "_law_tape", .glo "_law_pick", .glo "_law_plan", .glo "_law_part", .glo "_law_part_size", .glo "_law_size", .glo "_law_parts", .glo "_law_great", .glo "_law_all", .glo "_law_deep", .glo "law", .free "all", .free "bool", .free "int", .free "isinstance", .free "len", .free "list", .free "max", .free "range", .free "sorted", .free "str", .free "sum", .free "tuple", .str "SMALL" "abcdefghijklmnopqrstuvwxyz", .int "MOST_WORD" 8, .int "MOST_ITEMS" 5000, .int "MOST_NESTED" 120, .glo "NoMark", .glo "NoPlan", .glo "NoWord", .glo "TooMany", .exc "NoMark", .exc "NoPlan", .exc "NoWord"]
def tsH : List He.Tab := []
def tqH : List (He.Defn × Str) := [(("raised", none), "raised.<locals>.lift"), (("replaced", none), "replaced.<locals>.<lambda>")]
abbrev tfH : List He.Defn := tqH.map (·.1)
def exH (K : PySem.W.Frag) : Bool := apart K tfH && xoB K "TooMany" "most"
abbrev R : PySem.W.OpenRow := PySem.W.OpenLaw.row PySem.Challenge.rw_sealedplans_k02_whole_sizes_doors_and_na
abbrev hkH : PySem.W.Hook := He.hookX 4 faH fnH tsH tfH exH
def obH (s : PySem.W.SharedT) : He.AlX := He.obsX 4 faH fnH tsH tfH exH (HandSHeadRun.getT s)
theorem obH_eq (s : PySem.W.SharedT) : obH s = hkH.obs s.abs := He.obsX_eq (HandSHeadRun.getT_eq s)
def loose0 : List Str := ["PlanError", "NoPlan", "NoWord", "NoMark", "TooMany", "SMALL", "MOST_WORD", "is_integer", "is_within", "is_pair", "is_triple", "is_word", "is_door", "is_part", "is_plan_in", "check_plan", "check_two", "check_word", "MOST_ITEMS", "MOST_NESTED", "part_size", "size_of", "size", "parts_within", "items_in", "nesting", "check_room", "roomy", "all_items", "nested"]
def loose1 : List Str := ["doors_of", "labels_of", "doors", "names", "marks", "mapped", "raised", "replaced", "roomy_replaced", "beside", "put", "check_mark", "mark_put", "_law_tape", "_law_pick", "_law_plan", "_law_part", "_law_part_size", "_law_size", "_law_parts", "_law_great", "_law_all", "_law_deep"]
abbrev looseH : List Str := loose0 ++ loose1
theorem runHf (w : PySem.World) : HandSHeadRun.RunEq R (PySem.W.view R.prog [57]) hkH obH 6000 looseH (w.withFollow "special-get-raises" false) := by
  intro os
  kernel_rfl
theorem runHt (w : PySem.World) : HandSHeadRun.RunEq R (PySem.W.view R.prog [57]) hkH obH 6000 looseH (w.withFollow "special-get-raises" true) := by
  intro os
  kernel_rfl
theorem runH (w : PySem.World) : HandSHeadRun.RunEq R (PySem.W.view R.prog [57]) hkH obH 6000 looseH w :=
  PySem.W.byRow2 "special-get-raises" (P := fun w => HandSHeadRun.RunEq R (PySem.W.view R.prog [57]) hkH obH 6000 looseH w) runHf runHt w
end K02
end Dl
namespace Dl
open PySem PySem.Spec PyProof.Rows L2 NdefX
def maxI : Int → List Int → Int
  | x, [] => x
  | x, y :: l => maxI (if y > x then y else x) l
theorem maxI_ge : ∀ (l : List Int) (x : Int), x ≤ maxI x l ∧ (∀ y ∈ l, y ≤ maxI x l) ∧ (maxI x l = x ∨ maxI x l ∈ l)
  | [], x => ⟨Int.le_refl _, by simp, .inl rfl⟩
  | y :: l, x => by
    obtain ⟨h1, h2, h3⟩ := maxI_ge l (if y > x then y else x)
    simp only [maxI]
    have a : x ≤ (if y > x then y else x) ∧ y ≤ (if y > x then y else x) ∧ ((if y > x then y else x) = x ∨ (if y > x then y else x) = y) := by
      split <;> omega
    refine ⟨by omega, fun z hz => ?_, ?_⟩
    · rcases List.mem_cons.mp hz with rfl | hz
      · omega
      · exact h2 z hz
    · rcases h3 with h | h
      · rcases a.2.2 with q | q
        · left; omega
        · right; rw [h, q]; exact .head _
      · exact .inr (.tail _ h)
theorem max_is {x m : Int} {l : List Int} (hm : m ∈ x :: l) (h : ∀ y ∈ x :: l, y ≤ m) : m = maxI x l := by
  obtain ⟨h1, h2, h3⟩ := maxI_ge l x
  have a : maxI x l ≤ m := by
    rcases h3 with q | q
    · rw [q]; exact h x (.head _)
    · exact h _ (.tail _ q)
  have b : m ≤ maxI x l := by
    rcases List.mem_cons.mp hm with rfl | q
    · exact h1
    · exact h2 m q
  omega
theorem max_rawT {prog : Program} {w : PySem.World} {A : Around} {E : Value → Shared → Prop} {s : Shared} {l : Addr} {its : List Value} {ns : List Int} {Q : Value → Shared → Prop} (hh : A.handled = none) (hl : s.heap.IsTuple l its.toArray) (hi : IntsAre its ns) (hne : 0 < ns.length)
    (h : ∀ h' tk M t', (∀ b o, s.heap.get? b = some o → h'.get? b = some o) → M ∈ ns → (∀ a, a ∈ ns → a ≤ M) → Q (.int M t') { s with heap := h', toks := tk }) : wpAny (model prog w) A (call (.builtin "max") [.ref l]) Q E s := by
  obtain ⟨xs, e⟩ := hi.allInts.items
  have hn : numsOf (intItems xs).toList = ns := by rw [← e]; exact hi.numsOf
  rw [nums_intItems] at hn
  subst hn
  rw [e] at hl
  have hsz : 0 < xs.size := by simpa using hne
  refine call_max_walkH (PySem.W.iter_tupleW (A := A.in1) hh hl fun s₂ e2 W st hfp hw hk => ?_)
  refine ⟨_, _, _, _, _, _, _, s.heap, _, rfl, W, st, hfp, by simpa [intItems] using hsz, hw, hk, (fun i j vi vj s Q E _ hi hj q => CmpOf.ints_gt (numAt xs) (fun _ _ => intItems_at) i j vi vj s Q E hi hj q), fun v s' hP m => ?_⟩
  obtain ⟨h', tk, rfl, hk'⟩ := PySem.W.moved_old e2 rfl m
  have hv : (intItems xs)[argBest (fun i j => decide (numAt xs i > numAt xs j)) (xs.size - 1)]? = some v := by simpa [intItems] using hP
  obtain ⟨t, rfl⟩ := intItems_at hv
  obtain ⟨h1, h2⟩ := argBest_gt (numAt xs) (xs.size - 1)
  refine h h' tk _ t hk' ?_ fun a ha => ?_
  · rw [numAt_eq]; exact PySem.getD_mem (by rw [List.length_map, Array.length_toList]; omega)
  · obtain ⟨j, hj, rfl⟩ := mem_getD ha
    rw [List.length_map, Array.length_toList] at hj
    rw [← numAt_eq]; exact h2 j (by omega)
def rMaxT (K : PySem.W.Frag) : List V → Hp → VK → Prop := fun vs H Q => rMax K vs H Q ∨ ∃ (a : Addr) (ns : List Int), vs = [V.ref a] ∧ SqT K H a (ns.map V.int) ∧ 0 < ns.length ∧ ∀ m, m ∈ ns → (∀ y, y ∈ ns → y ≤ m) → Q (.int m) H
theorem cr_maxT {X : Cx} (hc : X.calm = true) : CallR X (.builtin "max") (rMaxT X.K) := by
  intro pins s σ H vs us Q I r h
  rcases h with h | h
  · exact cr_max hc pins s σ H vs us Q I r h
  · obtain ⟨a, ns, rfl, hs, hne, q⟩ := h
    obtain ⟨its, rv, hl, _⟩ := I.tuple hs
    rw [Vals.ref1 r]
    exact max_rawT (I.ok.hd hc) hl rv.ints hne fun h' tk m t' hk h1 h2 => ⟨.int _, H, I.kept hk, ⟨_, rfl⟩, q m h1 h2⟩
def cMax1 : List D → Option RV
  | [.lst l] => (match intsOf l with
    | some (x :: r) => some (.dat (.int (maxI x r)))
    | _ => none)
  | [.tup l] => (match intsOf l with
    | some (x :: r) => some (.dat (.int (maxI x r)))
    | _ => none)
  | _ => none
section
variable {X : Cx}
theorem cs_max1 (hc : X.calm = true) : CaS X (.builtin "max") cMax1 := by
  refine ⟨_, cr_maxT hc, fun xs ds rv H F fh nt p h Q q => ?_⟩
  unfold cMax1 at h
  split at h
  · rename_i l
    split at h
    · rename_i x r e
      simp only [Option.some.injEq] at h; subst h
      cases p with
      | cons h1 h2 =>
        cases h2
        obtain ⟨hz, a, vs, e1, h3, h4⟩ := h1
        subst e1
        rw [ints_at h4 e] at h3
        exact .inl ⟨a, x :: r, rfl, h3, by simp, fun m hm hy => by rw [max_is hm hy]; exact new_val fh nt q (.int _)⟩
    · cases h
  · rename_i l
    split at h
    · rename_i x r e
      simp only [Option.some.injEq] at h; subst h
      cases p with
      | cons h1 h2 =>
        cases h2
        cases h1 with
        | tup hz h3 h4 =>
          rw [ints_at h4 e] at h3
          exact .inr ⟨_, x :: r, rfl, sqT_mono fh h3, by simp, fun m hm hy => by rw [max_is hm hy]; exact new_val fh nt q (.int _)⟩
    · cases h
  · cases h
end
def dFrz (e : Ex) : Ex := fun env w => (e env w).bind fun r w1 => match r.arg with
  | some (.dat d) => .ok (.dat d) w1
  | some (.wref k) => .ok (.wref k) w1
  | _ => .stuck
section
variable {X : Cx} {T : Tbs} {Wi : WX} {e : Expr} {d : Ex}
@[simp] theorem dFrz_ap {env : Ev} {w : World} : dFrz d env w = (d env w).bind fun r w1 => match r.arg with
  | some (.dat d) => .ok (.dat d) w1
  | some (.wref k) => .ok (.wref k) w1
  | _ => .stuck := rfl
end
section
variable {X : Cx} {T : Tbs} {Wi : WX} {pos : Pos}
end
end Dl
namespace Dl
open PySem PySem.Spec PyProof.Rows L2 NdefX
section
variable {X : Cx} {T : Tbs} {Wi : WX} {a f : Expr} {da : Ex} {pos : Pos}
def sPar (i j : Nat) (es : Exs) : Sd := fun env w => (es env w).bind fun rs w1 => match rs with
  | [.dat x, .dat y] => .ok (.nx ((env.set i (.dat x)).set j (.dat y))) w1
  | _ => .stuck
@[simp] theorem sPar_ap {i j : Nat} {es : Exs} {env : Ev} {w : World} : sPar i j es env w = (es env w).bind fun rs w1 => match rs with
  | [.dat x, .dat y] => .ok (.nx ((env.set i (.dat x)).set j (.dat y))) w1
  | _ => .stuck := rfl
end
end Dl
namespace Dl
open PySem PySem.Spec PyProof.Rows L2 NdefX
instance decMemKey (k : Key) (es : List Key) : Decidable (k ∈ es) := decidable_of_iff ((es.any fun z => decide (z = k)) = true) (by simp)
def kD : Key → D
  | .inl i => .int i
  | .inr s => .str s
def KOk : Key → Prop
  | .inl _ => True
  | .inr s => SOk s
def keysOf : List D → Option (List Key)
  | [] => some []
  | .str s :: l => (keysOf l).map (Sum.inr s :: ·)
  | .int i :: l => (keysOf l).map (Sum.inl i :: ·)
  | _ :: _ => none
theorem keysOf_cons {d : D} {l : List D} {zs : List Key} (h : keysOf (d :: l) = some zs) : ∃ k zs2, d = kD k ∧ keysOf l = some zs2 ∧ zs = k :: zs2 := by
  cases d <;> first | (simp only [keysOf] at h; cases h; done) | skip
  all_goals
    simp only [keysOf] at h
    obtain ⟨z, h1, h2⟩ := Option.map_eq_some_iff.mp h
    first
      | exact ⟨Sum.inl _, z, rfl, h1, h2.symm⟩
      | exact ⟨Sum.inr _, z, rfl, h1, h2.symm⟩
theorem keys_rp {K : PySem.W.Frag} {F : Hp} : ∀ {ks : List Key}, (∀ k ∈ ks, KOk k) → Paired (Rp K F) (ks.map kV) (ks.map kD)
  | [], _ => .nil
  | .inl i :: ks, h => .cons (.int i) (keys_rp fun z hz => h z (.tail _ hz))
  | .inr s :: ks, h => .cons (.str s (h (.inr s) (.head _))) (keys_rp fun z hz => h z (.tail _ hz))
def keysPut (es : List Key) (k : Key) : List Key := if k ∈ es then es else es ++ [k]
def entsK (ks : List Key) : List (Key × V) := ks.map fun k => (k, V.bl true)
theorem put_entsK {ks : List Key} {k : Key} : putK (entsK ks) k (V.bl true) = entsK (keysPut ks k) := by
  unfold putK keysPut
  have e : ((entsK ks).any fun kv => decide (kv.1 = k)) = decide (k ∈ ks) := by
    unfold entsK
    rw [List.any_map]
    induction ks with
    | nil => simp
    | cons z zs ih =>
      rw [List.any_cons, ih]
      simp [eq_comm]
  rw [e]
  by_cases h : k ∈ ks
  · rw [if_pos h, if_pos (by simpa using h)]
    unfold entsK
    rw [List.map_map]
    refine List.map_congr_left fun z hz => ?_
    show (if z = k then (z, V.bl true) else (z, V.bl true)) = _
    split <;> rfl
  · rw [if_neg h, if_neg (by simpa using h)]
    unfold entsK
    rw [List.map_append]
    rfl
theorem keysPut_len {ks : List Key} {k : Key} : (keysPut ks k).length ≤ ks.length + 1 := by
  unfold keysPut
  split
  · omega
  · simp
def leZ (a b : Int) : Bool := decide (a ≤ b)
def sortZ (l : List Int) : List Int := l.mergeSort leZ
theorem sortZ_of {ys xs : List Int} (p : ys.Perm xs) (h : ys.Pairwise (· ≤ ·)) : ys = sortZ xs := by
  have tr : ∀ a b c : Int, leZ a b = true → leZ b c = true → leZ a c = true := fun a b c h1 h2 => by
    unfold leZ at *
    simp only [decide_eq_true_eq] at *
    omega
  have tot : ∀ a b : Int, (leZ a b || leZ b a) = true := fun a b => by
    unfold leZ
    simp only [Bool.or_eq_true, decide_eq_true_eq]
    omega
  refine List.Perm.eq_of_pairwise (le := fun a b => leZ a b = true) (fun a b _ _ h1 h2 => ?_) (h.imp fun h => ?_) (List.pairwise_mergeSort tr tot xs) (p.trans (List.mergeSort_perm xs leZ).symm)
  · unfold leZ at *
    simp only [decide_eq_true_eq] at *
    omega
  · unfold leZ
    simp only [decide_eq_true_eq]
    exact h
def cSortA : List D → Option RV
  | [.lst l] => (match strsOf l with
    | some ss => if ss.length < 64 then some (.fresh ((sortS ss).map .str)) else none
    | none => (match intsOf l with
      | some ns => if ns.length < 64 then some (.fresh ((sortZ ns).map .int)) else none
      | none => none))
  | _ => none
section
variable {X : Cx}
theorem cs_sortA : CaS X (.builtin "sorted") cSortA := by
  refine ⟨_, cr_sortedS.or cr_sorted, fun xs ds rv H F fh nt p h Q q => ?_⟩
  cases p with
  | nil => cases h
  | @cons x d _ _ r t =>
    cases t with
    | cons _ _ => cases d <;> cases h
    | nil =>
      cases d <;> first | (cases h; done) | skip
      rename_i l
      simp only [cSortA] at h
      obtain ⟨hz, a, vs, rfl, hs, pp⟩ := r
      cases e : strsOf l with
      | some ss =>
        left
        rw [e] at h
        simp only at h
        split at h
        · rename_i h64
          cases h
          obtain ⟨rfl, ok, _⟩ := strs_at pp e
          refine ⟨a, ss, rfl, hs, h64, fun ys p perm so hp => ?_⟩
          have ey := sortS_of perm so
          subst ey
          have pm : (sortS ss).Perm ss := perm
          refine new_lst fh nt q hp ?_ (strs_rp fun s hs => ok s (pm.mem_iff.mp hs))
          rw [List.length_map, pm.length_eq, sizeLine_eq]
          omega
        · cases h
      | none =>
        right
        rw [e] at h
        simp only at h
        cases e2 : intsOf l with
        | none => rw [e2] at h; cases h
        | some ns =>
          rw [e2] at h
          simp only at h
          split at h
          · rename_i h64
            cases h
            have ev := ints_at pp e2
            subst ev
            refine ⟨a, ns, rfl, hs, h64, fun ys p perm so hp => ?_⟩
            have ey := sortZ_of perm so
            subst ey
            have pm : (sortZ ns).Perm ns := perm
            refine new_lst fh nt q hp ?_ (ints_rp _)
            rw [List.length_map, pm.length_eq, sizeLine_eq]
            omega
          · cases h
end
section
variable {X : Cx} {T : Tbs} {Wi : WX} {pos : Pos}
def dKeysA (src : Src) (vs : List Nat) (g : Tgt) (tt : Tst) (kx : Ex) : Ex := fun env w => (src env w).bind fun l w1 => (compGo g tt kx (wipeE env vs) l w1).bind fun xs w2 => match keysOf xs with
  | some ks => .ok (.fresh ((ks.foldl keysPut []).map kD)) w2
  | none => .stuck
theorem dk_readA {src : Src} {g : Tgt} {tt : Tst} {elt : Ex} {vs us : List Nat} (hvs : ∀ i ∈ us, i ∈ vs) {σ : St} {H : Hp} {Q : VK} (q : tD (Cx.tx X T) Wi (dKeysA src vs g tt elt) σ H Q) :
    tDc (tIt (Cx.tx X T) Wi src) (tG (Cx.tx X T) g us) (tT (Cx.tx X T) noW tt) (tD (Cx.tx X T) noW elt) (tC (.bl true)) vs σ H (fun x H1 => rListD [x] H1 Q) := by
  obtain ⟨B, env, w, F, O, M, s, q⟩ := q
  refine ⟨B, env, w, F, O, M, s, q.bind.imp fun l w1 q1 J H1 F1 M1 s1 st1 wk D hD => ?_⟩
  have q1 := q1.bind
  have hB : B.H D = none := by
    cases z : B.H D with
    | none => rfl
    | some o => exact absurd hD (s1.st.th D (by rw [z]; simp))
  have hH : H D = none := by
    cases z : H D with
    | none => rfl
    | some o => exact absurd hD (st1.th D (by rw [z]; simp))
  have hO : ∀ i k, env[i]? = some (.own k) → O i ≠ D := fun i k e z => by
    obtain ⟨_, _, _, _, _, ws, q', _⟩ := s.sl i _ e
    rw [z, hH] at q'; cases q'
  refine ⟨fun i m H' => m = l.length - i ∧ i ≤ l.length ∧ ∃ w' F' M' ks, ks.length ≤ i ∧ SR (Cx.tx X T) B env w' σ H' F' O M' ∧ Stp H F M H' F' M' ∧ Same F1 F' ∧ H' D = some (.dK (entsK ks)) ∧ F' D = none ∧ D ∉ M' ∧ (∀ k ∈ ks, KOk k) ∧
      Pst (compGo g tt elt (wipeE env vs) (l.drop i) w') (fun rest w2 => ∃ zs, keysOf rest = some zs ∧ ∀ v H2 F2 M2, SR (Cx.tx X T) B env w2 σ H2 F2 O M2 → Stp H F M H2 F2 M2 → RV.isAt (Cx.tx X T) H env O H2 F2 M2 v (.fresh ((zs.foldl keysPut ks).map kD)) → Q v H2) (fun _ _ _ => False), ⟨l.length, by simp, Nat.zero_le _, w1, F1, M1, [], Nat.le_refl _, ?_⟩, ?_⟩
  · have xt : Xt H1 F1 (upd H1 D (.dK [])) F1 := ⟨same_upd hD, Same.refl _, s1.fh.trans (same_upd hD), fun _ _ e => e, s1.nt⟩
    refine ⟨s1.xt xt, st1.trans xt.stp, Same.refl _, upd_same, s1.fh.free hD, fun z => s1.wr.there z hD, (by simp), ?_⟩
    rw [List.drop_zero]
    cases eg : compGo g tt elt (wipeE env vs) l w1 with
    | stuck => rw [eg] at q1; exact q1.elim
    | ok rest w2 =>
      rw [eg] at q1
      have q1 : Pst (match keysOf rest with
        | some ks => Out.ok (RV.fresh ((ks.foldl keysPut []).map kD)) w2
        | none => .stuck) _ _ := q1
      cases ez : keysOf rest with
      | none => rw [ez] at q1; exact q1.elim
      | some zs => rw [ez] at q1; exact ⟨zs, ez, fun v H2 F2 M2 s2 st2 r2 => q1 v H2 F2 M2 s2 st2 r2⟩
    | exc x e' w2 =>
      exfalso
      have nx : ∀ (l : List Dl.D) (w : World) (x : Exn) (e : Ev) (w2 : World), compGo g tt elt (wipeE env vs) l w ≠ .exc x e w2 := by
        intro l
        induction l with
        | nil => intro w x e w2 z; cases z
        | cons d ds ih =>
          intro w x e w2 z
          unfold compGo at z
          split at z
          · cases z
          · rename_i env1 _
            cases h1 : tt env1 w with
            | stuck => rw [h1] at z; cases z
            | exc _ _ _ => rw [h1] at z; cases z
            | ok b w3 =>
              rw [h1] at z
              simp only [noX_ok, bind_ok] at z
              split at z
              · cases h2 : elt env1 w3 with
                | stuck => rw [h2] at z; cases z
                | exc _ _ _ => rw [h2] at z; cases z
                | ok r w4 =>
                  rw [h2] at z
                  simp only [noX_ok, bind_ok] at z
                  split at z
                  · cases h3 : compGo g tt elt (wipeE env vs) ds w4 with
                    | stuck => rw [h3] at z; cases z
                    | exc a b c => exact ih _ _ _ _ h3
                    | ok a b => rw [h3] at z; cases z
                  · cases z
              · exact ih _ _ _ _ z
      exact nx l w1 x e' w2 eg
  · rintro i m H' ⟨rfl, hi, w', F', M', ks, hes, sr, st, sf, hDl, hFD, hMD, pd, qq⟩
    by_cases hlt : i < l.length
    · refine .inr ⟨wk.go i H' F' sf sr.fh hlt, fun H'' => i + 1 ≤ l.length ∧ ∃ w' F' M' ks, ks.length ≤ i + 1 ∧ SR (Cx.tx X T) B env w' σ H'' F' O M' ∧ Stp H F M H'' F' M' ∧ Same F1 F' ∧ H'' D = some (.dK (entsK ks)) ∧ F' D = none ∧ D ∉ M' ∧ (∀ k ∈ ks, KOk k) ∧
          Pst (compGo g tt elt (wipeE env vs) (l.drop (i + 1)) w') (fun rest w2 => ∃ zs, keysOf rest = some zs ∧ ∀ v H2 F2 M2, SR (Cx.tx X T) B env w2 σ H2 F2 O M2 → Stp H F M H2 F2 M2 → RV.isAt (Cx.tx X T) H env O H2 F2 M2 v (.fresh ((zs.foldl keysPut ks).map kD)) → Q v H2) (fun _ _ _ => False), fun H'' ⟨z1, z2⟩ => ⟨l.length - (i + 1), by omega, rfl, z1, z2⟩, fun x H2 hy => ?_⟩
      obtain ⟨F2, xt2, rx⟩ := wk.yld i H' F' x H2 l[i] sf sr.fh sr.nt hy (List.getElem?_eq_getElem hlt)
      have sr2 := sr.xt xt2
      rw [List.drop_eq_getElem_cons hlt] at qq
      unfold compGo at qq
      split at qq
      · exact qq.elim
      · rename_i env1 eg
        refine ⟨B, wipeE env vs, w', F2, O, M', l[i], env1, sr2.wipe vs, rx, eg, fun σ2 s2 hw => ⟨?_, ?_⟩⟩
        · rw [hw vs hvs]
          have idem : ∀ us : List Nat, (∀ i ∈ us, i ∈ vs) → wipe (wipe σ vs) us = wipe σ vs := by
            intro us
            induction us with
            | nil => intro _; rfl
            | cons u us ih =>
              intro hu
              show (wipe (wipe σ vs) us).set u none = wipe σ vs
              rw [ih fun i hi => hu i (List.mem_cons_of_mem _ hi)]
              have hu' := hu u List.mem_cons_self
              have : ∀ {ws : List Nat}, u ∈ ws → (wipe σ ws).set u none = wipe σ ws := by
                intro ws
                induction ws with
                | nil => intro h; cases h
                | cons a ws ih2 =>
                  intro h
                  show ((wipe σ ws).set a none).set u none = (wipe σ ws).set a none
                  by_cases ha : a = u
                  · subst ha; rw [List.set_set]
                  · rcases List.mem_cons.mp h with z | z
                    · exact absurd z.symm ha
                    · rw [List.set_comm _ _ ha, ih2 z]
              exact this hu'
          exact idem vs fun _ h => h
        · have qt := qq.bind.noX (b' := badX (Cx.tx X T) B noW)
          refine ⟨B, env1, w', F2, O, M', s2, qt.imp fun b w3 q3 H3 F3 M3 s3 st3 => ?_⟩
          have sr3 := sr2.step st3 s3.fh s3.nt s3.wr s3.tb
          have hDl3 : H3 D = some (.dK (entsK ks)) := st3.fr D _ (fun z => absurd z hMD) (fun _ z => by cases z) (xt2.hh _ _ hDl)
          have hMD3 : D ∉ M3 := notM' st3 hMD (by rw [xt2.hh _ _ hDl]; simp)
          have hFD2 : F2 D = none := xt2.nf D (by rw [hDl]; simp) hFD
          have hFD3 : F3 D = none := st3.nf D (by rw [xt2.hh _ _ hDl]; simp) hFD2
          have st03 := (st.trans xt2.stp).trans st3
          cases b with
          | false =>
            simp only [Bool.false_eq_true, if_false] at q3 ⊢
            exact ⟨hlt, w3, F3, M3, ks, by omega, sr3, st03, (sf.trans xt2.ff).trans st3.fg, hDl3, hFD3, hMD3, pd, q3⟩
          | true =>
            simp only [if_true] at q3 ⊢
            have qe := q3.bind.noX (b' := badX (Cx.tx X T) B noW)
            refine ⟨B, env1, w3, F3, O, M3, s3, qe.imp fun r w4 q4 y H4 F4 M4 s4 st4 r4 => ?_⟩
            split at q4
            · rename_i d ed
              obtain ⟨F5, s5, st5, a5⟩ := keep_arg s3 s4 st4 r4 (st_arg ed)
              have hDl4 : H4 D = some (.dK (entsK ks)) := st5.fr D _ (fun z => absurd z hMD3) (fun _ z => by cases z) hDl3
              have hMD4 : D ∉ M4 := notM' st5 hMD3 (by rw [hDl3]; simp)
              have hFD5 : F5 D = none := st5.nf D (by rw [hDl3]; simp) hFD3
              have sr5 := sr3.step st5 s5.fh s5.nt s5.wr s5.tb
              have st05 := st03.trans st5
              cases eg2 : compGo g tt elt (wipeE env vs) (l.drop (i + 1)) w4 with
              | stuck => rw [eg2] at q4; exact q4.elim
              | exc a b c => rw [eg2] at q4; exact q4.elim
              | ok rest w5 =>
                rw [eg2] at q4
                obtain ⟨zs, ez, qv⟩ := q4
                obtain ⟨k, zs2, ed2, ez2, ez3⟩ := keysOf_cons ez
                subst ed2 ez3
                · have hyk : y = kV k ∧ KOk k := by
                    cases k with
                    | inl i => cases a5; exact ⟨rfl, trivial⟩
                    | inr z => cases a5 with
                      | str _ ok => exact ⟨rfl, ok⟩
                  have sr6 := sr5.updFreeK (ws := entsK (keysPut ks k)) hDl4 hB hFD5 hMD4 hO
                  have hbd := wk.bd
                  have hel : (entsK ks).length ≤ i := by unfold entsK; rw [List.length_map]; exact hes
                  refine ⟨entsK ks, k, hyk.1, hDl4, by omega, ?_⟩
                  rw [put_entsK]
                  refine ⟨hlt, w4, F5, M4, keysPut ks k, Nat.le_trans keysPut_len (by omega), sr6, ?_, ((sf.trans xt2.ff).trans st3.fg).trans st5.fg, upd_same, hFD5, hMD4, fun z hz => ?_, ?_⟩
                  · exact ⟨st05.fg, fun a o hM' ht q' => by
                      have := st05.fr a o hM' ht q'
                      have na : a ≠ D := fun z => by subst z; rw [hH] at q'; cases q'
                      rw [upd_ne na]; exact this, fun a h => by
                      by_cases z : a = D
                      · subst z; rw [upd_same]; simp
                      · rw [upd_ne z]; exact st05.th a h, st05.nf, st05.mw⟩
                  · unfold keysPut at hz
                    split at hz
                    · exact pd z hz
                    · rcases List.mem_append.mp hz with h1 | h1
                      · exact pd z h1
                      · rw [List.mem_singleton.mp h1]; exact hyk.2
                  · rw [eg2]
                    exact ⟨zs2, ez2, qv⟩
            · exact q4.elim
    · have hil : i = l.length := by omega
      subst hil
      refine .inl ⟨wk.stop _ H' F' sf sr.fh (Nat.le_refl _), ?_⟩
      rw [List.drop_length] at qq
      obtain ⟨zs, ez, qq'⟩ := qq
      cases ez
      refine ⟨D, entsK ks, rfl, hDl, fun p hp => ?_⟩
      have ek : (entsK ks).map (fun kv => kV kv.1) = ks.map kV := by unfold entsK; rw [List.map_map]; rfl
      rw [ek]
      have xt := Xt.newL (vs := ks.map kV) sr.fh sr.nt hp
      have hHp : H p = none := by
        cases z : H p with
        | none => rfl
        | some o => exact absurd hp (st.th p (by rw [z]; simp))
      have bd := wk.bd
      exact qq' _ _ F' M' (sr.xt xt) (st.trans xt.stp) ⟨by simpa using Nat.le_trans hes bd, p, ks.map kV, rfl, hHp, sr.fh.free hp, fun z => sr.wr.there z hp, upd_same, keys_rp pd⟩
theorem je_keysA {kx tg iter : Expr} {ifs : List Expr} {scope : Scope} {own : List (Str × Nat)} {src : Src} {g : Tgt} {tt : Tst} {dk : Ex} {us vs : List Nat} {p dpos cpos : Pos} {j : Nat} (hc : X.calm = true) (hN : X.N.Nodup) (hgl : Gl X "list") (hml : X.mg "list" = none) (hi : JI X T Wi tg iter src) (ok : BlkOk X.N X.env.scope scope own)
    (hv : own.map (·.2) = vs) (hvs : ∀ i ∈ us, i ∈ vs)
    (hg : ∀ (s : Shared) (H : Hp) (C : Addr) (cl : List (Str × Addr)) (fp : List Addr), JG (X.blk s H scope (compEnvC scope cl C X.env) fp) T tg g us)
    (ht : ∀ (s : Shared) (H : Hp) (C : Addr) (cl : List (Str × Addr)) (fp : List Addr), JTs (X.blk s H scope (compEnvC scope cl C X.env) fp) T ifs tt)
    (hk : ∀ (s : Shared) (H : Hp) (C : Addr) (cl : List (Str × Addr)) (fp : List Addr), JE (X.blk s H scope (compEnvC scope cl C X.env) fp) T noW kx dk) (hs : ∀ x, foldedSetIterable iter X.env x = pure x := by intro _; rfl)
    (he : starEach [.DictComp kx (.Constant (.bool true) j cpos) [⟨tg, iter, ifs, 0⟩] scope dpos] X.env = (false, eval (.DictComp kx (.Constant (.bool true) j cpos) [⟨tg, iter, ifs, 0⟩] scope dpos) X.env) :: starEach [] X.env := by rfl) (hpl : (backTo pos (starEach [] X.env)).any (·.1) = false := by rfl) :
    JE X T Wi (.Call (.Name "list" p) [.DictComp kx (.Constant (.bool true) j cpos) [⟨tg, iter, ifs, 0⟩] scope dpos] [] pos) (dKeysA src vs g tt dk) := by
  subst hv
  refine (pe_callTy (call_list_dK hc) hgl hml (by decide +kernel) (pa_cons (pe_dc (g := tG (Cx.tx X T) g us) (tt := tT (Cx.tx X T) noW tt) (tk := tD (Cx.tx X T) noW dk) (tv := tC (.bl true)) hc hN hi ok hg ht hk (fun _ _ _ _ _ => pe_bl) hs) pa_nil he) (by decide) (by decide) he hpl).impD fun σ H Q q => ?_
  exact dk_readA hvs q
@[simp] theorem dKeysA_ap {src : Src} {vs : List Nat} {g : Tgt} {tt : Tst} {kx : Ex} {env : Ev} {w : World} : dKeysA src vs g tt kx env w = (src env w).bind fun l w1 => (compGo g tt kx (wipeE env vs) l w1).bind fun xs w2 => match keysOf xs with
  | some ks => .ok (.fresh ((ks.foldl keysPut []).map kD)) w2
  | none => .stuck := rfl
end
end Dl
namespace Dl
open PySem PySem.Spec PyProof.Rows L2 NdefX
section
variable {X : Cx} {pins : List (Addr × Obj)} {σ : St} {H : Hp} {s : Shared}
end
section
variable {X : Cx}
end
end Dl
namespace Dl
open PySem PySem.Spec PyProof.Rows L2 NdefX
def whileGo : Nat → Tst → Sd → Sd
  | 0, _, _ => fun _ _ => .stuck
  | n + 1, t, b => fun env w => (t env w).bind fun k w1 => if k = true then (b env w1).bind fun f w2 => (match f with
    | .nx e => whileGo n t b e w2
    | .ct e => whileGo n t b e w2
    | .bk e => .ok (.nx e) w2
    | .rt r => .ok (.rt r) w2) else .ok (.nx env) w1
def fuelN : Nat := 2 ^ 64
def sWhile (t : Tst) (b : Sd) : Sd := fun env w => whileGo fuelN t b env w
section
variable {X : Cx} {T : Tbs} {Wi : WX} {pos : Pos} {b : Sd}
end
end Dl
namespace Dl
open PySem PySem.Spec PyProof.Rows L2 NdefX
def sInsert (i : Nat) (a e : Ex) : Sd := fun env w => match env[i]? with
  | some (.own l) => (a env w).bind fun ra w1 => (match ra with
    | .dat (.int n) => (e env w1).bind fun r w2 => (match r.st with
      | some d => if 0 ≤ n ∧ n ≤ l.length ∧ l.length < 16777216 then .ok (.nx (env.set i (.own (l.take n.toNat ++ [d] ++ l.drop n.toNat)))) w2 else .stuck
      | none => .stuck)
    | _ => .stuck)
  | _ => .stuck
section
variable {X : Cx} {T : Tbs} {Wi : WX} {pos : Pos}
end
@[simp] theorem sInsert_ap {i : Nat} {a e : Ex} {env : Ev} {w : World} : sInsert i a e env w = (match env[i]? with
  | some (.own l) => (a env w).bind fun ra w1 => (match ra with
    | .dat (.int n) => (e env w1).bind fun r w2 => (match r.st with
      | some d => if 0 ≤ n ∧ n ≤ l.length ∧ l.length < 16777216 then .ok (.nx (env.set i (.own (l.take n.toNat ++ [d] ++ l.drop n.toNat)))) w2 else .stuck
      | none => .stuck)
    | _ => .stuck)
  | _ => .stuck) := rfl
@[simp] theorem sWhile_ap {t : Tst} {b : Sd} {env : Ev} {w : World} : sWhile t b env w = whileGo fuelN t b env w := rfl
end Dl
namespace Dl
open PySem PySem.Spec PyProof.Rows PySem.SeqAt PySem.W
open AutoSeq1 (wpAny_loadPart')
open MeetsSeq MeetsSeq2 MeetsSeq3 SeqRoads2
inductive First (A : Around) (s : Shared) : List Value → List Value → Bool → Prop
  | end0 : First A s [] [] false
  | endL {y : Value} {ws : List Value} : First A s [] (y :: ws) true
  | endR {x : Value} {us : List Value} : First A s (x :: us) [] false
  | same {x y : Value} {us ws : List Value} {k : Bool} : EqAt A s x y true → First A s us ws k → First A s (x :: us) (y :: ws) k
  | diff {x y : Value} {us ws : List Value} {k : Bool} : EqAt A s x y false → RcLt A s x y k → First A s (x :: us) (y :: ws) k
theorem First.stop {A : Around} {s : Shared} {us ws : List Value} {k : Bool} (h : First A s us ws k) (e : us = [] ∨ ws = []) : k = decide (us.length < ws.length) := by
  cases h with
  | end0 => rfl
  | endL => simp
  | endR => simp
  | same _ _ => rcases e with e | e <;> cases e
  | diff _ _ => rcases e with e | e <;> cases e
mutual
def pLt : PyData → PyData → Option Bool
  | .int i, .int j => some (decide (i < j))
  | .str x, .str y => some (decide (x.cps.toList < y.cps.toList))
  | .tuple k, .tuple l => pLts k l
  | _, _ => none
def pLts : List PyData → List PyData → Option Bool
  | [], [] => some false
  | [], _ :: _ => some true
  | _ :: _, [] => some false
  | x :: k, y :: l => if PyData.eqv x y = true then pLts k l else pLt x y
end
def tokLt (d e : PyData) : Bool := PyProof.Rows.lexLt itemOrd (keyToks d) (keyToks e)
def keyP : PyData → Bool
  | .tuple (.int _ :: _) => true
  | _ => false
section
variable {prog : Program} {w : PySem.World} {A : Around} {E : Value → Shared → Prop} {s : Shared}
end
end Dl
namespace Dl
open PySem PySem.Spec PyProof.Rows L2 NdefX
section
variable {X : Cx}
end
section
variable {X : Cx}
def gMulT : D → D → Option RV
  | .int i, .int j => gMul (.int i) (.int j)
  | .tup l, .int k => if 1 ≤ k ∧ k ≤ 1000 ∧ l.length ≤ 1000 then some (.dat (.tup (List.replicate k.toNat l).flatten)) else none
  | _, _ => none
end
@[simp] theorem gMulT_i {i j : Int} : gMulT (.int i) (.int j) = gMul (.int i) (.int j) := rfl
@[simp] theorem gMulT_t {l : List D} {k : Int} : gMulT (.tup l) (.int k) = if 1 ≤ k ∧ k ≤ 1000 ∧ l.length ≤ 1000 then some (.dat (.tup (List.replicate k.toNat l).flatten)) else none := rfl
def sAsg2 (g1 g2 : Tgt) (e : Ex) : Sd := fun env w => (e env w).bind fun r w1 => match r.arg with
  | some (.dat d) => (match g1 d env with
    | some env1 => (match g2 d env1 with
      | some env2 => .ok (.nx env2) w1
      | none => .stuck)
    | none => .stuck)
  | _ => .stuck
@[simp] theorem sAsg2_ap {g1 g2 : Tgt} {e : Ex} {env : Ev} {w : World} : sAsg2 g1 g2 e env w = (e env w).bind fun r w1 => match r.arg with
  | some (.dat d) => (match g1 d env with
    | some env1 => (match g2 d env1 with
      | some env2 => .ok (.nx env2) w1
      | none => .stuck)
    | none => .stuck)
  | _ => .stuck := rfl
end Dl
namespace Dl
open PySem PySem.Spec PyProof.Rows L2 NdefX
def gAddI : D → D → Option RV := fun d e => match d, e with
  | .int i, .int j => some (.dat (.int (i + j)))
  | _, _ => none
@[simp] theorem gAddI_i {i j : Int} : gAddI (.int i) (.int j) = some (.dat (.int (i + j))) := rfl
end Dl
namespace Dl
open PySem PySem.Spec PyProof.Rows L2 NdefX
end Dl
namespace Dl
open PySem PySem.Spec PyProof.Rows L2 NdefX
structure XcF (K : PySem.W.Frag) (mg : Str → Option Value) (x : Str) : Prop where
  ex : ∃ C, mg x = some (.ref C) ∧ PySem.W.excIn K C He.veBase "ValueError.__new__" = true ∧ PySem.W.keepIn K (.ref C) = true ∧ PySem.W.subIn K (.ref C) (.type "BaseException") = some true ∧ PySem.W.typeIn K (.ref C) = some (.type "type")
section
variable {X : Cx} {C : Addr} {bmB : List Value} {B newId initId : String}
theorem pmk_own0 {x : Str} {p pos : Pos} (F : ExcBaseFacts B newId initId bmB) (q : PySem.W.excIn X.K C bmB newId = true) (gC : X.mg x = some (.ref C)) (kC : PySem.W.keepIn X.K (.ref C) = true) (r : Raises X (.ref C)) (hg : Gl X x)
    (hdb : (x == ("__debug__" : Str)) = false := by decide) : L2N.PMk X (.Call (.Name x p) [] [] pos) (fun _ H Q => Q (.ref C) none H) := by
  intro pins s σ H Q I h
  refine wpAny_Call_Name_kw (ld_glob I hg gC ?_ hdb)
  refine PySem.W.callWith_K0 I.kIn kC ?_
  show wpAny _ _ (call (.ref C) []) _ _ _
  obtain ⟨bm, N, nm, qn, bs, hdct, sn, sub, ab, col, dd, k0, k1, k2, k3, k5, mN, hC, hN, hni, T⟩ := exc_obj I.kIn q
  refine wpAny_call_exc_subT F T hC hN hni (fun h' e hm => ?_) (Nat.zero_le _)
  exact L2N.mk_of I hm r h (I.hok.gone hm.new)
end
def sRaise (x : Str) : Sd := fun env w => .exc ⟨x, none⟩ env w
section
variable {X : Cx} {T : Tbs} {Wi : WX} {p pos pos' : Pos} {x : Str}
theorem js_raise (F : XcF X.K X.mg x) (hc : X.calm = true) (tk : L2N.Takes X Wi) (hg : Gl X x) (hdb : (x == ("__debug__" : Str)) = false := by decide) : JS X T Wi (.Raise (some (.Call (.Name x p) [] [] pos)) none pos') (sRaise x) := by
  obtain ⟨C, gC, q, kC, s1, s2⟩ := F.ex
  refine (L2N.ps_raise hc tk (pmk_own0 PySem.F.excBase_ValueError q gC kC (raises_own s1 s2) hg hdb)).impD fun D σ H q => ?_
  obtain ⟨B, env, w, F, O, M, s, q⟩ := q
  exact q (.ref C) none σ H F O M s ⟨C, gC, rfl, rfl⟩
end
section
variable {X : Cx} {T : Tbs} {Wi : WX} {pos p : Pos} {e : Expr} {es : List Expr} {d : Ex} {ds : Exs} {C : Cs} {n i : Nat} {x : Str}
def dCallQ (C : Cs) (i : Nat) (as : Exs) : Ex := fun env w => match as env w with
  | .ok rs w1 => withEnv env (C.call i rs w1)
  | _ => .stuck
end
def tryGo (mt : Str → Str → Option Bool) (x : Exn) : List (Str × Sd) → Sd
  | [], env, w => .exc x env w
  | (c, s) :: r, env, w => match mt x.cls c with
    | some true => (match s env w with
      | .exc _ _ _ => .stuck
      | o => o)
    | some false => tryGo mt x r env w
    | none => .stuck
section
variable {X : Cx} {T : Tbs} {Wi : WX} {pos pos1 : Pos} {e : Expr} {d : Ex} {h₀ : ExceptHandler} {hds : List ExceptHandler} {l : List (Str × Value × Sd)} {mt : Str → Str → Option Bool}
end
def mtL (tb : List (Str × Str × Bool)) (x c : Str) : Option Bool := (tb.find? fun t => decide (t.1 = x) && decide (t.2.1 = c)).map (·.2.2)
section
variable {prog : Program} {w : PySem.World} {A : Around} {E : Value → Shared → Prop} {s : Shared}
end
section
variable {X : Cx}
end
def gRev : D → Option RV
  | .lst l => some (.fresh l.reverse)
  | .tup l => some (.dat (.tup l.reverse))
  | _ => none
def dRev (e : Ex) : Ex := fun env w => (e env w).bind fun r w1 => match r.val with
  | some d => lift (gRev d) w1
  | none => .stuck
section
variable {X : Cx} {T : Tbs} {Wi : WX} {e : Expr} {d : Ex} {k : Nat} {p1 p2 p3 pos : Pos}
@[simp] theorem dRev_ap {env : Ev} {w : World} : dRev d env w = (d env w).bind fun r w1 => match r.val with
  | some d => lift (gRev d) w1
  | none => .stuck := rfl
@[simp] theorem gRev_l {l : List D} : gRev (.lst l) = some (.fresh l.reverse) := rfl
@[simp] theorem gRev_t {l : List D} : gRev (.tup l) = some (.dat (.tup l.reverse)) := rfl
@[simp] theorem sRaise_ap {x : Str} {env : Ev} {w : World} : sRaise x env w = .exc ⟨x, none⟩ env w := rfl
@[simp] theorem dCallQ_ap {C : Cs} {i : Nat} {as : Exs} {env : Ev} {w : World} : dCallQ C i as env w = match as env w with
  | .ok rs w1 => withEnv env (C.call i rs w1)
  | _ => .stuck := rfl
@[simp] theorem withEnv_exc {α : Type} (env e : Ev) (x : Exn) (w : World) : withEnv env (.exc x e w : Out α) = .exc x env w := rfl
@[simp] theorem endR_exc (x : Exn) (e : Ev) (w : World) : endR (.exc x e w) = .exc x e w := rfl
end
end Dl
namespace Dl
open PySem PySem.Spec PyProof.Rows L2 NdefX
def sReverse (i : Nat) : Sd := fun env w => match env[i]? with
  | some (.own l) => .ok (.nx (env.set i (.own l.reverse))) w
  | _ => .stuck
def dIndexD (rm : Nat) (e a : Ex) : Ex := fun env w => (e env w).bind fun r w1 => match r.arg with
  | some (.dat (.lst l)) => (a env w1).bind fun ra w2 => (match ra with
      | .dat d => if 65 ≤ rm ∧ (D.lst l).dep ≤ 64 ∧ d.dep ≤ 64 then (match l.findIdx? (fun z => z.eq d) with
        | some j => .ok (.dat (.int (j : Nat))) w2
        | none => .stuck) else .stuck
      | _ => .stuck)
  | _ => .stuck
section
variable {X : Cx} {T : Tbs} {Wi : WX} {pos : Pos} {e : Expr} {d : Ex}
end
@[simp] theorem sReverse_ap {i : Nat} {env : Ev} {w : World} : sReverse i env w = (match env[i]? with
  | some (.own l) => .ok (.nx (env.set i (.own l.reverse))) w
  | _ => .stuck) := rfl
@[simp] theorem dIndexD_ap {rm : Nat} {e a : Ex} {env : Ev} {w : World} : dIndexD rm e a env w = (e env w).bind fun r w1 => match r.arg with
  | some (.dat (.lst l)) => (a env w1).bind fun ra w2 => (match ra with
      | .dat d => if 65 ≤ rm ∧ (D.lst l).dep ≤ 64 ∧ d.dep ≤ 64 then (match l.findIdx? (fun z => z.eq d) with
        | some j => .ok (.dat (.int (j : Nat))) w2
        | none => .stuck) else .stuck
      | _ => .stuck)
  | _ => .stuck := rfl
def D.flat : D → Bool
  | .lst _ => false
  | .tup _ => false
  | .dic _ => false
  | _ => true
theorem Rp.flat {K : PySem.W.Frag} {F F' : Hp} {v : V} {d : D} (h : Rp K F v d) (e : d.flat = true) : Rp K F' v d := by
  cases h with
  | non => exact .non
  | bl b => exact .bl b
  | int i => exact .int i
  | str x hx => exact .str x hx
  | lst _ _ _ => cases e
  | tup _ _ _ => cases e
  | dic _ _ => cases e
def dCallL (C : Cs) (i : Nat) (as : Exs) : Ex := fun env w => (as env w).bind fun rs w1 => match vals rs with
  | some ds => if allL w1 = true then (match C.call i (ds.map .dat) [] with
    | .ok (.dat d) [] => if d.flat = true then .ok (.dat d) w1 else .stuck
    | _ => .stuck) else .stuck
  | none => .stuck
section
variable {X : Cx} {T : Tbs} {Wi : WX} {pos p : Pos} {e : Expr} {es : List Expr} {ds : Exs} {C : Cs} {n i : Nat} {x : Str}
end
@[simp] theorem dCallL_ap {C : Cs} {i : Nat} {as : Exs} {env : Ev} {w : World} : dCallL C i as env w = (as env w).bind fun rs w1 => match vals rs with
  | some ds => if allL w1 = true then (match C.call i (ds.map .dat) [] with
    | .ok (.dat d) [] => if d.flat = true then .ok (.dat d) w1 else .stuck
    | _ => .stuck) else .stuck
  | none => .stuck := rfl
end Dl
namespace Dl
open PySem PySem.Spec PyProof.Rows L2 NdefX
def spI (K : PySem.W.Frag) (C : Addr) (f : Str) : Sp := fun vs H Q _ => ∃ (a : Addr) (y : V), vs = [.ref a, y] ∧ OexC K C ∧ PySem.W.findIn K (.ref C) f = some none ∧ H a = some (exo a C none) ∧
  ∀ dx, H dx = none → dx ≠ a → Q .non (upd (upd H dx (exd dx [(f, y)])) a (exo a C (some dx)))
theorem init_ok {P : Program} {w : PySem.World} {K : PySem.W.Frag} {mg : Str → Option Value} {base : Heap} {C fI : Addr} {fd : FuncData} {qual f : Str} {params : Arguments} {scope : Scope} {p p' p2 pos : Pos}
    (F : FunD K "__init__" qual params [.Assign [.Attribute (.Name "self" p) f p'] (.Name f p2) pos] scope [] [] fI fd) (S : FnScope ["self", f] ["self", f] scope) (h1 : (f == ("__debug__" : Str)) = false) (h2 : (f == ("__classdict__" : Str)) = false) :
    FnOk P w K mg base CX0 1 fI fd ["self", f] (spI K C f) := by
  refine FunD.ok F S (fun vs H Q E h => ?_) fun cdv A outer s H vs Q E hr h => ?_
  · obtain ⟨a, y, e, _⟩ := h
    rw [e]
    rfl
  · obtain ⟨a, y, e, T, hno, ea, q⟩ := h
    subst e
    refine ⟨_, pss_one (ps_ost (to := tVar 0) (te := tVar 1) (pe_var (i := 0) rfl ((S.par _ (.head _)).imp_right .inl)) (pe_var (i := 1) rfl ((S.par _ (.tail _ (.head _))).imp_right .inl) h1 h2)), ?_⟩
    refine ⟨y, rfl, .ref a, rfl, a, C, rfl, T, hno, .inl ⟨ea, fun dx n ne => q dx n ne⟩⟩
theorem make_ctx {X : Cx} {CX : CXT} {x : Str} {C g0 : Addr} {k : Nat} {fd : FuncData} {ps : List Str} {sp : Sp} {e : Expr} {es : List Expr} {ta : TA} {p pos : Pos} (Tc : OexC X.K C) (ini : PySem.W.findIn X.K (.ref C) "__init__" = some (some (.ref g0)))
    (isf : PySem.W.typeIn X.K (.ref g0) = some (.type "function")) (Fi : FnOk X.prog X.w X.K X.mg X.base CX k g0 fd ps sp) (rm : Room (k + 1) X.A) (bi : Binds X.K fd ps []) (no : Passes CX X (fun _ _ _ => False)) (hg : Gl X x) (gx : X.mg x = some (.ref C))
    (args : PA X (e :: es) ta) (hdb : (x == ("__debug__" : Str)) = false := by decide) (he : starEach (e :: es) X.env = (false, eval e X.env) :: starEach es X.env := by rfl) (hpl : (backTo pos (starEach es X.env)).any (·.1) = false := by rfl) :
    L2N.PMk X (.Call (.Name x p) (e :: es) [] pos) (tMkO C sp [] ta) := by
  intro pn0 s0 τ G Q J want
  obtain ⟨n1, n2, n3, n4, n5, n6, n7, n8, n9, m1, m2, m3, m4, m5, m6, look, refs⟩ := Tc.cls
  refine wpAny_Call_Name_kw (ld_glob J hg gx ?_ hdb)
  refine PySem.W.callWith_K (h₀ := X.base) J.ok.mod.kin Tc.kC (thn (args.run pos pn0 s0 τ G _ J want) ?_) he hpl
  rintro us ⟨hp, gg, dr, tk, os⟩ ⟨vs, G1, J1, r1, few, q1⟩
  refine ⟨J1.kIn, ?_⟩
  show wpAny _ _ (call (.ref C) us) _ _ _
  have up1 : hp.objs.size ≤ hp.objs.size + 1 := Nat.le_succ _
  have free1 : G1 (hp.objs.size + 1) = none := J1.hok.fresh up1
  have sp1 := q1 (hp.objs.size + 1) free1
  generalize eh : (hp.push (PySem.W.kdv_tup us)).push (PySem.HandSPX.excO C hp.objs.size) = hp2
  have kept : ∀ b o, hp.get? b = some o → hp2.get? b = some o := fun b o z => eh ▸ Heap.get?_push_of_some _ (Heap.get?_push_of_some _ z)
  have there : hp2.get? (hp.objs.size + 1) = some (PySem.HandSPX.excO C hp.objs.size) := by
    subst eh
    heap_get
  have J2 : Inv X pn0 τ (upd G1 (hp.objs.size + 1) (exo (hp.objs.size + 1) C none)) ⟨hp2, gg, dr, tk, os⟩ := J1.laid (t' := tk) (o := exo (hp.objs.size + 1) C none) (h' := hp2) kept up1 (exo_ok there)
  have r2 : Vals (V.ref (hp.objs.size + 1) :: (vs ++ [])) (Value.ref (hp.objs.size + 1) :: (us ++ [])) := .cons rfl (r1.append .nil)
  have cnt : (Value.ref (hp.objs.size + 1) :: us ++ []).length = ps.length := (r2.length.symm.trans (Fi.len _ _ _ _ sp1))
  have few2 : us.length ≤ sizeLine := by
    have := Paired.length r1
    rw [sizeLine_eq]
    omega
  have room := rm.make C us []
  have bb := bi _ (Value.ref (hp.objs.size + 1) :: us) J2.kIn cnt
  rw [show Value.ref (hp.objs.size + 1) :: us ++ [] = Value.ref (hp.objs.size + 1) :: (us ++ []) by simp] at bb
  subst eh
  refine wpAny_call (PySem.HandSPX.call_own PySem.F.excBase_ValueError (fun Y => PySem.HandSPX.refsVE_contains Y n5 refs) (J1.kIn _ _ look) (PySem.W.looks_findIn J1.kIn ini) (fun self => PySem.W.bind_fn J1.kIn self isf) few2 (codeAny_mono
    (Fi.run _ X.stack _ _ ⟨Value.ref (hp.objs.size + 1) :: us, []⟩ (Value.ref (hp.objs.size + 1) :: (us ++ [])) _ _ (fun _ _ _ => False) room (J2.env0.make C us []) bb r2 sp1) ?_))
  rintro (er | fl) s' ends
  · exact no pn0 τ _ _ er s' J2 ends
  · cases fl with
    | next => exact ends.elim
    | brk => exact ends.elim
    | cont => exact ends.elim
    | ret u =>
      obtain ⟨v, G2, os2, bare2, un2, hok2, rv, ev, d, fs, ea, ed, hd1, q2⟩ := ends
      subst ev
      obtain ⟨h2, g2, d2, t2, os'⟩ := s'
      obtain ⟨t0, hg0, K0, kG, ge, hoe, na⟩ := mk_end0 (d2 := d2) (t2 := t2) J1 up1 kept un2 hok2 os2 bare2 ea ed hd1
      refine ⟨rv, _, _, _, ⟨hg0, g2, d2, t2, os'⟩, _, .ref C, some d, rfl, K0, kG, ge, hoe, ⟨rfl, rfl, fun ws e => ?_⟩, rfl, rfl, na, rfl, bare2, raises_own Tc.exC Tc.tyC, q2⟩
      cases e
      rfl
def sRaiseF (rm : Nat) (x f : Str) (ds : Exs) : Sd := fun env w => match ds env w with
  | .ok [.dat d] w1 => if 296 ≤ rm then .exc ⟨x, some (f, d)⟩ env w1 else .stuck
  | _ => .stuck
theorem Xt.newU {H F : Hp} {p : Addr} {o : HO} (h : Same F H) (nt : NoTbl F) (hp : H p = none) : Xt H F (upd H p o) F :=
  ⟨same_upd hp, Same.refl _, h.trans (same_upd hp), fun _ _ e => e, nt⟩
section
variable {X : Cx} {T : Tbs} {Wi : WX} {p pos pos' : Pos} {x f : Str} {e : Expr} {ds : Exs} {n : Nat}
theorem js_raiseF (F : XoF X.K X.mg x f) (hc : X.calm = true) (tk : L2N.Takes X Wi) (hr : RoomG n X.A) (hg : Gl X x) (h : JA X T Wi [e] ds) (hdb : (x == ("__debug__" : Str)) = false := by decide)
    (he : starEach [e] X.env = (false, eval e X.env) :: starEach [] X.env := by rfl) (hpl : (backTo pos (starEach [] X.env)).any (·.1) = false := by rfl) :
    JS X T Wi (.Raise (some (.Call (.Name x p) [e] [] pos)) none pos') (sRaiseF (16 * n + 200) x f ds) := by
  obtain ⟨C, fI, fd, qual, params, scope, p0, p1, p2, p3, gC, Tc, iC, tI, FD, S, bd, hno, xf, h1, h2⟩ := F.ex
  by_cases hn : 6 ≤ n
  · have rm : Room 2 X.A := ⟨hr.hd, by have := hr.dp; omega, by have := hr.un; omega⟩
    have F1 : FnOk X.prog X.w X.K X.mg X.base CX0 1 fI fd ["self", f] (spI X.K C f) := init_ok FD S h1 h2
    refine (L2N.ps_raise hc tk (make_ctx Tc iC tI F1 rm bd pass0 hg gC h hdb he hpl)).impD fun D σ H q => ?_
    obtain ⟨B, env, w, F, O, M, s, q⟩ := q
    refine ⟨B, env, w, F, O, M, s, ?_⟩
    unfold sRaiseF at q
    cases ed : ds env w with
    | stuck => rw [ed] at q; exact q.elim
    | exc x' e' w1 => rw [ed] at q; exact q.elim
    | ok rs w1 =>
      rw [ed] at q
      intro vs H1 F1 M1 s1 st1 pr
      match rs, pr, q with
      | [.dat d], pr, q =>
        have q : Pst (if 296 ≤ 16 * n + 200 then (.exc ⟨x, some (f, d)⟩ env w1 : Out Fl) else .stuck) (flG (Cx.tx X T) B F D) (badX (Cx.tx X T) B Wi) := q
        rw [if_pos (by omega)] at q
        cases pr with
        | @cons v _ vs' _ r1 r2 =>
          cases r2
          refine ⟨by simp, fun a ha => ⟨a, v, rfl, Tc, hno, upd_same, fun dx hdx ne => ?_⟩⟩
          have hd0 : H1 dx = none := by rw [upd_ne ne] at hdx; exact hdx
          refine ⟨rfl, dx, [(f, v)], upd_same, by rw [upd_ne ne, upd_same], hd0, ?_⟩
          have eh : upd (del (upd (upd (upd H1 a (exo a C none)) dx (exd dx [(f, v)])) a (exo a C (some dx))) a) dx (.xd [(f, v)]) = upd H1 dx (.xd [(f, v)]) := by
            funext b
            by_cases hb : b = dx
            · rw [hb, upd_same, upd_same]
            · rw [upd_ne hb, upd_ne hb]
              by_cases hba : b = a
              · rw [hba, del_same, ha]
              · rw [del_ne hba, upd_ne hba, upd_ne hb, upd_ne hba]
          rw [eh]
          exact q (.ref C) (some dx) σ _ F1 O M1 (s1.xt (Xt.newU s1.fh s1.nt hd0)) ⟨C, gC, rfl, dx, v, rfl, upd_same, r1⟩
      | [], pr, q => exact q.elim
      | [.fresh _], pr, q => exact q.elim
      | [.bor _ _], pr, q => exact q.elim
      | [.wref _], pr, q => exact q.elim
      | a :: b :: l, pr, q => cases a <;> exact False.elim q
  · refine (js_never (T := T) (Wi := Wi)).impD fun D σ H q => ?_
    obtain ⟨B, env, w, F, O, M, s, q⟩ := q
    refine ⟨B, env, w, F, O, M, s, ?_⟩
    unfold sRaiseF at q
    split at q
    · rw [if_neg (by omega)] at q
      exact q
    · exact q
@[simp] theorem sRaiseF_ap {rm : Nat} {env : Ev} {w : World} : sRaiseF rm x f ds env w = match ds env w with
  | .ok [.dat d] w1 => if 296 ≤ rm then .exc ⟨x, some (f, d)⟩ env w1 else .stuck
  | _ => .stuck := rfl
end
def sTryF (mt : Str → Str → Option Bool) (i : Nat) (d : Ex) (c f : Str) : Sd := fun env w => match d env w with
  | .ok _ w1 => .ok (.nx env) w1
  | .exc x e w1 => (match mt x.cls c with
    | some true => if x.cls = c ∧ i < e.length then (match x.fld with
      | some (g, dv) => if g = f then .ok (.rt (.dat dv)) w1 else .stuck
      | none => .stuck) else .stuck
    | some false => .exc x e w1
    | none => .stuck)
  | .stuck => .stuck
section
variable {X : Cx} {T : Tbs} {Wi : WX} {pos pos1 pos' np p1 p2 p3 : Pos} {e : Expr} {d : Ex} {c f n : Str} {i : Nat} {mt : Str → Str → Option Bool}
@[simp] theorem sTryF_ap {env : Ev} {w : World} : sTryF mt i d c f env w = match d env w with
  | .ok _ w1 => .ok (.nx env) w1
  | .exc x e w1 => (match mt x.cls c with
    | some true => if x.cls = c ∧ i < e.length then (match x.fld with
      | some (g, dv) => if g = f then .ok (.rt (.dat dv)) w1 else .stuck
      | none => .stuck) else .stuck
    | some false => .exc x e w1
    | none => .stuck)
  | .stuck => .stuck := rfl
end
section
variable {X : Cx} {T : Tbs} {Wi : WX} {p pos : Pos} {C : Cs} {n i : Nat} {x : Str}
end
def sTryR (mt : Str → Str → Option Bool) (bd : Sd) (hs : List (Str × Sd)) : Sd := fun env w => match bd env w with
  | .ok f w1 => .ok f w1
  | .exc x e w1 => (match tryGo mt x hs e w1 with
    | .ok (.rt r) w2 => .ok (.rt r) w2
    | .exc x2 e2 w2 => .exc x2 e2 w2
    | _ => .stuck)
  | .stuck => .stuck
section
variable {X : Cx} {T : Tbs} {Wi : WX} {pos : Pos} {body : List Stmt} {bd : Sd} {h₀ : ExceptHandler} {hds : List ExceptHandler} {l : List (Str × Value × Sd)} {mt : Str → Str → Option Bool}
@[simp] theorem sTryR_ap {hs : List (Str × Sd)} {env : Ev} {w : World} : sTryR mt bd hs env w = match bd env w with
  | .ok f w1 => .ok f w1
  | .exc x e w1 => (match tryGo mt x hs e w1 with
    | .ok (.rt r) w2 => .ok (.rt r) w2
    | .exc x2 e2 w2 => .exc x2 e2 w2
    | _ => .stuck)
  | .stuck => .stuck := rfl
end
end Dl
namespace Dl
open PySem PySem.Spec PyProof.Rows L2 NdefX
abbrev ClT := Value × Option Nat × (Addr → Value → Option Addr → TS)
section
variable {X : Cx} {body : List Stmt} {h₀ : ExceptHandler} {hds : List ExceptHandler} {l : List ClT} {pos : Pos} {tb : WX → TS} {Wo : WX}
end
end Dl
namespace Dl
open PySem PySem.Spec PyProof.Rows L2 NdefX
def noEx (env : Ev) : Bool := env.all fun s => match s with
  | .exn _ => false
  | _ => true
def noOw (env : Ev) : Bool := env.all fun s => match s with
  | .own _ => false
  | _ => true
section
variable {K : PySem.W.Frag} {mg : Str → Option Value} {T U : Tbs} {B : Base} {env : Ev} {w : World} {σ : St} {H F H0 F0 : Hp} {O : Nat → Addr} {M M0 : List Addr}
end
def unbF (i : Nat) : Fl → Option Fl
  | .nx e => if noEx (e.set i .un) = true then some (.nx (e.set i .un)) else none
  | .bk e => if noEx (e.set i .un) = true then some (.bk (e.set i .un)) else none
  | .ct e => if noEx (e.set i .un) = true then some (.ct (e.set i .un)) else none
  | .rt r => some (.rt r)
def tryGoM (mt : Str → Str → Option Bool) (x : Exn) : List (Str × Option Nat × Sd) → Sd
  | [], env, w => .exc x env w
  | (c, nm, s) :: r, env, w => match mt x.cls c with
    | some true => (match nm with
      | none => (match s env w with
        | .exc _ _ _ => .stuck
        | o => o)
      | some i => if i < env.length ∧ noEx env = true then (match s (env.set i (.exn x)) w with
        | .ok f w2 => (match unbF i f with
          | some f2 => .ok f2 w2
          | none => .stuck)
        | _ => .stuck) else .stuck)
    | some false => tryGoM mt x r env w
    | none => .stuck
def sTryM (mt : Str → Str → Option Bool) (bd : Sd) (hs : List (Str × Option Nat × Sd)) : Sd := fun env w => if noOw env = true then (match bd env w with
  | .ok f w1 => .ok f w1
  | .exc x e w1 => tryGoM mt x hs e w1
  | .stuck => .stuck) else .stuck
section
variable {X : Cx} {T : Tbs} {Wi : WX} {pos : Pos} {body : List Stmt} {bd : Sd} {h₀ : ExceptHandler} {hds : List ExceptHandler} {l : List (Str × Value × Option Nat × Sd)} {mt : Str → Str → Option Bool}
@[simp] theorem sTryM_ap {hs : List (Str × Option Nat × Sd)} {env : Ev} {w : World} : sTryM mt bd hs env w = if noOw env = true then (match bd env w with
  | .ok f w1 => .ok f w1
  | .exc x e w1 => tryGoM mt x hs e w1
  | .stuck => .stuck) else .stuck := rfl
end
end Dl
namespace Dl
open PySem PySem.Spec PyProof.Rows L2 NdefX
section
open PySem.W PySem.Calls
variable {K : Frag} {x D : Addr} {ox : Obj} {od : Option Obj}
section
variable {prog : Program} {w : PySem.World} {A : Around} {E : Value → Shared → Prop} {s : Shared}
end
end
end Dl
namespace Dl
open PySem PySem.Spec PyProof.Rows L2 NdefX
def dExF (cs : List Str) (i : Nat) (f : Str) : Ex := fun env w => match env[i]? with
  | some (.exn x) => if x.cls ∈ cs then (match x.fld with
    | some (g, d) => if g = f then .ok (.dat d) w else .stuck
    | none => .stuck) else .stuck
  | _ => .stuck
def dExI (tb : List (Str × Str × Bool)) (i : Nat) (y : Str) : Ex := fun env w => match env[i]? with
  | some (.exn x) => (match mtL tb x.cls y with
    | some b => .ok (.dat (.bl b)) w
    | none => .stuck)
  | _ => .stuck
section
variable {X : Cx} {T : Tbs} {Wi : WX} {a : Addr} {oe : Obj} {cls : Value} {d : Option Addr} {pn : List (Addr × Obj)} {p p0 p1 pos : Pos} {n f y : Str} {i : Nat}
@[simp] theorem dExF_ap {cs : List Str} {env : Ev} {w : World} : dExF cs i f env w = match env[i]? with
  | some (.exn x) => if x.cls ∈ cs then (match x.fld with
    | some (g, d) => if g = f then .ok (.dat d) w else .stuck
    | none => .stuck) else .stuck
  | _ => .stuck := rfl
@[simp] theorem dExI_ap {tb : List (Str × Str × Bool)} {env : Ev} {w : World} : dExI tb i y env w = match env[i]? with
  | some (.exn x) => (match mtL tb x.cls y with
    | some b => .ok (.dat (.bl b)) w
    | none => .stuck)
  | _ => .stuck := rfl
end
end Dl
namespace Dl
open PySem PySem.Spec PyProof.Rows L2 NdefX
theorem takesN {X : Cx} : L2N.Takes X (fun _ _ _ _ => False) := fun _ _ x => by
  obtain ⟨a, B, z, ps, τ, G, c, d, _, _, _, _, _, _, _, _, w⟩ := x
  exact w.elim
section
variable {X : Cx}
end
section
variable {X : Cx} {T : Tbs} {Wi : WX}
end
end Dl
namespace Dl
open PySem PySem.Spec PyProof.Rows L2 NdefX
def dRepL (a b : Ex) : Ex := fun env w => (a env w).bind fun ra w1 => (b env w1).bind fun rb w2 => match ra, rb.val with
  | .fresh l, some (.int k) => if 0 ≤ k ∧ k ≤ 1000 ∧ l.length ≤ 1000 then .ok (.fresh (List.replicate k.toNat l).flatten) w2 else .stuck
  | _, _ => .stuck
section
variable {X : Cx} {T : Tbs} {Wi : WX} {pos : Pos} {a b : Expr} {da db : Ex}
@[simp] theorem dRepL_ap {env : Ev} {w : World} : dRepL da db env w = (da env w).bind fun ra w1 => (db env w1).bind fun rb w2 => match ra, rb.val with
  | .fresh l, some (.int k) => if 0 ≤ k ∧ k ≤ 1000 ∧ l.length ≤ 1000 then .ok (.fresh (List.replicate k.toNat l).flatten) w2 else .stuck
  | _, _ => .stuck := rfl
end
end Dl
namespace Dl
open PySem PySem.Spec PyProof.Rows L2 NdefX
def dDic : Ex := fun _ w => .ok (.dat (.dic [])) w
@[simp] theorem dDic_ap {env : Ev} {w : World} : dDic env w = .ok (.dat (.dic [])) w := rfl
section
variable {X : Cx} {T : Tbs} {Wi : WX} {pos apos : Pos} {e : Expr} {d : Ex}
end
end Dl
namespace Dl
open PySem PySem.Spec PyProof.Rows L2 NdefX
end Dl
namespace Dl
open PySem PySem.Spec PyProof.Rows L2 NdefX
section
variable {X : Cx} {T : Tbs} {Wi : WX} {a f : Expr} {da : Ex} {pos : Pos}
end
end Dl
namespace Dl
open PySem PySem.Spec PyProof.Rows L2 NdefX
def dPairs : List (Str × Ex) → Ev → World → Out (List (Str × Str))
  | [], _, w => .ok [] w
  | (k, e) :: r, env, w => (e env w).bind fun v w1 => match v.val with
    | some (.str s) => (dPairs r env w1).bind fun l w2 => .ok ((k, s) :: l) w2
    | _ => .stuck
def dMap (ps : List (Str × Ex)) : Ex := fun env w => (dPairs ps env w).bind fun l w1 => if (l.map (·.1)).Nodup ∧ l.length ≤ 15 then .ok (.dat (.dic l)) w1 else .stuck
def gGetM (l : List (Str × Str)) (k x : D) : Option RV := match k, x with
  | .str s, .str y => some (.dat (.str ((l.lookup s).getD y)))
  | _, _ => none
@[simp] theorem gGetM_ap (l : List (Str × Str)) (s y : Str) : gGetM l (.str s) (.str y) = some (.dat (.str ((l.lookup s).getD y))) := rfl
def dGetM (a b c : Ex) : Ex := fun env w => (a env w).bind fun ra w1 => match ra.val with
  | some (.dic l) => (b env w1).bind fun rb w2 => (c env w2).bind fun rc w3 => lift (vals2 (gGetM l) rb rc) w3
  | _ => .stuck
section
variable {X : Cx} {T : Tbs} {Wi : WX} {pos apos : Pos}
end
@[simp] theorem dGetM_ap (a b c : Ex) (env : Ev) (w : World) : dGetM a b c env w = (a env w).bind fun ra w1 => match ra.val with
  | some (.dic l) => (b env w1).bind fun rb w2 => (c env w2).bind fun rc w3 => lift (vals2 (gGetM l) rb rc) w3
  | _ => .stuck := rfl
@[simp] theorem dMap_ap (ps : List (Str × Ex)) (env : Ev) (w : World) : dMap ps env w = (dPairs ps env w).bind fun l w1 => if (l.map (·.1)).Nodup ∧ l.length ≤ 15 then .ok (.dat (.dic l)) w1 else .stuck := rfl
@[simp] theorem dPairs_nil (env : Ev) (w : World) : dPairs [] env w = .ok [] w := rfl
@[simp] theorem dPairs_cons (k : Str) (e : Ex) (r : List (Str × Ex)) (env : Ev) (w : World) : dPairs ((k, e) :: r) env w = (e env w).bind fun v w1 => match v.val with
    | some (.str s) => (dPairs r env w1).bind fun l w2 => .ok ((k, s) :: l) w2
    | _ => .stuck := rfl
end Dl
namespace Dl
open PySem PySem.Spec PyProof.Rows L2 NdefX
def dCallSel (C : Cs) (is : List Nat) (ix : Ex) (as : Exs) : Ex := fun env w => (ix env w).bind fun r w1 => match r.val with
  | some (.int k) => (match atI is k with
    | some i => (as env w1).bind fun rs w2 => withEnv env (C.call i rs w2)
    | none => .stuck)
  | _ => .stuck
section
variable {X : Cx} {T : Tbs} {n : Nat} {C : Cs} {Wi : WX} {pos lp sp : Pos} {ix e : Expr} {es fs : List Expr} {is : List Nat} {dix : Ex} {ds : Exs}
def dJoin (sep : Str) (a : Ex) : Ex := fun env w => (a env w).bind fun r w1 => match r.val with
  | some (.lst l) => (match strsOf l with
    | some ys => if (ys.map (·.length)).sum + ys.length * sep.length ≤ 16777216 ∧ PyData.strOk (Txt.join sep ys) = true ∧ (Txt.join sep ys).length ≤ sizeLine then .ok (.dat (.str (Txt.join sep ys))) w1 else .stuck
    | none => .stuck)
  | _ => .stuck
end
@[simp] theorem dCallSel_ap (C : Cs) (is : List Nat) (ix : Ex) (as : Exs) (env : Ev) (w : World) : dCallSel C is ix as env w = (ix env w).bind fun r w1 => match r.val with
  | some (.int k) => (match atI is k with
    | some i => (as env w1).bind fun rs w2 => withEnv env (C.call i rs w2)
    | none => .stuck)
  | _ => .stuck := rfl
@[simp] theorem dJoin_ap (sep : Str) (a : Ex) (env : Ev) (w : World) : dJoin sep a env w = (a env w).bind fun r w1 => match r.val with
  | some (.lst l) => (match strsOf l with
    | some ys => if (ys.map (·.length)).sum + ys.length * sep.length ≤ 16777216 ∧ PyData.strOk (Txt.join sep ys) = true ∧ (Txt.join sep ys).length ≤ sizeLine then .ok (.dat (.str (Txt.join sep ys))) w1 else .stuck
    | none => .stuck)
  | _ => .stuck := rfl
end Dl
namespace Dl
open PySem PySem.Spec PyProof.Rows L2 NdefX
def RV.fld : RV → FV
  | .dat d => .dat d
  | .wref k => .ref k
  | _ => .un
section
variable {X : Cx} {T : Tbs} {Wi : WX} {pos p p' : Pos} {e : Expr} {d : Ex} {x y f : Str} {i : Nat}
end
theorem RoomG.make {k : Nat} {A : Around} (r : RoomG (k + 1) A) (C : Addr) (us : List Value) (kw : List (Str × Value)) : RoomG k (A.under (.builtin "type.__call__" ⟨.ref C :: us, kw⟩)) :=
  ⟨⟨r.hd, by have := r.dp; rw [make_depth]; omega, by have := r.un; rw [make_units]; omega⟩, r.gd⟩
theorem RoomG.mono {j k : Nat} {A : Around} (r : RoomG k A) (h : j ≤ k) : RoomG j A := ⟨⟨r.hd, by have := r.dp; omega, by have := r.un; omega⟩, r.gd⟩
theorem argAt.more {X : Tx} {F : Hp} {M nw : List Addr} {v : V} {r : RV} (h : argAt X F M v r) : argAt X F (M ++ nw) v r := by
  cases r with
  | dat d => exact h
  | wref k => obtain ⟨m, e1, e2⟩ := h; exact ⟨m, mem_of_pfx rfl e1, e2⟩
  | fresh l => exact h
  | bor i l => exact h
section
variable {X : Cx} {T : Tbs} {Wi : WX} {pos p : Pos} {e : Expr} {es : List Expr} {ds : Exs} {C : Cs} {n i : Nat} {x : Str}
end
end Dl
namespace Dl
open PySem PySem.Spec PyProof.Rows L2 NdefX
def FV.rv : FV → Option RV
  | .dat d => some (.dat d)
  | .ref k => some (.wref k)
  | .un => none
def fldK (x f : Str) (r : RV) (w : World) : Out RV := match r with
  | .wref k => (match w[k]? with
    | some (.obj y fs) => if y = x then (match fs.lookup f with
      | some v => lift v.rv w
      | none => .stuck) else .stuck
    | _ => .stuck)
  | _ => .stuck
def dFld (x f : Str) (e : Ex) : Ex := fun env w => (e env w).bind (fldK x f)
section
variable {X : Cx} {T : Tbs} {Wi : WX} {pos p p' : Pos} {e : Expr} {d : Ex} {x y f : Str} {i : Nat}
end
section
variable {X : Cx} {T : Tbs} {Wi : WX} {pos p p' : Pos} {e : Expr} {d : Ex} {x y f : Str} {i : Nat}
end
def sSetO (i : Nat) (e : Ex) : Sd := fun env w => (e env w).bind fun r w1 => match r with
  | .wref k => .ok (.nx (env.set i (.wref k))) w1
  | _ => .stuck
section
variable {X : Cx} {T : Tbs} {Wi : WX} {pos : Pos} {e : Expr} {d : Ex}
theorem js_setO {i : Nat} {x : Str} {pos' : Pos} (hN : X.N.Nodup) (hi : X.N[i]? = some x) (hx : Loc X.env.scope x) (h : JE X T Wi e d) (hs : swapsWith e (some (.Name x pos')) pos.line X.env = pure false := by rfl)
    (hf : X.fn x = true ∨ X.env.scope.names.lookup x = some .local := by first | exact .inl rfl | exact .inr rfl | assumption) : JS X T Wi (.Assign [.Name x pos'] e pos) (sSetO i d) := by
  refine (ps_set hN hi hx h hs hf).impD fun D σ H q => ?_
  obtain ⟨B, env, w, F, O, M, s, q⟩ := q
  refine ⟨B, env, w, F, O, M, s, q.bind.imp fun r w1 q1 v H1 F1 M1 s1 st1 r1 => ?_⟩
  cases r with
  | dat d => exact q1.elim
  | fresh l => exact q1.elim
  | bor i l => exact q1.elim
  | wref k =>
    obtain ⟨m, em, ev⟩ := r1
    subst ev
    exact q1 _ H1 F1 O M1 (s1.setRef em) st1.fg
end
def hasM (x m : Str) (r : RV) (w : World) : Bool := match r with
  | .wref k => (match w[k]? with
    | some (.obj y fs) => decide (y = x) && (fs.lookup m).isNone
    | _ => false)
  | _ => false
def dMeth (C : Cs) (x m : Str) (i : Nat) (e : Ex) (as : Exs) : Ex := fun env w => (e env w).bind fun r w1 => if hasM x m r w1 = true then (as env w1).bind fun rs w2 => withEnv env (C.call i (r :: rs) w2) else .stuck
section
variable {X : Cx} {CX : CXT} {k : Nat} {f C : Addr} {fd : FuncData} {ps : List Str} {sp : Sp} {E : L2.St → XK} {m : Str} {apos pos : Pos} {e o : Expr} {es : List Expr} {ta : TE} {t : TA}
end
section
variable {X : Cx} {T : Tbs} {Wi : WX} {pos apos : Pos} {o e : Expr} {es : List Expr} {d : Ex} {ds : Exs} {C : Cs} {n i : Nat} {x m : Str}
end
@[simp] theorem dFld_ap {x f : Str} {e : Ex} {env : Ev} {w : World} : dFld x f e env w = (e env w).bind (fldK x f) := rfl
@[simp] theorem sSetO_ap {i : Nat} {e : Ex} {env : Ev} {w : World} : sSetO i e env w = (e env w).bind fun r w1 => match r with
  | .wref k => .ok (.nx (env.set i (.wref k))) w1
  | _ => .stuck := rfl
@[simp] theorem dMeth_ap {C : Cs} {x m : Str} {i : Nat} {e : Ex} {as : Exs} {env : Ev} {w : World} : dMeth C x m i e as env w = (e env w).bind fun r w1 => if hasM x m r w1 = true then (as env w1).bind fun rs w2 => withEnv env (C.call i (r :: rs) w2) else .stuck := rfl
end Dl
namespace Dl
open PySem PySem.Spec PyProof.Rows L2 NdefX
def dNewL : Ex := fun _ w => .ok (.wref w.length) (w ++ [.lst []])
@[simp] theorem dNewL_ap {env : Ev} {w : World} : dNewL env w = .ok (.wref w.length) (w ++ [.lst []]) := rfl
section
variable {X : Cx} {T : Tbs} {Wi : WX} {pos : Pos}
end
def sAppF (o a : Ex) : Sd := fun env w => (o env w).bind fun r w1 => match r with
  | .wref k => (match w1[k]? with
    | some (.lst _) => (a env w1).bind fun ra w2 => (match ra.arg with
      | some (.dat d) => (match w2[k]? with
        | some (.lst l) => if l.length < 16777216 then .ok (.nx env) (w2.set k (.lst (l ++ [d]))) else .stuck
        | _ => .stuck)
      | _ => .stuck)
    | _ => .stuck)
  | _ => .stuck
@[simp] theorem sAppF_ap {o a : Ex} {env : Ev} {w : World} : sAppF o a env w = (o env w).bind fun r w1 => match r with
  | .wref k => (match w1[k]? with
    | some (.lst _) => (a env w1).bind fun ra w2 => (match ra.arg with
      | some (.dat d) => (match w2[k]? with
        | some (.lst l) => if l.length < 16777216 then .ok (.nx env) (w2.set k (.lst (l ++ [d]))) else .stuck
        | _ => .stuck)
      | _ => .stuck)
    | _ => .stuck)
  | _ => .stuck := rfl
section
variable {X : Cx} {T : Tbs} {Wi : WX} {pos : Pos} {oe e : Expr} {d do_ : Ex}
theorem js_appF {p2 p3 : Pos} (h0 : JE X T Wi oe do_) (h : JE X T Wi e d)
    (hs : swapsWith (.Call (.Attribute oe "append" p2) [e] [] p3) none pos.line X.env = pure false := by rfl)
    (hbase : attributeBase oe "append" X.env (eval oe X.env) = eval oe X.env := by rfl)
    (hfew : ((backTo p3 (starEach (e :: []) X.env)).all (fun x => !x.1) && (backToKw p3 (keywordEach [] X.env)).all (fun x => x.1.isSome)
      && decide ((e :: []).length + ([] : List Keyword).length + (if ([] : List Keyword).isEmpty then 0 else 1) < 30)) = true := by rfl)
    (hline : (p2.endLine == p3.line) = true := by rfl) (hst : starEach (e :: []) X.env = (false, eval e X.env) :: starEach [] X.env := by rfl) (hplain : (backTo p3 (starEach [] X.env)).any (·.1) = false := by rfl) :
    JS X T Wi (.Expr (.Call (.Attribute oe "append" p2) [e] [] p3) pos) (sAppF do_ d) := by
  refine (ps_expr (pe_bm PySem.F.plainAttrs_list PySem.F.slot_list_append PySem.F.type_list_append mt_append h0 (pa_cons h pa_nil hst) hbase hfew hline hst hplain) hs).impD fun D σ H q => ?_
  obtain ⟨B, env, w, F, O, M, s, q⟩ := q
  refine ⟨B, env, w, F, O, M, s, q.bind.imp fun r w1 q1 v H1 F1 M1 s1 st1 r1 => ?_⟩
  split at q1
  case h_2 => exact q1.elim
  rename_i k
  split at q1
  case h_2 => exact q1.elim
  rename_i l ew
  obtain ⟨m, em, rfl⟩ := r1
  obtain ⟨m', em', hF, ez, vs, e5, e6⟩ := s1.wr.get ew
  rw [em] at em'; cases em'
  refine ⟨.inl ⟨rfl, vs, SqL.of e5⟩, B, env, w1, F1, O, M1, s1, q1.bind.imp fun ra w2 q2 y H2 F2 M2 s2 st2 r2 => ?_⟩
  split at q2
  case h_2 => exact q2.elim
  rename_i dd er
  split at q2
  case h_2 => exact q2.elim
  rename_i l2 ew2
  split at q2
  case isFalse => exact q2.elim
  rename_i hz
  obtain ⟨F3, s3, st3, a3⟩ := keep_arg s1 s2 st2 r2 er
  obtain ⟨nw, en, _⟩ := id st2.mw
  have em2 : M2[k]? = some m := mem_of_pfx en em
  obtain ⟨m', em', hF2, ez2, vs2, g5, g6⟩ := s3.wr.get ew2
  rw [em2] at em'; cases em'
  have a3 : Rp X.K F3 y dd := a3
  refine ⟨m, vs2, y, rfl, rfl, g5, by rw [g6.length, sizeLine_eq]; exact hz, ?_⟩
  exact q2 σ _ F3 O M2 (s3.updW ew2 em2 (by rw [List.length_append, List.length_singleton, sizeLine_eq]; omega) (Pr.append g6 (.cons a3 .nil))) (st1.fg.trans st3.fg)
end
def dLenF (o : Ex) : Ex := fun env w => (o env w).bind fun r w1 => match r with
  | .wref k => (match w1[k]? with
    | some (.lst l) => .ok (.dat (.int (l.length : Int))) w1
    | _ => .stuck)
  | _ => .stuck
@[simp] theorem dLenF_ap {o : Ex} {env : Ev} {w : World} : dLenF o env w = (o env w).bind fun r w1 => match r with
  | .wref k => (match w1[k]? with
    | some (.lst l) => .ok (.dat (.int (l.length : Int))) w1
    | _ => .stuck)
  | _ => .stuck := rfl
section
variable {X : Cx} {T : Tbs} {Wi : WX} {pos p : Pos} {oe : Expr} {do_ : Ex}
end
section
variable {X : Cx} {T : Tbs} {Wi : WX} {pos p1 p2 p3 p4 p5 p6 p7 p8 pt : Pos} {kk : Nat} {x y f1 f2 f : Str} {i : Nat}
end
end Dl
namespace Dl
open PySem PySem.Spec PyProof.Rows L2 NdefX
theorem SR.addW {X : Tx} {B : Base} {env : Ev} {w : World} {σ : St} {H F : Hp} {O : Nat → Addr} {M : List Addr} {p : Addr} {o : WO} (s1 : SR X B env w σ H F O M) (e2 : B.H p = none) (e3 : F p = none) (e4 : p ∉ M)
    (e7 : ∀ i l, env[i]? = some (.own l) → O i ≠ p) (h : WO.isAt X F H (M ++ [p]) p o) : SR X B env (w ++ [o]) σ H F O (M ++ [p]) := by
  refine ⟨s1.len, s1.fh, s1.nt, ⟨s1.st.fg, s1.st.fr, s1.st.th, s1.st.nf, ?_⟩, ⟨?_, paired_app1 (Paired.mapP s1.wr.at_ fun _ _ h => ⟨h.1, WO.more h.2 fun _ _ h => mem_of_pfx rfl h⟩) ⟨e3, h⟩⟩, s1.tb, fun j sl e => ?_, s1.inj⟩
  · obtain ⟨nw, em, hn⟩ := s1.st.mw
    refine ⟨nw ++ [p], by rw [em, List.append_assoc], fun m hm => ?_⟩
    rcases List.mem_append.mp hm with z | z
    · exact hn m z
    · rw [List.mem_singleton.mp z]; exact e2
  · rw [List.nodup_append]
    refine ⟨s1.wr.nd, by simp, fun a ha b hb => ?_⟩
    rw [List.mem_singleton.mp hb]
    exact fun z => e4 (z ▸ ha)
  · have h := s1.sl j sl e
    cases sl with
    | un => trivial
    | dat d => exact h
    | own k =>
      obtain ⟨f1, f2, f3, f4, f5⟩ := h
      refine ⟨f1, f2, f3, ?_, f5⟩
      rw [List.mem_append]
      rintro (z | z)
      · exact f4 z
      · exact e7 j k e (List.mem_singleton.mp z)
    | wref k => obtain ⟨m, f1, f2⟩ := h; exact ⟨m, mem_of_pfx rfl f1, f2⟩
    | exn x => exact h
section
variable {X : Cx} {T : Tbs} {Wi : WX} {pos : Pos}
def lookK (kvs : List (Key × FV)) (s : Str) : Option FV := (kvs.find? fun kv => decide (kv.1 = .inr s)).map (·.2)
def isInK (r : RV) (k : RV) (w : World) : Option Bool := match r, k with
  | .wref j, .dat (.str s) => (match w[j]? with
    | some (.dic kvs) => some (lookK kvs s).isSome
    | _ => none)
  | _, _ => none
def getInK (r : RV) (k : RV) (w : World) : Option D := match r, k with
  | .wref j, .dat (.str s) => (match w[j]? with
    | some (.dic kvs) => (match lookK kvs s with
      | some (.dat d) => some d
      | _ => none)
    | _ => none)
  | _, _ => none
def dInK (a b : Ex) : Ex := fun env w => (a env w).bind fun ra w1 => (b env w1).bind fun rb w2 => match isInK rb ra w2 with
  | some b => .ok (.dat (.bl b)) w2
  | none => .stuck
def dGetK (a b : Ex) : Ex := fun env w => (a env w).bind fun ra w1 => (b env w1).bind fun rb w2 => match getInK ra rb w2 with
  | some d => .ok (.dat d) w2
  | none => .stuck
end
@[simp] theorem dInK_ap {a b : Ex} {env : Ev} {w : World} : dInK a b env w = (a env w).bind fun ra w1 => (b env w1).bind fun rb w2 => match isInK rb ra w2 with
  | some b => .ok (.dat (.bl b)) w2
  | none => .stuck := rfl
@[simp] theorem dGetK_ap {a b : Ex} {env : Ev} {w : World} : dGetK a b env w = (a env w).bind fun ra w1 => (b env w1).bind fun rb w2 => match getInK ra rb w2 with
  | some d => .ok (.dat d) w2
  | none => .stuck := rfl
end Dl
namespace Dl
open PySem PySem.Spec PyProof.Rows L2 NdefX
def dNewK : Ex := fun _ w => .ok (.wref w.length) (w ++ [.dic []])
@[simp] theorem dNewK_ap {env : Ev} {w : World} : dNewK env w = .ok (.wref w.length) (w ++ [.dic []]) := rfl
def putW (s : Str) (f : FV) (kvs : List (Key × FV)) : List (Key × FV) :=
  if (kvs.any fun kv => decide (kv.1 = .inr s)) = true then kvs.map (fun kv => if kv.1 = .inr s then (kv.1, f) else kv) else kvs ++ [(.inr s, f)]
def putInK (r k v : RV) (w : World) : Option World := match r, k, v with
  | .wref j, .dat (.str s), .dat d => (match w[j]? with
    | some (.dic kvs) => if kvs.length < 16000000 then some (w.set j (.dic (putW s (.dat d) kvs))) else none
    | _ => none)
  | _, _, _ => none
def sPutK (a b v : Ex) : Sd := fun env w => (v env w).bind fun rv w1 => (a env w1).bind fun ra w2 => (b env w2).bind fun rb w3 => match putInK ra rb rv w3 with
  | some w4 => .ok (.nx env) w4
  | none => .stuck
@[simp] theorem sPutK_ap {a b v : Ex} {env : Ev} {w : World} : sPutK a b v env w = (v env w).bind fun rv w1 => (a env w1).bind fun ra w2 => (b env w2).bind fun rb w3 => match putInK ra rb rv w3 with
  | some w4 => .ok (.nx env) w4
  | none => .stuck := rfl
section
variable {X : Cx} {T : Tbs} {Wi : WX} {pos pos' : Pos}
end
end Dl
namespace Dl
open PySem PySem.Spec PyProof.Rows L2 NdefX
def dNewLs (es : Exs) : Ex := fun env w => (es env w).bind fun rs w1 => match dats rs with
  | some ds => if ds.length ≤ 1000 then .ok (.wref w1.length) (w1 ++ [.lst ds]) else .stuck
  | none => .stuck
@[simp] theorem dNewLs_ap {es : Exs} {env : Ev} {w : World} : dNewLs es env w = (es env w).bind fun rs w1 => match dats rs with
  | some ds => if ds.length ≤ 1000 then .ok (.wref w1.length) (w1 ++ [.lst ds]) else .stuck
  | none => .stuck := rfl
section
variable {X : Cx} {T : Tbs} {Wi : WX} {pos : Pos} {es : List Expr} {ds : Exs}
end
def dListW (o : Ex) : Ex := fun env w => (o env w).bind fun r w1 => match r with
  | .wref k => (match w1[k]? with
    | some (.lst l) => .ok (.fresh l) w1
    | _ => .stuck)
  | _ => .stuck
@[simp] theorem dListW_ap {o : Ex} {env : Ev} {w : World} : dListW o env w = (o env w).bind fun r w1 => match r with
  | .wref k => (match w1[k]? with
    | some (.lst l) => .ok (.fresh l) w1
    | _ => .stuck)
  | _ => .stuck := rfl
section
variable {X : Cx} {T : Tbs} {Wi : WX} {pos p : Pos} {oe : Expr} {do_ : Ex}
end
def ixF (w : World) : RV → RV → Option RV
  | .wref m, .dat (.int z) => (match w[m]? with
    | some (.lst l) => (atI l z).map .dat
    | _ => none)
  | _, _ => none
def dIxF (o ix : Ex) : Ex := fun env w => (o env w).bind fun r w1 => (ix env w1).bind fun k w2 => lift (ixF w2 r k) w2
@[simp] theorem dIxF_ap {o ix : Ex} {env : Ev} {w : World} : dIxF o ix env w = (o env w).bind fun r w1 => (ix env w1).bind fun k w2 => lift (ixF w2 r k) w2 := rfl
section
variable {X : Cx} {T : Tbs} {Wi : WX} {pos : Pos} {oe ei : Expr} {do_ di : Ex}
end
def lookZ (kvs : List (Key × FV)) (z : Int) : Option FV := (kvs.find? fun kv => decide (kv.1 = .inl z)).map (·.2)
def dNewD1 (dk dv : Ex) : Ex := fun env w => (dk env w).bind fun k w1 => match k with
  | .dat (.int z) => (dv env w1).bind fun r w2 => (match r with
    | .dat d => .ok (.wref w2.length) (w2 ++ [.dic [(.inl z, .dat d)]])
    | .wref j => .ok (.wref w2.length) (w2 ++ [.dic [(.inl z, .ref j)]])
    | _ => .stuck)
  | _ => .stuck
@[simp] theorem dNewD1_ap {dk dv : Ex} {env : Ev} {w : World} : dNewD1 dk dv env w = (dk env w).bind fun k w1 => match k with
  | .dat (.int z) => (dv env w1).bind fun r w2 => (match r with
    | .dat d => .ok (.wref w2.length) (w2 ++ [.dic [(.inl z, .dat d)]])
    | .wref j => .ok (.wref w2.length) (w2 ++ [.dic [(.inl z, .ref j)]])
    | _ => .stuck)
  | _ => .stuck := rfl
section
variable {X : Cx} {T : Tbs} {Wi : WX} {pos : Pos} {k v : Expr} {dk dv : Ex}
end
def getL (w : World) : RV → RV → Option RV
  | .wref j, .dat (.int z) => (match w[j]? with
    | some (.dic kvs) => (match lookZ kvs z with
      | some (.ref m) => some (.wref m)
      | some (.dat d) => some (.dat d)
      | some .un => none
      | none => some (.fresh []))
    | _ => none)
  | _, _ => none
def isDic (w : World) : RV → Bool
  | .wref j => (match w[j]? with
    | some (.dic _) => true
    | _ => false)
  | _ => false
def dGetL (o k : Ex) : Ex := fun env w => (o env w).bind fun ro w1 => if isDic w1 ro = true then (k env w1).bind fun rk w2 => lift (getL w2 ro rk) w2 else .stuck
@[simp] theorem dGetL_ap {o k : Ex} {env : Ev} {w : World} : dGetL o k env w = (o env w).bind fun ro w1 => if isDic w1 ro = true then (k env w1).bind fun rk w2 => lift (getL w2 ro rk) w2 else .stuck := rfl
def setL (w : World) : RV → RV → Option (RV × World)
  | .wref j, .dat (.int z) => (match w[j]? with
    | some (.dic kvs) => if kvs.length < 16000000 then (match lookZ kvs z with
      | some (.ref m) => some (.wref m, w)
      | some (.dat d) => some (.dat d, w)
      | some .un => none
      | none => some (.wref w.length, (w ++ [WO.lst []]).set j (.dic (kvs ++ [(.inl z, .ref w.length)])))) else none
    | _ => none)
  | _, _ => none
def dSetL (o k : Ex) : Ex := fun env w => (o env w).bind fun ro w1 => if isDic w1 ro = true then (k env w1).bind fun rk w2 => (match setL w2 ro rk with
  | some (r, w3) => .ok r w3
  | none => .stuck) else .stuck
@[simp] theorem dSetL_ap {o k : Ex} {env : Ev} {w : World} : dSetL o k env w = (o env w).bind fun ro w1 => if isDic w1 ro = true then (k env w1).bind fun rk w2 => (match setL w2 ro rk with
  | some (r, w3) => .ok r w3
  | none => .stuck) else .stuck := rfl
section
variable {X : Cx} {T : Tbs} {Wi : WX} {pos lpos apos : Pos} {o k : Expr} {do_ dk : Ex}
end
section
variable {X : Cx} {T : Tbs} {Wi : WX} {pos p1 : Pos} {iter tg ce : Expr} {d : Ex} {g : Tgt} {us : List Nat} {tc : Tst} {sa : List Stmt} {a : Sd}
end
end Dl
namespace Dl
open PySem PySem.Spec PyProof.Rows L2 NdefX
def dIndexO (rm : Nat) (e a : Ex) : Ex := fun env w => (e env w).bind fun r w1 => match r with
  | .bor _ l => (a env w1).bind fun ra w2 => (match ra with
    | .dat d => if 1 + min (depAll l) d.dep ≤ rm then (match l.findIdx? (fun z => z.eq d) with
      | some j => .ok (.dat (.int (j : Nat))) w2
      | none => .stuck) else .stuck
    | _ => .stuck)
  | _ => .stuck
@[simp] theorem dIndexO_ap {rm : Nat} {e a : Ex} {env : Ev} {w : World} : dIndexO rm e a env w = (e env w).bind fun r w1 => match r with
  | .bor _ l => (a env w1).bind fun ra w2 => (match ra with
    | .dat d => if 1 + min (depAll l) d.dep ≤ rm then (match l.findIdx? (fun z => z.eq d) with
      | some j => .ok (.dat (.int (j : Nat))) w2
      | none => .stuck) else .stuck
    | _ => .stuck)
  | _ => .stuck := rfl
section
variable {X : Cx} {T : Tbs} {Wi : WX} {pos : Pos}
end
end Dl
namespace Dl
open PySem PySem.Spec PyProof.Rows L2 NdefX
section
variable {X : Cx} {T : Tbs} {Wi : WX}
def sFrz (i : Nat) (b : Sd) : Sd := fun env w => match env[i]? with
  | some (.own l) => b (env.set i (.dat (.lst l))) w
  | _ => b env w
@[simp] theorem sFrz_ap {i : Nat} {b : Sd} {env : Ev} {w : World} : sFrz i b env w = (match env[i]? with
  | some (.own l) => b (env.set i (.dat (.lst l))) w
  | _ => b env w) := rfl
def sAppPop (i j : Nat) (e : Ex) : Sd := fun env w => match env[i]?, env[j]? with
  | some (.own l), some (.own k) => if i = j then .stuck else (e env w).bind fun r w1 => (match r with
    | .dat (.int n) => (match (if 0 ≤ n then k[n.toNat]? else none) with
      | some d => if l.length < 16777216 then .ok (.nx ((env.set j (.own (k.eraseIdx n.toNat))).set i (.own (l ++ [d])))) w1 else .stuck
      | none => .stuck)
    | _ => .stuck)
  | _, _ => .stuck
@[simp] theorem sAppPop_ap {i j : Nat} {e : Ex} {env : Ev} {w : World} : sAppPop i j e env w = (match env[i]?, env[j]? with
  | some (.own l), some (.own k) => if i = j then .stuck else (e env w).bind fun r w1 => (match r with
    | .dat (.int n) => (match (if 0 ≤ n then k[n.toNat]? else none) with
      | some d => if l.length < 16777216 then .ok (.nx ((env.set j (.own (k.eraseIdx n.toNat))).set i (.own (l ++ [d])))) w1 else .stuck
      | none => .stuck)
    | _ => .stuck)
  | _, _ => .stuck) := rfl
end
end Dl
namespace PySem
open Sem (wp)
end PySem
namespace Dl
open PySem PySem.Spec PyProof.Rows L2 NdefX
def enumD : Nat → List D → List D
  | _, [] => []
  | k, d :: l => .tup [.int k, d] :: enumD (k + 1) l
def iEnumD (e : Ex) : Src := fun env w => (e env w).bind fun r w1 => match r.its with
  | some l => .ok (enumD 0 l) w1
  | none => .stuck
@[simp] theorem iEnumD_ap {e : Ex} {env : Ev} {w : World} : iEnumD e env w = (e env w).bind fun r w1 => match r.its with
  | some l => .ok (enumD 0 l) w1
  | none => .stuck := rfl
section
variable {X : Cx} {T : Tbs} {Wi : WX} {e : Expr} {d : Ex} {p pos tpos : Pos} {elts : List Expr} {kk : Nat}
def dIndexS (e a : Ex) : Ex := fun env w => (e env w).bind fun r w1 => match r.arg with
  | some (.dat (.lst l)) => (match strsOf l with
    | some ss => (a env w1).bind fun ra w2 => (match ra with
      | .dat (.str z) => (match ss.findIdx? (· == z) with
        | some j => .ok (.dat (.int (j : Nat))) w2
        | none => .stuck)
      | _ => .stuck)
    | none => .stuck)
  | _ => .stuck
@[simp] theorem dIndexS_ap {e a : Ex} {env : Ev} {w : World} : dIndexS e a env w = (e env w).bind fun r w1 => match r.arg with
  | some (.dat (.lst l)) => (match strsOf l with
    | some ss => (a env w1).bind fun ra w2 => (match ra with
      | .dat (.str z) => (match ss.findIdx? (· == z) with
        | some j => .ok (.dat (.int (j : Nat))) w2
        | none => .stuck)
      | _ => .stuck)
    | none => .stuck)
  | _ => .stuck := rfl
end
end Dl
namespace Dl
open PySem PySem.Spec PyProof.Rows L2 NdefX RZ
def zipD : List D → List D → List D
  | a :: l, b :: m => .tup [a, b] :: zipD l m
  | _, _ => []
section
variable {K : PySem.W.Frag} {F : Hp} {a b : Addr} {xs ys : List V} {l m : List D}
end
def zip2 : List RV → Option (List D)
  | [.dat (.tup l), .dat (.tup m)] => some (zipD l m)
  | [.dat (.lst l), .dat (.lst m)] => some (zipD l m)
  | _ => none
def iZip2 (es : Exs) : Src := fun env w => (es env w).bind fun rs w1 => match zip2 rs with
  | some l => .ok l w1
  | none => .stuck
@[simp] theorem iZip2_ap {es : Exs} {env : Ev} {w : World} : iZip2 es env w = (es env w).bind fun rs w1 => match zip2 rs with
  | some l => .ok l w1
  | none => .stuck := rfl
@[simp] theorem zip2_t {l m : List D} : zip2 [.dat (.tup l), .dat (.tup m)] = some (zipD l m) := rfl
@[simp] theorem zip2_l {l m : List D} : zip2 [.dat (.lst l), .dat (.lst m)] = some (zipD l m) := rfl
section
variable {X : Cx} {T : Tbs} {Wi : WX} {e e2 : Expr} {ds : Exs} {p pos tpos : Pos} {elts : List Expr} {kk : Nat}
end
end Dl
namespace Dl
open PySem PySem.Spec PyProof.Rows L2 NdefX RZ
abbrev Cur := World → Option (List D)
abbrev SrcW := Ev → World → Out Cur
def curL (k : Nat) : Cur := fun w => match w[k]? with
  | some (.lst l) => some l
  | _ => none
def curZ (j k : Nat) : Cur := fun w => match curL j w, curL k w with
  | some a, some b => some (zipD a b)
  | _, _ => none
@[simp] theorem curL_ap {k : Nat} {w : World} {l : List D} (h : w[k]? = some (.lst l)) : curL k w = some l := by unfold curL; rw [h]
@[simp] theorem curZ_ap {j k : Nat} {w : World} {a b : List D} (h : w[j]? = some (.lst a)) (h2 : w[k]? = some (.lst b)) : curZ j k w = some (zipD a b) := by unfold curZ; rw [curL_ap h, curL_ap h2]
def iRefW (e : Ex) : SrcW := fun env w => (e env w).bind fun r w1 => match r with
  | .wref k => match w1[k]? with
    | some (.lst _) => .ok (curL k) w1
    | _ => .stuck
  | _ => .stuck
def iZipW (es : Exs) : SrcW := fun env w => (es env w).bind fun rs w1 => match rs with
  | [.wref j, .wref k] => match w1[j]?, w1[k]? with
    | some (.lst _), some (.lst _) => .ok (curZ j k) w1
    | _, _ => .stuck
  | _ => .stuck
section
variable {X : Cx} {T : Tbs} {Wi : WX} {e e2 tg : Expr} {d : Ex} {ds : Exs} {p pos tpos : Pos} {elts : List Expr} {kk : Nat}
end
abbrev Base.wide (B : Base) (M : List Addr) : Base := ⟨B.H, B.F, M⟩
section
variable {X : Tx} {B : Base} {env env' : Ev} {w w' : World} {σ σ' : St} {H F H' F' : Hp} {O O' : Nat → Addr} {M M' : List Addr}
theorem SR.wideM (s : SR X B env w σ H F O M) : SR X (B.wide M) env w σ H F O M := by
  refine ⟨s.len, s.fh, s.nt, ⟨s.st.fg, fun a o h ht q => s.st.fr a o (fun z => ?_) ht q, s.st.th, s.st.nf, [], by simp, by simp⟩, s.wr, s.tb, fun i sl e => ?_, s.inj⟩
  · obtain ⟨nw, en, _⟩ := id s.st.mw
    exact h (by show a ∈ M; rw [en]; exact List.mem_append_left _ z)
  · have := s.sl i sl e
    cases sl <;> exact this
theorem stp_narrow {nw : List Addr} (e : M = B.M ++ nw) (hn : ∀ m ∈ nw, B.H m = none) (st : Stp B.H B.F M H' F' M') : Stp B.H B.F B.M H' F' M' := by
  refine ⟨st.fg, fun a o h ht q => st.fr a o (fun z => ?_) ht q, st.th, st.nf, ?_⟩
  · rw [e, List.mem_append] at z
    rcases z with z | z
    · exact h z
    · rw [hn a z] at q; cases q
  · obtain ⟨n2, e2, h2⟩ := st.mw
    refine ⟨nw ++ n2, by rw [e2, e, List.append_assoc], fun m hm => ?_⟩
    rcases List.mem_append.mp hm with z | z
    · exact hn m z
    · exact h2 m z
theorem SR.narrowM {nw : List Addr} (e : M = B.M ++ nw) (hn : ∀ m ∈ nw, B.H m = none) (s' : SR X (B.wide M) env' w' σ' H' F' O' M') : SR X B env' w' σ' H' F' O' M' := by
  refine ⟨s'.len, s'.fh, s'.nt, stp_narrow e hn s'.st, s'.wr, s'.tb, fun i sl e => ?_, s'.inj⟩
  have := s'.sl i sl e
  cases sl <;> exact this
theorem RetAt.narrowM {nw : List Addr} {v : V} {r : RV} (e : M = B.M ++ nw) (hn : ∀ m ∈ nw, B.H m = none) (h : RetAt X (B.wide M) w' H' F' M' v r) : RetAt X B w' H' F' M' v r :=
  ⟨stp_narrow e hn h.st, h.fh, h.nt, h.wr, h.tb, h.at_⟩
theorem flG.wide {nw : List Addr} {F0 : Hp} {Dn : Ends} {f : Fl} (e : M = B.M ++ nw) (hn : ∀ m ∈ nw, B.H m = none) (h : flG X B F0 Dn f w) : flG X (B.wide M) F0 Dn f w := by
  cases f with
  | nx env => exact fun σ H F O M s k => h σ H F O M (s.narrowM e hn) k
  | bk env => exact fun σ H F O M s k => h σ H F O M (s.narrowM e hn) k
  | ct env => exact fun σ H F O M s k => h σ H F O M (s.narrowM e hn) k
  | rt r => exact fun v H F M q => h v H F M (q.narrowM e hn)
theorem badX.wide {nw : List Addr} {Wi : WX} {x : Exn} (e : M = B.M ++ nw) (hn : ∀ m ∈ nw, B.H m = none) (h : badX X B Wi x env w) : badX X (B.wide M) Wi x env w := fun cls d σ H F O M s q => h cls d σ H F O M (s.narrowM e hn) q
end
def forGoC (g : Tgt) (body : Sd) (cur : Cur) : Nat → Nat → Sd
  | 0, _, _, _ => .stuck
  | n + 1, i, env, w => match cur w with
    | none => .stuck
    | some l => match l[i]? with
      | none => .ok (.nx env) w
      | some d => match g d env with
        | some env1 => (body env1 w).bind fun f w1 => (match f with
          | .nx e => forGoC g body cur n (i + 1) e w1
          | .ct e => forGoC g body cur n (i + 1) e w1
          | .bk e => .ok (.nx e) w1
          | .rt r => .ok (.rt r) w1)
        | none => .stuck
def sForC (src : SrcW) (g : Tgt) (body : Sd) : Sd := fun env w => (src env w).bind fun cur w1 => match cur w1 with
  | some l => forGoC g body cur (l.length + 1) 0 env w1
  | none => .stuck
section
variable {X : Cx} {T : Tbs} {Wi : WX} {pos : Pos} {b : Sd}
end
def compGoC (g : Tgt) (tt : Tst) (elt : Ex) (env0 : Ev) (cur : Cur) : Nat → Nat → World → Out (List D)
  | 0, _, _ => .stuck
  | n + 1, i, w => match cur w with
    | none => .stuck
    | some l => match l[i]? with
      | none => .ok [] w
      | some d => match g d env0 with
        | none => .stuck
        | some env1 => (noX (tt env1 w)).bind fun b w1 => if b = true then (noX (elt env1 w1)).bind fun r w2 => (match r.st with
            | some x => (compGoC g tt elt env0 cur n (i + 1) w2).bind fun xs w3 => .ok (x :: xs) w3
            | none => .stuck)
          else compGoC g tt elt env0 cur n (i + 1) w1
def dCompC (src : SrcW) (vs : List Nat) (g : Tgt) (tt : Tst) (elt : Ex) : Ex := fun env w => (src env w).bind fun cur w1 => match cur w1 with
  | some l => (compGoC g tt elt (wipeE env vs) cur (l.length + 1) 0 w1).bind fun xs w2 => .ok (.fresh xs) w2
  | none => .stuck
section
variable {X : Cx} {T : Tbs} {Wi : WX} {pos : Pos}
end
def sAugIx (i : Nat) (f : Int → Int → Int) (ix e : Ex) : Sd := fun env w => match env[i]? with
  | some (.own l) => (ix env w).bind fun k w1 => (match k with
    | .dat (.int z) => (match atI l z, ixN l.length z with
      | some (.int a), some j => (e env w1).bind fun r w2 => (match r with
        | .dat (.int b) => .ok (.nx (env.set i (.own (l.set j (.int (f a b)))))) w2
        | _ => .stuck)
      | _, _ => .stuck)
    | _ => .stuck)
  | _ => .stuck
section
variable {X : Cx} {T : Tbs} {Wi : WX} {pos : Pos} {e : Expr} {d : Ex}
end
@[simp] theorem iRefW_ap {e : Ex} {env : Ev} {w : World} : iRefW e env w = (e env w).bind fun r w1 => match r with
  | .wref k => match w1[k]? with
    | some (.lst _) => .ok (curL k) w1
    | _ => .stuck
  | _ => .stuck := rfl
@[simp] theorem iZipW_ap {es : Exs} {env : Ev} {w : World} : iZipW es env w = (es env w).bind fun rs w1 => match rs with
  | [.wref j, .wref k] => match w1[j]?, w1[k]? with
    | some (.lst _), some (.lst _) => .ok (curZ j k) w1
    | _, _ => .stuck
  | _ => .stuck := rfl
@[simp] theorem sForC_ap {src : SrcW} {g : Tgt} {body : Sd} {env : Ev} {w : World} : sForC src g body env w = (src env w).bind fun cur w1 => match cur w1 with
  | some l => forGoC g body cur (l.length + 1) 0 env w1
  | none => .stuck := rfl
@[simp] theorem dCompC_ap {src : SrcW} {vs : List Nat} {g : Tgt} {tt : Tst} {elt : Ex} {env : Ev} {w : World} : dCompC src vs g tt elt env w = (src env w).bind fun cur w1 => match cur w1 with
  | some l => (compGoC g tt elt (wipeE env vs) cur (l.length + 1) 0 w1).bind fun xs w2 => .ok (.fresh xs) w2
  | none => .stuck := rfl
@[simp] theorem sAugIx_ap {i : Nat} {f : Int → Int → Int} {ix e : Ex} {env : Ev} {w : World} : sAugIx i f ix e env w = match env[i]? with
  | some (.own l) => (ix env w).bind fun k w1 => (match k with
    | .dat (.int z) => (match atI l z, ixN l.length z with
      | some (.int a), some j => (e env w1).bind fun r w2 => (match r with
        | .dat (.int b) => .ok (.nx (env.set i (.own (l.set j (.int (f a b)))))) w2
        | _ => .stuck)
      | _, _ => .stuck)
    | _ => .stuck)
  | _ => .stuck := rfl
end Dl
namespace Dl
open PySem PySem.Spec PyProof.Rows L2 NdefX RZ
def dAsW (e : Ex) : Ex := fun env w => (e env w).bind fun r w1 => match r with
  | .fresh l => .ok (.wref w1.length) (w1 ++ [.lst l])
  | _ => .stuck
@[simp] theorem dAsW_ap {e : Ex} {env : Ev} {w : World} : dAsW e env w = (e env w).bind fun r w1 => match r with
  | .fresh l => .ok (.wref w1.length) (w1 ++ [.lst l])
  | _ => .stuck := rfl
def fvOf : RV → Option FV
  | .dat d => some (.dat d)
  | .wref k => some (.ref k)
  | _ => none
def fvsOf : List RV → Option (List FV)
  | [] => some []
  | r :: rs => match fvOf r, fvsOf rs with
    | some x, some xs => some (x :: xs)
    | _, _ => none
def dNewFl (es : Exs) : Ex := fun env w => (es env w).bind fun rs w1 => match fvsOf rs with
  | some fs => if fs.length ≤ 1000 then .ok (.wref w1.length) (w1 ++ [.fls fs]) else .stuck
  | none => .stuck
@[simp] theorem dNewFl_ap {es : Exs} {env : Ev} {w : World} : dNewFl es env w = (es env w).bind fun rs w1 => match fvsOf rs with
  | some fs => if fs.length ≤ 1000 then .ok (.wref w1.length) (w1 ++ [.fls fs]) else .stuck
  | none => .stuck := rfl
theorem fvs_at {X : Tx} {Hs : Hp} {env : Ev} {O : Nat → Addr} {H F : Hp} {M : List Addr} : ∀ {vs : List V} {rs : List RV} {fs : List FV}, Paired (fun v r => RV.isAt X Hs env O H F M v r) vs rs → fvsOf rs = some fs → Paired (fun v f => f.isAt X.K F M v) vs fs
  | _, _, _, .nil, e => by
    cases e
    exact .nil
  | _, _, fs, .cons (b := r) h t, e => by
    unfold fvsOf at e
    split at e
    · rename_i x xs e1 e2
      cases e
      refine .cons ?_ (fvs_at t e2)
      cases r with
      | dat d => cases e1; exact h
      | wref k => cases e1; exact h
      | fresh l => cases e1
      | bor i l => cases e1
    · cases e
def flsD (w : World) : List FV → Option (List D)
  | [] => some []
  | .dat d :: r => (flsD w r).map (d :: ·)
  | .ref k :: r => match w[k]? with
    | some (.lst l) => (flsD w r).map (.lst l :: ·)
    | _ => none
  | .un :: _ => none
theorem flsD_at {X : Tx} {H F : Hp} {M : List Addr} {w : World} (fh : Same F H) (wr : WRel X F H M w) : ∀ {vs : List V} {es : List FV} {ds : List D}, Paired (fun v f => f.isAt X.K F M v) vs es → flsD w es = some ds → Paired (Rp X.K H) vs ds
  | _, _, _, .nil, e => by
    cases e
    exact .nil
  | _, _, _, .cons (b := f) h t, e => by
    cases f with
    | un => cases e
    | dat d =>
      unfold flsD at e
      cases e2 : flsD w _ with
      | none => rw [e2] at e; cases e
      | some ds =>
        rw [e2] at e
        cases e
        exact .cons (Rp.mono fh _ _ h) (flsD_at fh wr t e2)
    | ref k =>
      unfold flsD at e
      split at e
      · rename_i l ew
        cases e2 : flsD w _ with
        | none => rw [e2] at e; cases e
        | some ds =>
          rw [e2] at e
          cases e
          obtain ⟨m, em, rfl⟩ := h
          obtain ⟨m', em', hF, ez, ws, e5, e6⟩ := wr.get ew
          rw [em] at em'; cases em'
          exact .cons (.lst ez (SqL.of e5) (Rp.monoAll fh _ _ e6)) (flsD_at fh wr t e2)
      · cases e
def dNeFl (rm : Nat) (a b : Ex) : Ex := fun env w => (a env w).bind fun ra w1 => (b env w1).bind fun rb w2 => match ra with
  | .wref k => (match w2[k]?, rb.val with
    | some (.fls es), some e => (match flsD w2 es with
      | some ds => if min (D.lst ds).dep e.dep ≤ rm then .ok (.dat (.bl (!(D.lst ds).eq e))) w2 else .stuck
      | none => .stuck)
    | _, _ => .stuck)
  | _ => .stuck
@[simp] theorem dNeFl_ap {rm : Nat} {a b : Ex} {env : Ev} {w : World} : dNeFl rm a b env w = (a env w).bind fun ra w1 => (b env w1).bind fun rb w2 => match ra with
  | .wref k => (match w2[k]?, rb.val with
    | some (.fls es), some e => (match flsD w2 es with
      | some ds => if min (D.lst ds).dep e.dep ≤ rm then .ok (.dat (.bl (!(D.lst ds).eq e))) w2 else .stuck
      | none => .stuck)
    | _, _ => .stuck)
  | _ => .stuck := rfl
def isiW (t : Ty) (r : RV) (w : World) : Out RV := match r with
  | .wref k => (match w[k]? with
    | some (.lst l) => .ok (.dat (.bl ((D.lst l).isTy t))) w
    | _ => .stuck)
  | _ => .stuck
def dIsiW (t : Ty) (a : Ex) : Ex := fun env w => (a env w).bind (isiW t)
@[simp] theorem dIsiW_ap {t : Ty} {a : Ex} {env : Ev} {w : World} : dIsiW t a env w = (a env w).bind (isiW t) := rfl
section
variable {X : Cx} {T : Tbs} {Wi : WX} {pos p p1 : Pos} {e a b : Expr} {d da db : Ex} {es : List Expr} {ds : Exs}
theorem je_asW (h : JE X T Wi e d) : JE X T Wi e (dAsW d) := by
  refine h.impD fun σ H Q q => ?_
  obtain ⟨B, env, w, F, O, M, s, q⟩ := q
  refine ⟨B, env, w, F, O, M, s, q.bind.imp fun r w1 q1 v H1 F1 M1 s1 st1 r1 => ?_⟩
  split at q1
  case h_2 => exact q1.elim
  rename_i l
  obtain ⟨hz, p, vs, rfl, e2, e3, e4, e5, e6, e7⟩ := fresh_out (r := .fresh l) s r1
  obtain ⟨_, p', vs', ep, hH, _⟩ := r1
  cases ep
  have hl : M1.length = w1.length := s1.wr.at_.length
  have ak : (M1 ++ [p])[w1.length]? = some p := by rw [← hl]; simp
  have stF : Stp H F M H1 F1 (M1 ++ [p]) := by
    refine ⟨st1.fg, st1.fr, st1.th, st1.nf, ?_⟩
    obtain ⟨nw, en, hn⟩ := st1.mw
    refine ⟨nw ++ [p], by rw [en, List.append_assoc], fun m hm => ?_⟩
    rcases List.mem_append.mp hm with z | z
    · exact hn m z
    · rw [List.mem_singleton.mp z]; exact hH
  exact q1 _ H1 F1 (M1 ++ [p]) (s1.addW (o := .lst l) e2 e3 e4 e7 ⟨hz, vs, e5, e6⟩) stF ⟨p, ak, rfl⟩
theorem je_newFl (h : JR X T Wi es ds) : JE X T Wi (.List es pos) (dNewFl ds) := by
  refine (pe_lst h).impD fun σ H Q q => ?_
  obtain ⟨B, env, w, F0, O, M0, s0, q⟩ := q
  refine ⟨B, env, w, F0, O, M0, s0, q.bind.imp fun rs w1 q1 vs H1 F M s st1 p1 => ?_⟩
  split at q1
  case h_2 => exact q1.elim
  rename_i l el
  split at q1
  case isFalse => exact q1.elim
  rename_i hz
  have pp := fvs_at p1 el
  have hz' : l.length ≤ sizeLine := Nat.le_trans hz (by rw [sizeLine_eq]; decide)
  refine ⟨by rw [pp.length]; exact hz', fun a ha => ?_⟩
  have hl : M.length = w1.length := s.wr.at_.length
  have sm : Same H1 (upd H1 a (.lst vs)) := same_upd ha
  have xt : Xt H1 F (upd H1 a (.lst vs)) F := ⟨sm, Same.refl _, s.fh.trans sm, fun _ _ z => z, s.nt⟩
  have aM : a ∉ M := fun z => s.wr.there z ha
  have aF : F a = none := s.fh.free ha
  have s2 := s.xt xt
  have hat : upd H1 a (.lst vs) a = some (.lst vs) := upd_same
  generalize upd H1 a (.lst vs) = H2 at *
  have wr2 : WRel (Cx.tx X T) F H2 (M ++ [a]) (w1 ++ [.fls l]) := ⟨List.nodup_append.mpr ⟨s.wr.nd, by simp, fun b hb' c hc z => by
    rw [List.mem_singleton.mp hc] at z
    exact aM (z ▸ hb')⟩, Pr.append (Paired.mapP s2.wr.at_ fun _ _ h => ⟨h.1, WO.more h.2 fun _ _ h => mem_of_pfx rfl h⟩) (.cons ⟨aF, ⟨hz', vs, hat, Paired.mapP pp fun _ _ z => FV.keep z (Same.refl _) fun _ _ h => mem_of_pfx rfl h⟩⟩ .nil)⟩
  have st2 : Stp H1 F M H2 F (M ++ [a]) := ⟨Same.refl _, fun b o _ _ z => sm b o z, fun b z z' => z (sm.free z'), fun _ _ z => z, [a], rfl, fun m hm => by rw [List.mem_singleton.mp hm]; exact ha⟩
  have s3 := s.step st2 s2.fh s2.nt wr2 s2.tb
  have ak : (M ++ [a])[w1.length]? = some a := by rw [← hl]; simp
  exact q1 _ H2 F (M ++ [a]) s3 (st1.trans st2) ⟨a, ak, rfl⟩
theorem or_neR {rm : Nat} (hu : X.A.units + rm < cLine) : OpR X (compareOp .NotEq) (fun x y H Q => ∃ d e : D, Rp X.K H x d ∧ Rp X.K H y e ∧ min d.dep e.dep ≤ rm ∧ Q (.bl (!d.eq e)) H) := by
  intro pins s σ H x y v u Q I rx ry h
  obtain ⟨d, e, h1, h2, hm, q⟩ := h
  obtain ⟨as, r1⟩ := Rp.reads I d x v h1 rx
  obtain ⟨bs, r2⟩ := Rp.reads I e y u h2 ry
  have a1 := d.dep_py
  have a2 := e.dep_py
  refine Em.neD d e X.A s v u as bs r1 r2 (h1.okS d x) (h2.okS e y) (small_of hu hm) (by omega) X.prog X.w _ _ ?_
  rw [Em.eq_py d e (h1.okS d x) (h2.okS e y) (small_of hu hm)]
  exact ⟨.bl _, H, I, rfl, q⟩
theorem neFl_read {rm : Nat} {σ : St} {H : Hp} {Q : VK} (q : tD (Cx.tx X T) Wi (dNeFl rm da db) σ H Q) : tOp (fun x y H Q => ∃ d e : D, Rp X.K H x d ∧ Rp X.K H y e ∧ min d.dep e.dep ≤ rm ∧ Q (.bl (!d.eq e)) H) (tD (Cx.tx X T) Wi da) (tD (Cx.tx X T) Wi db) σ H Q := by
  obtain ⟨B, env, w, F, O, M, s, q⟩ := q
  refine ⟨B, env, w, F, O, M, s, q.bind.imp fun ra w1 q1 x H1 F1 M1 s1 st1 r1 => ?_⟩
  refine ⟨B, env, w1, F1, O, M1, s1, q1.bind.imp fun rb w2 q2 y H2 F2 M2 s2 st2 r2 => ?_⟩
  split at q2
  case h_2 => exact q2.elim
  rename_i k
  split at q2
  case h_2 => exact q2.elim
  rename_i es e ew er
  split at q2
  case h_2 => exact q2.elim
  rename_i ds ed
  split at q2
  case isFalse => exact q2.elim
  rename_i hd
  obtain ⟨m, em, rfl⟩ := r1
  obtain ⟨nw, en, _⟩ := id st2.mw
  obtain ⟨m', em', hF, ho⟩ := Pr.get s2.wr.at_ ew
  rw [mem_of_pfx en em] at em'; cases em'
  obtain ⟨ez, vs, e5, e6⟩ := FlsAt.ex ho
  have p5 := flsD_at s2.fh s2.wr e6 ed
  have hl : ds.length ≤ sizeLine := by rw [← p5.length, e6.length]; exact ez
  exact ⟨.lst ds, e, .lst hl (SqL.of e5) p5, (RV.rv s2 r2 er).rp s2.fh, hd, q2 _ H2 F2 M2 s2 (st1.trans st2) (.bl _)⟩
theorem jt_neFl {rm : Nat} (hu : X.A.units + rm < cLine) (ha : JE X T Wi a da) (hb : JE X T Wi b db) (hm : behindInMarks .NotEq b = false := by first | exact nomark _ | rfl) : JT X T Wi (.Compare a [.NotEq] [b] pos) (dTst (dNeFl rm da db)) :=
  (pt_cmpR (or_neR hu) ha hb hm).impD fun σ H Q q => neFl_read (tst_read q)
theorem je_isiW {t : Ty} {y : Str} (hg : Gl X "isinstance") (hm : X.mg "isinstance" = none) (hgt : Gl X y) (hmt : X.mg y = none) (hvt : bootBuiltins y = some (.type t.nm)) (ha : JE X T Wi a da)
    (hnt : y ≠ "__name__" := by decide) (hdt : (y == ("__debug__" : Str)) = false := by decide)
    (he : starEach (a :: [.Name y p1]) X.env = (false, eval a X.env) :: starEach [.Name y p1] X.env := by rfl) (hpl : (backTo pos (starEach [.Name y p1] X.env)).any (·.1) = false := by rfl)
    (he2 : starEach [.Name y p1] X.env = (false, eval (.Name y p1) X.env) :: starEach [] X.env := by rfl) : JE X T Wi (.Call (.Name "isinstance" p) [a, .Name y p1] [] pos) (dIsiW t da) := by
  refine (pe_callB call_isi hg hm boot_isinstance (pa_cons ha (pa_cons (pe_bltn hgt hmt hvt (v := .ty t.nm) rfl hnt hdt) pa_nil he2) he) (by decide) (by decide) he hpl).impD fun σ H Q q => ?_
  obtain ⟨B, env, w, F, O, M, s, q⟩ := q
  refine ⟨B, env, w, F, O, M, s, q.bind.imp fun ra w1 q1 x H1 F1 M1 s1 st1 r1 => ?_⟩
  unfold isiW at q1
  split at q1
  case h_2 => exact q1.elim
  rename_i k
  split at q1
  case h_2 => exact q1.elim
  rename_i l ew
  obtain ⟨m, em, rfl⟩ := r1
  obtain ⟨m', em', hF, ez, vs, e5, e6⟩ := s1.wr.get ew
  rw [em] at em'; cases em'
  have rv : Rv X.K F1 H1 (.ref m) (.lst l) := ⟨ez, m, vs, rfl, SqL.of e5, e6⟩
  exact ⟨.ref m, .ty t.nm, .type (D.lst l).tyName, .type t.nm, (D.lst l).isTy t, rfl, .ty _, tyX_of s1.fh rv, kit_ty (kit_isTy (.lst l) t), q1 _ H1 F1 M1 s1 st1 (.bl _)⟩
end
def gR (i : Nat) (x : FV) (env : Ev) : Option Ev := match x with
  | .un => none
  | .dat d => some (env.set i (.dat d))
  | .ref k => some (env.set i (.wref k))
def tGF (X : Tx) (g : Nat) (vs : List Nat) : TG := fun v σ H Q => ∃ B env w F O M d env', SR X B env w σ H F O M ∧ FV.isAt X.K F M v d ∧ gR g d env = some env' ∧
  ∀ σ', SR X B env' w σ' H F O M → (∀ us : List Nat, (∀ i ∈ vs, i ∈ us) → wipe σ' us = wipe σ us) → Q σ' H
abbrev JGF (X : Cx) (T : Tbs) (tg : Expr) (g : Nat) (vs : List Nat) : Prop := PG X tg (tGF (Cx.tx X T) g vs)
abbrev CurF := World → Option (List FV)
abbrev SrcF := Ev → World → Out CurF
structure WalkF (X : Tx) (M0 : List Addr) (F0 : Hp) (cur : CurF) (J : It) : Prop where
  bd : ∀ w F H M nw l, M = M0 ++ nw → Same F0 F → Same F H → WRel X F H M w → cur w = some l → l.length ≤ sizeLine
  go : ∀ i w F H M nw l, M = M0 ++ nw → Same F0 F → Same F H → WRel X F H M w → cur w = some l → i < l.length → J.go i H
  stop : ∀ i w F H M nw l, M = M0 ++ nw → Same F0 F → Same F H → WRel X F H M w → cur w = some l → l.length ≤ i → J.stop i H
  yld : ∀ i w F H M nw l x H' d, M = M0 ++ nw → Same F0 F → Same F H → NoTbl F → WRel X F H M w → cur w = some l → J.yld i H x H' → l[i]? = some d → ∃ F', Xt H F H' F' ∧ FV.isAt X.K F' M x d
def tItF (X : Tx) (Wi : WX) (e : SrcF) : TI := fun σ H R => ∃ B env w F O M, SR X B env w σ H F O M ∧
  Pst (e env w) (fun cur w' => ∀ J H' F' M', SR X B env w' σ H' F' O M' → Stp H F M H' F' M' → WalkF X M' F' cur J → R J H') (badX X B Wi)
abbrev JIF (X : Cx) (T : Tbs) (Wi : WX) (tg it : Expr) (d : SrcF) : Prop := PI X tg it (tItF (Cx.tx X T) Wi d)
def curF (k : Nat) : CurF := fun w => match w[k]? with
  | some (.fls l) => some l
  | _ => none
@[simp] theorem curF_ap {k : Nat} {w : World} {l : List FV} (h : w[k]? = some (.fls l)) : curF k w = some l := by unfold curF; rw [h]
def iRefF (e : Ex) : SrcF := fun env w => (e env w).bind fun r w1 => match r with
  | .wref k => match w1[k]? with
    | some (.fls _) => .ok (curF k) w1
    | _ => .stuck
  | _ => .stuck
@[simp] theorem iRefF_ap {e : Ex} {env : Ev} {w : World} : iRefF e env w = (e env w).bind fun r w1 => match r with
  | .wref k => match w1[k]? with
    | some (.fls _) => .ok (curF k) w1
    | _ => .stuck
  | _ => .stuck := rfl
theorem curF_at {X : Tx} {M M0 nw : List Addr} {F H : Hp} {w : World} {k : Nat} {m : Addr} {l : List FV} (em : M0[k]? = some m) (e : M = M0 ++ nw) (wr : WRel X F H M w) (c : curF k w = some l) : l.length ≤ sizeLine ∧ ∃ vs, SqL X.K H m vs ∧ Paired (fun v f => f.isAt X.K F M v) vs l := by
  unfold curF at c
  split at c
  · rename_i l' ew
    cases c
    obtain ⟨m', em', hF, ho⟩ := Pr.get wr.at_ ew
    rw [mem_of_pfx e em] at em'; cases em'
    obtain ⟨ez, vs, e5, e6⟩ := FlsAt.ex ho
    exact ⟨ez, vs, SqL.of e5, e6⟩
  · cases c
theorem walkF_lst {X : Tx} {M0 : List Addr} {F0 : Hp} {k : Nat} {m : Addr} (em : M0[k]? = some m) : WalkF X M0 F0 (curF k) (Itl X.K m) := by
  refine ⟨fun w F H M nw l e f fh wr c => (curF_at em e wr c).1, fun i w F H M nw l e f fh wr c hi => ?_, fun i w F H M nw l e f fh wr c hi => ?_, fun i w F H M nw l x H' d e f fh nt wr c y hd => ?_⟩
  · obtain ⟨_, vs, hs, p⟩ := curF_at em e wr c
    have hv : i < vs.length := by rw [p.length]; exact hi
    exact ⟨vs, vs[i], hs, List.getElem?_eq_getElem hv⟩
  · obtain ⟨_, vs, hs, p⟩ := curF_at em e wr c
    exact ⟨vs, hs, by rw [p.length]; exact hi⟩
  · obtain ⟨_, vs, hs, p⟩ := curF_at em e wr c
    obtain ⟨rfl, y⟩ := y
    have q := y vs hs
    obtain ⟨v, ev, rv⟩ := Pr.get p hd
    rw [ev] at q; cases q
    exact ⟨F, Xt.refl fh nt, rv⟩
section
variable {X : Cx} {T : Tbs} {Wi : WX} {e tg : Expr} {d : Ex} {pos : Pos}
theorem jgf_name {i : Nat} {x : Str} (h : PG X (.Name x pos) (gName i)) : JGF X T (.Name x pos) i [i] := by
  refine h.impD fun v σ H Q q => ?_
  obtain ⟨B, env, w, F, O, M, d, env', s, r, e, q⟩ := q
  cases d with
  | un => cases e
  | dat d => cases e; exact q _ (s.setDat r) fun us hu => wipe_set (hu i (by simp))
  | ref k =>
    cases e
    obtain ⟨m, em, rfl⟩ := r
    exact q _ (s.setRef em) fun us hu => wipe_set (hu i (by simp))
theorem jif_ref (h : JE X T Wi e d) : JIF X T Wi tg e (iRefF d) := by
  refine (pi_list h).impD fun σ H Q q => ?_
  obtain ⟨B, env, w, F, O, M, s, q⟩ := q
  refine ⟨B, env, w, F, O, M, s, q.bind.imp fun r w1 q1 v H1 F1 M1 s1 st1 r1 => ?_⟩
  split at q1
  · rename_i k
    split at q1
    · rename_i l ew
      obtain ⟨m, em, rfl⟩ := r1
      obtain ⟨m', em', hF, ho⟩ := Pr.get s1.wr.at_ ew
      rw [em] at em'; cases em'
      obtain ⟨ez, vs, e5, e6⟩ := FlsAt.ex ho
      exact ⟨m, rfl, ⟨vs, SqL.of e5⟩, q1 _ H1 F1 M1 s1 st1 (walkF_lst em)⟩
    · exact q1.elim
  · exact q1.elim
end
def forGoF (g : Nat) (body : Sd) (cur : CurF) : Nat → Nat → Sd
  | 0, _, _, _ => .stuck
  | n + 1, i, env, w => match cur w with
    | none => .stuck
    | some l => match l[i]? with
      | none => .ok (.nx env) w
      | some d => match gR g d env with
        | some env1 => (body env1 w).bind fun f w1 => (match f with
          | .nx e => forGoF g body cur n (i + 1) e w1
          | .ct e => forGoF g body cur n (i + 1) e w1
          | .bk e => .ok (.nx e) w1
          | .rt r => .ok (.rt r) w1)
        | none => .stuck
def sForF (src : SrcF) (g : Nat) (body : Sd) : Sd := fun env w => (src env w).bind fun cur w1 => match cur w1 with
  | some l => forGoF g body cur (l.length + 1) 0 env w1
  | none => .stuck
section
variable {X : Cx} {T : Tbs} {Wi : WX} {pos : Pos} {b : Sd}
theorem js_forF {tg iter : Expr} {body : List Stmt} {src : SrcF} {g : Nat} {us : List Nat} (hp : PassesOwn (model X.prog X.w) X.A X.env X.xe) (hc : X.calm = true) (hi : JIF X T Wi tg iter src) (hg : JGF X T tg g us) (hb : JSs X T Wi body b)
    (hs : ∀ x, foldedSetIterable iter X.env x = pure x := by intro _; rfl) : JS X T Wi (.For tg iter body [] pos) (sForF src g b) := by
  refine (ps_for hp hc hi hg hb hs).impD fun D σ H q => ?_
  obtain ⟨B, env, w, F, O, M, s, q⟩ := q
  refine ⟨B, env, w, F, O, M, s, q.bind.imp fun cur w1 q1 J H1 F1 M1 s1 st1 wk => ?_⟩
  split at q1
  case h_2 => exact q1.elim
  rename_i l0 el0
  obtain ⟨nwB, eB, hB⟩ := id s1.st.mw
  have conv : ∀ {n i : Nat} {env : Ev} {w : World} {F2 : Hp}, Same F F2 → Pst (forGoF g b cur n i env w) (flG (Cx.tx X T) B F D) (badX (Cx.tx X T) B Wi) → Pst (forGoF g b cur n i env w) (flG (Cx.tx X T) (B.wide M1) F2 D) (badX (Cx.tx X T) (B.wide M1) Wi) :=
    fun k h => h.mono (fun f w z => (z.later k).wide eB hB) (fun x e w z => z.wide eB hB)
  refine ⟨fun i n σ H => ∃ env w F O M nw, SR (Cx.tx X T) (B.wide M1) env w σ H F O M ∧ Same F1 F ∧ M = M1 ++ nw ∧ Pst (forGoF g b cur n i env w) (flG (Cx.tx X T) (B.wide M1) F D) (badX (Cx.tx X T) (B.wide M1) Wi), ⟨l0.length + 1, env, w1, F1, O, M1, [], s1.wideM, Same.refl _, by simp, conv st1.fg q1⟩, ?_⟩
  rintro i n σ' H' ⟨env', w', F', O', M', nw', s', sf, eM, qq⟩
  cases n with
  | zero => exact qq.elim
  | succ n =>
    unfold forGoF at qq
    split at qq
    case h_1 => exact qq.elim
    rename_i l el
    split at qq
    · rename_i hn
      exact .inl ⟨wk.stop i w' F' H' M' nw' l eM sf s'.fh s'.wr el (List.getElem?_eq_none_iff.mp hn), qq σ' H' F' O' M' s' (Same.refl _)⟩
    · rename_i dd hd
      have hlt : i < l.length := (List.getElem?_eq_some_iff.mp hd).1
      refine .inr ⟨wk.go i w' F' H' M' nw' l eM sf s'.fh s'.wr el hlt, fun σ H => ∃ env w F O M nw, SR (Cx.tx X T) (B.wide M1) env w σ H F O M ∧ Same F1 F ∧ M = M1 ++ nw ∧ Pst (forGoF g b cur n (i + 1) env w) (flG (Cx.tx X T) (B.wide M1) F D) (badX (Cx.tx X T) (B.wide M1) Wi), fun σ H z => ⟨n, Nat.lt_succ_self _, z⟩, fun x H2 hy => ?_⟩
      obtain ⟨F2, xt2, rx⟩ := wk.yld i w' F' H' M' nw' l x H2 dd eM sf s'.fh s'.nt s'.wr el hy hd
      have s2 := s'.xt xt2
      split at qq
      · rename_i env1 eg
        refine ⟨B.wide M1, env', w', F2, O', M', dd, env1, s2, rx, eg, fun σ3 s3 _ => ?_⟩
        refine ⟨B.wide M1, env1, w', F2, O', M', s3, qq.bind.imp fun f w4 q4 => ?_⟩
        cases f with
        | nx e =>
          intro σ5 H5 F5 O5 M5 s5 k
          obtain ⟨nw, en, _⟩ := id s5.st.mw
          exact ⟨e, w4, F5, O5, M5, nw, s5, (sf.trans xt2.ff).trans k, en, q4.imp fun f w z => z.later (xt2.ff.trans k)⟩
        | ct e =>
          intro σ5 H5 F5 O5 M5 s5 k
          obtain ⟨nw, en, _⟩ := id s5.st.mw
          exact ⟨e, w4, F5, O5, M5, nw, s5, (sf.trans xt2.ff).trans k, en, q4.imp fun f w z => z.later (xt2.ff.trans k)⟩
        | bk e => exact fun σ5 H5 F5 O5 M5 s5 k => q4 σ5 H5 F5 O5 M5 s5 (xt2.ff.trans k)
        | rt r => exact q4
      · exact qq.elim
end
def compGoF (g : Nat) (tt : Tst) (elt : Ex) (env0 : Ev) (cur : CurF) : Nat → Nat → World → Out (List D)
  | 0, _, _ => .stuck
  | n + 1, i, w => match cur w with
    | none => .stuck
    | some l => match l[i]? with
      | none => .ok [] w
      | some d => match gR g d env0 with
        | none => .stuck
        | some env1 => (noX (tt env1 w)).bind fun b w1 => if b = true then (noX (elt env1 w1)).bind fun r w2 => (match r.st with
            | some x => (compGoF g tt elt env0 cur n (i + 1) w2).bind fun xs w3 => .ok (x :: xs) w3
            | none => .stuck)
          else compGoF g tt elt env0 cur n (i + 1) w1
def dCompF (src : SrcF) (vs : List Nat) (g : Nat) (tt : Tst) (elt : Ex) : Ex := fun env w => (src env w).bind fun cur w1 => match cur w1 with
  | some l => (compGoF g tt elt (wipeE env vs) cur (l.length + 1) 0 w1).bind fun xs w2 => .ok (.fresh xs) w2
  | none => .stuck
theorem compGoF_nx {g : Nat} {tt : Tst} {elt : Ex} {env0 : Ev} {cur : CurF} : ∀ (n i : Nat) (w : World) (x : Exn) (e : Ev) (w2 : World), compGoF g tt elt env0 cur n i w ≠ .exc x e w2 := by
  intro n
  induction n with
  | zero => intro i w x e w2 z; cases z
  | succ n ih =>
    intro i w x e w2 z
    unfold compGoF at z
    split at z
    · cases z
    split at z
    · cases z
    split at z
    · cases z
    · rename_i env1 _
      cases h1 : tt env1 w with
      | stuck => rw [h1] at z; cases z
      | exc _ _ _ => rw [h1] at z; cases z
      | ok b w3 =>
        rw [h1] at z
        simp only [noX_ok, bind_ok] at z
        split at z
        · cases h2 : elt env1 w3 with
          | stuck => rw [h2] at z; cases z
          | exc _ _ _ => rw [h2] at z; cases z
          | ok r w4 =>
            rw [h2] at z
            simp only [noX_ok, bind_ok] at z
            split at z
            · cases h3 : compGoF g tt elt env0 cur n (i + 1) w4 with
              | stuck => rw [h3] at z; cases z
              | exc a b c => exact ih _ _ _ _ _ h3
              | ok a b => rw [h3] at z; cases z
            · cases z
        · exact ih _ _ _ _ _ z
section
variable {X : Cx} {T : Tbs} {Wi : WX} {pos : Pos}
theorem lc_readF {src : SrcF} {g : Nat} {tt : Tst} {elt : Ex} {vs us : List Nat} (hvs : ∀ i ∈ us, i ∈ vs) {σ : St} {H : Hp} {Q : VK} (q : tD (Cx.tx X T) Wi (dCompF src vs g tt elt) σ H Q) :
    tLc (tItF (Cx.tx X T) Wi src) (tGF (Cx.tx X T) g us) (tT (Cx.tx X T) noW tt) (tD (Cx.tx X T) noW elt) vs σ H Q := by
  obtain ⟨B, env, w, F, O, M, s, q⟩ := q
  refine ⟨B, env, w, F, O, M, s, q.bind.imp fun cur w1 q1 J H1 F1 M1 s1 st1 wk D hD => ?_⟩
  split at q1
  case h_2 => exact q1.elim
  rename_i l0 el0
  have q1 := q1.bind
  have hB : B.H D = none := by
    cases z : B.H D with
    | none => rfl
    | some o => exact absurd hD (s1.st.th D (by rw [z]; simp))
  have hH : H D = none := by
    cases z : H D with
    | none => rfl
    | some o => exact absurd hD (st1.th D (by rw [z]; simp))
  have hO : ∀ i k, env[i]? = some (.own k) → O i ≠ D := fun i k e z => by
    obtain ⟨_, _, _, _, _, ws, q', _⟩ := s.sl i _ e
    rw [z, hH] at q'; cases q'
  refine ⟨fun i n H' => ∃ w' es F' M' vsD nw, M' = M1 ++ nw ∧ es.length ≤ i ∧ es.length ≤ sizeLine ∧ SR (Cx.tx X T) B env w' σ H' F' O M' ∧ Stp H F M H' F' M' ∧ Same F1 F' ∧ H' D = some (.lst vsD) ∧ F' D = none ∧ D ∉ M' ∧ Paired (Rp X.K F') vsD es ∧
      Pst (compGoF g tt elt (wipeE env vs) cur n i w') (fun rest w2 => ∀ v H2 F2 M2, SR (Cx.tx X T) B env w2 σ H2 F2 O M2 → Stp H F M H2 F2 M2 → RV.isAt (Cx.tx X T) H env O H2 F2 M2 v (.fresh (es ++ rest)) → Q v H2) (fun _ _ _ => False), ⟨l0.length + 1, w1, [], F1, M1, [], [], by simp, Nat.le_refl _, Nat.zero_le _, ?_⟩, ?_⟩
  · have xt : Xt H1 F1 (upd H1 D (.lst [])) F1 := Xt.newL s1.fh s1.nt hD
    refine ⟨s1.xt xt, st1.trans xt.stp, Same.refl _, upd_same, s1.fh.free hD, fun z => s1.wr.there z hD, .nil, ?_⟩
    cases eg : compGoF g tt elt (wipeE env vs) cur (l0.length + 1) 0 w1 with
    | stuck => rw [eg] at q1; exact q1.elim
    | ok rest w2 => rw [eg] at q1; exact fun v H2 F2 M2 s2 st2 r2 => q1 v H2 F2 M2 s2 st2 r2
    | exc x e' w2 => exact absurd eg (compGoF_nx _ _ _ _ _ _)
  · rintro i n H' ⟨w', es, F', M', vsD, nw, eM, hes, hez, sr, st, sf, hDl, hFD, hMD, pd, qq⟩
    cases n with
    | zero => exact qq.elim
    | succ n =>
      unfold compGoF at qq
      split at qq
      case h_1 => exact qq.elim
      rename_i l el
      split at qq
      · rename_i hn
        refine .inl ⟨wk.stop i w' F' H' M' nw l eM sf sr.fh sr.wr el (List.getElem?_eq_none_iff.mp hn), ?_⟩
        have qq' : ∀ v H2 F2 M2, SR (Cx.tx X T) B env w' σ H2 F2 O M2 → Stp H F M H2 F2 M2 → RV.isAt (Cx.tx X T) H env O H2 F2 M2 v (.fresh (es ++ [])) → Q v H2 := qq
        rw [List.append_nil] at qq'
        exact qq' _ H' F' M' sr st ⟨hez, D, vsD, rfl, hH, hFD, hMD, hDl, pd⟩
      · rename_i dd hd
        have hlt : i < l.length := (List.getElem?_eq_some_iff.mp hd).1
        refine .inr ⟨wk.go i w' F' H' M' nw l eM sf sr.fh sr.wr el hlt, fun H'' => ∃ w' es F' M' vsD nw, M' = M1 ++ nw ∧ es.length ≤ i + 1 ∧ es.length ≤ sizeLine ∧ SR (Cx.tx X T) B env w' σ H'' F' O M' ∧ Stp H F M H'' F' M' ∧ Same F1 F' ∧ H'' D = some (.lst vsD) ∧ F' D = none ∧ D ∉ M' ∧ Paired (Rp X.K F') vsD es ∧
            Pst (compGoF g tt elt (wipeE env vs) cur n (i + 1) w') (fun rest w2 => ∀ v H2 F2 M2, SR (Cx.tx X T) B env w2 σ H2 F2 O M2 → Stp H F M H2 F2 M2 → RV.isAt (Cx.tx X T) H env O H2 F2 M2 v (.fresh (es ++ rest)) → Q v H2) (fun _ _ _ => False), fun H'' z => ⟨n, Nat.lt_succ_self _, z⟩, fun x H2 hy => ?_⟩
        obtain ⟨F2, xt2, rx⟩ := wk.yld i w' F' H' M' nw l x H2 dd eM sf sr.fh sr.nt sr.wr el hy hd
        have hbd := wk.bd w' F' H' M' nw l eM sf sr.fh sr.wr el
        have sr2 := sr.xt xt2
        split at qq
        · exact qq.elim
        · rename_i env1 eg
          refine ⟨B, wipeE env vs, w', F2, O, M', dd, env1, sr2.wipe vs, rx, eg, fun σ2 s2 hw => ⟨?_, ?_⟩⟩
          · rw [hw vs hvs]
            have idem : ∀ us : List Nat, (∀ i ∈ us, i ∈ vs) → wipe (wipe σ vs) us = wipe σ vs := by
              intro us
              induction us with
              | nil => intro _; rfl
              | cons u us ih =>
                intro hu
                show (wipe (wipe σ vs) us).set u none = wipe σ vs
                rw [ih fun i hi => hu i (List.mem_cons_of_mem _ hi)]
                have hu' := hu u List.mem_cons_self
                have : ∀ {ws : List Nat}, u ∈ ws → (wipe σ ws).set u none = wipe σ ws := by
                  intro ws
                  induction ws with
                  | nil => intro h; cases h
                  | cons a ws ih2 =>
                    intro h
                    show ((wipe σ ws).set a none).set u none = (wipe σ ws).set a none
                    by_cases ha : a = u
                    · subst ha; rw [List.set_set]
                    · rcases List.mem_cons.mp h with z | z
                      · exact absurd z.symm ha
                      · rw [List.set_comm _ _ ha, ih2 z]
                exact this hu'
            exact idem vs fun _ h => h
          · have qt := qq.bind.noX (b' := badX (Cx.tx X T) B noW)
            refine ⟨B, env1, w', F2, O, M', s2, qt.imp fun b w3 q3 H3 F3 M3 s3 st3 => ?_⟩
            have sr3 := sr2.step st3 s3.fh s3.nt s3.wr s3.tb
            obtain ⟨nw3, en3, _⟩ := id st3.mw
            have hDl3 : H3 D = some (.lst vsD) := st3.fr D _ (fun z => absurd z hMD) (fun _ z => by cases z) (xt2.hh _ _ hDl)
            have hMD3 : D ∉ M3 := notM' st3 hMD (by rw [xt2.hh _ _ hDl]; simp)
            have hFD2 : F2 D = none := xt2.nf D (by rw [hDl]; simp) hFD
            have hFD3 : F3 D = none := st3.nf D (by rw [xt2.hh _ _ hDl]; simp) hFD2
            have st03 := (st.trans xt2.stp).trans st3
            cases b with
            | false =>
              simp only [Bool.false_eq_true, if_false] at q3 ⊢
              exact ⟨w3, es, F3, M3, vsD, nw ++ nw3, by rw [en3, eM, List.append_assoc], by omega, hez, sr3, st03, (sf.trans xt2.ff).trans st3.fg, hDl3, hFD3, hMD3, Rp.monoAll (xt2.ff.trans st3.fg) _ _ pd, q3⟩
            | true =>
              simp only [if_true] at q3 ⊢
              have qe := q3.bind.noX (b' := badX (Cx.tx X T) B noW)
              refine ⟨B, env1, w3, F3, O, M3, s3, qe.imp fun r w4 q4 y H4 F4 M4 s4 st4 r4 => ?_⟩
              split at q4
              · rename_i d ed
                obtain ⟨F5, s5, st5, a5⟩ := keep_arg s3 s4 st4 r4 (st_arg ed)
                obtain ⟨nw5, en5, _⟩ := id st5.mw
                have hDl4 : H4 D = some (.lst vsD) := st5.fr D _ (fun z => absurd z hMD3) (fun _ z => by cases z) hDl3
                have hMD4 : D ∉ M4 := notM' st5 hMD3 (by rw [hDl3]; simp)
                have hFD5 : F5 D = none := st5.nf D (by rw [hDl3]; simp) hFD3
                have sr5 := sr3.step st5 s5.fh s5.nt s5.wr s5.tb
                have st05 := st03.trans st5
                have sr6 := sr5.updFree (ws := vsD ++ [y]) hDl4 hB hFD5 hMD4 hO
                have pd5 := Rp.monoAll ((xt2.ff.trans st3.fg).trans st5.fg) _ _ pd
                have hvl : vsD.length ≤ i := by rw [pd.length]; exact hes
                refine ⟨vsD, hDl4, by omega, w4, es ++ [d], F5, M4, vsD ++ [y], nw ++ nw3 ++ nw5, by rw [en5, en3, eM]; simp [List.append_assoc], ?_, ?_, sr6, ?_, ((sf.trans xt2.ff).trans st3.fg).trans st5.fg, upd_same, hFD5, hMD4, Pr.append pd5 (.cons a5 .nil), ?_⟩
                · rw [List.length_append, List.length_singleton]; omega
                · rw [List.length_append, List.length_singleton]; omega
                · exact ⟨st05.fg, fun a o hM' ht q' => by
                    have := st05.fr a o hM' ht q'
                    have na : a ≠ D := fun z => by subst z; rw [hH] at q'; cases q'
                    rw [upd_ne na]; exact this, fun a h => by
                    by_cases z : a = D
                    · subst z; rw [upd_same]; simp
                    · rw [upd_ne z]; exact st05.th a h, st05.nf, st05.mw⟩
                · have q5 := q4.bind
                  refine q5.imp fun rest w5 q6 v H6 F6 M6 s6 st6 r6 => q6 v H6 F6 M6 s6 st6 ?_
                  rw [List.append_assoc] at r6
                  exact r6
              · exact q4.elim
theorem je_compF {elt tg iter : Expr} {ifs : List Expr} {scope : Scope} {own : List (Str × Nat)} {src : SrcF} {g : Nat} {tt : Tst} {de : Ex} {us vs : List Nat} (hc : X.calm = true) (hN : X.N.Nodup) (hi : JIF X T Wi tg iter src) (ok : BlkOk X.N X.env.scope scope own)
    (hv : own.map (·.2) = vs) (hvs : ∀ i ∈ us, i ∈ vs)
    (hg : ∀ (s : Shared) (H : Hp) (C : Addr) (cl : List (Str × Addr)) (fp : List Addr), JGF (X.blk s H scope (compEnvC scope cl C X.env) fp) T tg g us)
    (ht : ∀ (s : Shared) (H : Hp) (C : Addr) (cl : List (Str × Addr)) (fp : List Addr), JTs (X.blk s H scope (compEnvC scope cl C X.env) fp) T ifs tt)
    (he : ∀ (s : Shared) (H : Hp) (C : Addr) (cl : List (Str × Addr)) (fp : List Addr), JE (X.blk s H scope (compEnvC scope cl C X.env) fp) T noW elt de) (hs : ∀ x, foldedSetIterable iter X.env x = pure x := by intro _; rfl) :
    JE X T Wi (.ListComp elt [⟨tg, iter, ifs, 0⟩] scope pos) (dCompF src vs g tt de) := by
  subst hv
  exact (pe_lc hc hN hi ok hg ht he hs).impD fun σ H Q q => lc_readF hvs q
end
@[simp] theorem sForF_ap {src : SrcF} {g : Nat} {body : Sd} {env : Ev} {w : World} : sForF src g body env w = (src env w).bind fun cur w1 => match cur w1 with
  | some l => forGoF g body cur (l.length + 1) 0 env w1
  | none => .stuck := rfl
@[simp] theorem dCompF_ap {src : SrcF} {vs : List Nat} {g : Nat} {tt : Tst} {elt : Ex} {env : Ev} {w : World} : dCompF src vs g tt elt env w = (src env w).bind fun cur w1 => match cur w1 with
  | some l => (compGoF g tt elt (wipeE env vs) cur (l.length + 1) 0 w1).bind fun xs w2 => .ok (.fresh xs) w2
  | none => .stuck := rfl
end Dl
namespace Dl
open PySem PySem.Spec PyProof.Rows L2 NdefX
open SrtO (Swo Srtd Stb lt2 eqv AllL Cmp)
section
variable {α β : Type} {lt : α → α → Bool}
end
def insK {β : Type} (x : PyData × β) : List (PyData × β) → List (PyData × β)
  | [] => [x]
  | y :: r => if tokLt y.1 x.1 = true then y :: insK x r else x :: y :: r
def sortK {β : Type} : List (PyData × β) → List (PyData × β)
  | [] => []
  | x :: l => insK x (sortK l)
section
variable {X : Cx} {pins : List (Addr × Obj)} {σ : L2.St} {H : Hp} {s : Shared} {P : PySem.Fin → Shared → Prop} {vs : List V} {its : List Value}
end
end Dl
namespace Dl
open PySem PySem.Spec PyProof.Rows L2 NdefX
section
variable {X : Cx} {pins : List (Addr × Obj)} {σ : L2.St} {H : Hp} {s : Shared} {vs : List V} {its : List Value} {Q : VK}
end
end Dl
namespace Dl
open PySem PySem.Spec PyProof.Rows L2 NdefX
open LamX (CodeO Tabs TabB ExtN inv_table among_app codeO_ne)
def bLow (i : Nat) (C : Cs) : Sd := fun env w => match env with
  | [.dat d] => (C.call i [.dat d] w).bind fun r w1 => .ok (.rt r) w1
  | _ => .stuck
section
variable {P : Program} {w : PySem.World} {K : PySem.W.Frag} {mg : Str → Option Value} {base : Heap} {T : Tbs} {n wi i : Nat} {nd : ND} {tbl : Nat → Option DefB}
end
def keysK (C : Cs) (wi : Nat) : List D → World → Out (List D)
  | [], w => .ok [] w
  | d :: l, w => match C.call wi [.dat d] w with
    | .ok (.dat k) w1 => (match keysK C wi l w1 with
      | .ok ks w2 => .ok (k :: ks) w2
      | _ => .stuck)
    | _ => .stuck
def keysFit (rm : Nat) (ks : List D) : Bool := (ks.all fun k => keyP k.py) && (ks.all fun a => ks.all fun b => (pLt a.py b.py).isSome) && decide (D.depL ks + 2 ≤ rm)
def sortD (ks l : List D) : List D := (sortK ((D.pyAll ks).zip l)).map (·.2)
def dSortKey (C : Cs) (wi : Nat) (e : Ex) : Ex := fun env w => (e env w).bind fun r w1 => match r.arg with
  | some (.dat (.lst l)) => (match keysK C wi l w1 with
    | .ok ks w2 => if keysFit C.room ks = true then .ok (.fresh (sortD ks l)) w2 else .stuck
    | _ => .stuck)
  | some (.dat (.tup l)) => (match keysK C wi l w1 with
    | .ok ks w2 => if keysFit C.room ks = true then .ok (.fresh (sortD ks l)) w2 else .stuck
    | _ => .stuck)
  | _ => .stuck
section
variable {X : Cx} {T : Tbs} {Wi : WX} {pins : List (Addr × Obj)} {σ : St} {H : Hp} {s : Shared}
end
end Dl
namespace Dl
open PySem PySem.Spec PyProof.Rows L2 NdefX
@[simp] theorem dSortKey_ap {C : Cs} {wi : Nat} {e : Ex} {env : Ev} {w : World} : dSortKey C wi e env w = (e env w).bind fun r w1 => match r.arg with
  | some (.dat (.lst l)) => (match keysK C wi l w1 with
    | .ok ks w2 => if keysFit C.room ks = true then .ok (.fresh (sortD ks l)) w2 else .stuck
    | _ => .stuck)
  | some (.dat (.tup l)) => (match keysK C wi l w1 with
    | .ok ks w2 => if keysFit C.room ks = true then .ok (.fresh (sortD ks l)) w2 else .stuck
    | _ => .stuck)
  | _ => .stuck := rfl
end Dl
namespace Dl
open PySem PySem.Spec PyProof.Rows L2 NdefX
section
variable {X : Cx} {pins : List (Addr × Obj)} {σ : St} {H : Hp} {s : Shared}
mutual
theorem Rp.rk (I : Inv X pins σ H s) : ∀ (d : D) (v : V) (u : Value), Rp X.K H v d → RelV v u → d.py.showable = true → d.py.shown.length ≤ sizeLine → ∃ bs, ReadAtMost s.heap d.py.depth bs ∧ ReprK X.prog X.w bs s.heap d.py.depth u d.py.shown
  | .non, _, _, h, r, _, _ => by
    cases h
    cases r
    exact ⟨[], (fun _ h => nomatch h), by simp only [D.py, PyData.shown]; exact .of_is ReprIs.none _ _ _⟩
  | .bl b, _, _, h, r, _, _ => by
    cases h
    cases r
    exact ⟨[], (fun _ h => nomatch h), by simp only [D.py, PyData.shown]; exact .of_is (ReprIs.bool b) _ _ _⟩
  | .int i, _, _, h, r, hs, _ => by
    cases h
    obtain ⟨t, e⟩ := r
    subst e
    exact ⟨[], (fun _ h => nomatch h), by simp only [D.py, PyData.shown]; exact .of_is (ReprIs.int t (by simpa [D.py, PyData.showable] using hs)) _ _ _⟩
  | .str x, _, _, h, r, _, hz => by
    cases h
    obtain ⟨t, e⟩ := r
    subst e
    exact ⟨[], (fun _ h => nomatch h), by simp only [D.py, PyData.shown]; exact .of_is (ReprIs.str x t (by simpa only [D.py, PyData.shown] using hz)) _ _ _⟩
  | .dic kvs, _, _, h, r, hs, hz => by
    cases h with
    | @dic a _ hk q =>
      cases r
      obtain ⟨as, r0, hn⟩ := reads_dicK I q
      exact ReprK.of_reads r0 hs (fun _ => hn) hz
  | .lst l, _, _, h, r, hs, hz => by
    cases h with
    | lst hzz hq hp =>
      obtain ⟨as', r0⟩ := Rp.reads I (.lst l) _ _ (.lst hzz hq hp) r
      cases r
      obtain ⟨its, rv, ⟨o, n, e1, e2, _, e3⟩, _⟩ := I.list hq
      have hz' : (listText (PyData.shownAll (D.pyAll l))).length ≤ sizeLine := by simpa only [D.py, PyData.shown] using hz
      obtain ⟨bs, hb, hk⟩ := Rp.rkL I l _ its hp rv (by simpa [D.py, PyData.showable] using hs) (fun t ht => Nat.le_trans (listText_mem_le ht) hz')
      have hna : _ ∉ bs := not_mem_of_deeper r0 (by show PyData.depthAll (D.pyAll l) < (PyData.list (D.pyAll l)).depth; simp only [PyData.depth]; omega) hb
      refine ⟨_ :: bs, ReadAtMost.cons r0 (Nat.le_refl _) (fun b hb' => by
        obtain ⟨d', as', r', hd'⟩ := hb b hb'
        exact ⟨d', as', r', Nat.le_trans hd' (by show PyData.depthAll (D.pyAll l) ≤ (PyData.list (D.pyAll l)).depth; simp only [PyData.depth]; omega)⟩), ?_⟩
      show ReprK X.prog X.w _ s.heap (PyData.list (D.pyAll l)).depth _ (PyData.list (D.pyAll l)).shown
      simp only [PyData.depth, PyData.shown]
      cases its with
      | nil =>
        cases rv
        cases hp
        simp only [D.pyAll, PyData.shownAll, listText_nil]
        exact ReprK.listEmpty e1 e2 e3
      | cons x its => exact ReprK.list e1 e2 e3 hna (by simpa using hk.length_eq) (fun i y e => hk.item i y (by simpa using e))
  | .tup l, _, _, h, r, hs, hz => by
    cases h with
    | tup hzz hq hp =>
      obtain ⟨as', r0⟩ := Rp.reads I (.tup l) _ _ (.tup hzz hq hp) r
      cases r
      obtain ⟨its, rv, ⟨o, e1, e2, n, e3⟩, _⟩ := I.tuple hq
      have hz' : (tupleText (PyData.shownAll (D.pyAll l))).length ≤ sizeLine := by simpa only [D.py, PyData.shown] using hz
      obtain ⟨bs, hb, hk⟩ := Rp.rkL I l _ its hp rv (by simpa [D.py, PyData.showable] using hs) (fun t ht => Nat.le_trans (tupleText_mem_le ht) hz')
      have hna : _ ∉ bs := not_mem_of_deeper r0 (by show PyData.depthAll (D.pyAll l) < (PyData.tuple (D.pyAll l)).depth; simp only [PyData.depth]; omega) hb
      refine ⟨_ :: bs, ReadAtMost.cons r0 (Nat.le_refl _) (fun b hb' => by
        obtain ⟨d', as', r', hd'⟩ := hb b hb'
        exact ⟨d', as', r', Nat.le_trans hd' (by show PyData.depthAll (D.pyAll l) ≤ (PyData.tuple (D.pyAll l)).depth; simp only [PyData.depth]; omega)⟩), ?_⟩
      show ReprK X.prog X.w _ s.heap (PyData.tuple (D.pyAll l)).depth _ (PyData.tuple (D.pyAll l)).shown
      simp only [PyData.depth, PyData.shown]
      exact ReprK.tuple e1 e2 e3 hna hk
theorem Rp.rkL (I : Inv X pins σ H s) : ∀ (l : List D) (vs : List V) (us : List Value), Paired (Rp X.K H) vs l → Vals vs us → PyData.showableAll (D.pyAll l) = true → (∀ t ∈ PyData.shownAll (D.pyAll l), t.length ≤ sizeLine) →
    ∃ bs, ReadAtMost s.heap (PyData.depthAll (D.pyAll l)) bs ∧ ReprAllK X.prog X.w bs s.heap (PyData.depthAll (D.pyAll l)) us (PyData.shownAll (D.pyAll l))
  | [], _, _, h, r, _, _ => by
    cases h
    cases r
    exact ⟨[], (fun _ h => nomatch h), by simp only [D.pyAll, PyData.shownAll]; exact .nil⟩
  | d :: l, _, _, h, r, hs, hz => by
    have hs' : d.py.showable = true ∧ PyData.showableAll (D.pyAll l) = true := by simpa [D.pyAll, PyData.showableAll] using hs
    cases h with
    | cons h1 h2 =>
      cases r with
      | cons r1 r2 =>
        obtain ⟨b1, hb1, k1⟩ := Rp.rk I d _ _ h1 r1 hs'.1 (hz _ (by simp only [D.pyAll, PyData.shownAll]; exact List.mem_cons_self ..))
        obtain ⟨b2, hb2, k2⟩ := Rp.rkL I l _ _ h2 r2 hs'.2 (fun t ht => hz t (by simp only [D.pyAll, PyData.shownAll]; exact List.mem_cons_of_mem _ ht))
        refine ⟨b1 ++ b2, ?_, ?_⟩
        · intro b hm
          simp only [D.pyAll, PyData.depthAll]
          rcases List.mem_append.mp hm with hm | hm
          · obtain ⟨d', as', r', hd'⟩ := hb1 b hm
            exact ⟨d', as', r', Nat.le_trans hd' (Nat.le_max_left _ _)⟩
          · obtain ⟨d', as', r', hd'⟩ := hb2 b hm
            exact ⟨d', as', r', Nat.le_trans hd' (Nat.le_max_right _ _)⟩
        · simp only [D.pyAll, PyData.depthAll, PyData.shownAll]
          exact .cons ((k1.more fun b hb => List.mem_append_left _ hb).level_le (Nat.le_max_left _ _)) (k2.more_le (fun b hb => List.mem_append_right _ hb) (Nat.le_max_right _ _))
end
end
section
variable {X : Cx}
end
end Dl
namespace Dl
open PySem PySem.Spec PyProof.Rows L2 NdefX
section
open PySem.Sem (wp)
variable {prog : Program} {w : PySem.World} {A : Around} {E : Value → Shared → Prop} {s : Shared}
end
section
variable {X : Cx}
end
def dJoinRev (sep : Str) (a : Ex) : Ex := fun env w => (a env w).bind fun r w1 => match r.val with
  | some (.lst l) => (match strsOf l with
    | some ys => if (ys.map (·.length)).sum + ys.length * sep.length ≤ 16777216 ∧ PyData.strOk (Txt.join sep ys.reverse) = true ∧ (Txt.join sep ys.reverse).length ≤ sizeLine then .ok (.dat (.str (Txt.join sep ys.reverse))) w1 else .stuck
    | none => .stuck)
  | _ => .stuck
section
variable {X : Cx} {T : Tbs} {Wi : WX} {pos p2 pos2 apos : Pos}
end
@[simp] theorem dJoinRev_ap (sep : Str) (a : Ex) (env : Ev) (w : World) : dJoinRev sep a env w = (a env w).bind fun r w1 => match r.val with
  | some (.lst l) => (match strsOf l with
    | some ys => if (ys.map (·.length)).sum + ys.length * sep.length ≤ 16777216 ∧ PyData.strOk (Txt.join sep ys.reverse) = true ∧ (Txt.join sep ys.reverse).length ≤ sizeLine then .ok (.dat (.str (Txt.join sep ys.reverse))) w1 else .stuck
    | none => .stuck)
  | _ => .stuck := rfl
section
variable {X : Cx}
end
section
variable {X : Cx} {T : Tbs} {Wi : WX} {pos apos p : Pos} {e : Expr} {d : Ex}
end
end Dl
namespace Dl
open PySem PySem.Spec PyProof.Rows L2 NdefX
def b_is_integer (C : Cs) : Sd := (sRet (dAnd (dIsi .int (dName 0)) (dUn gNot (dIsi .bool (dName 0)))))
def b_is_within (C : Cs) : Sd := (sRet (dAnd (dCall C 1 (aCons (dName 0) aNil)) (dChain (gLe C.room) (gLe C.room) (dName 1) (dName 0) (dName 2))))
def b_is_pair (C : Cs) : Sd := (sRet (dAnd (dIsi .tuple (dName 0)) (dBin (gEq C.room) (dBlt cLen (rCons (dName 0) rNil)) (dC (.int 2)))))
def b_is_triple (C : Cs) : Sd := (sRet (dAnd (dIsi .tuple (dName 0)) (dBin (gEq C.room) (dBlt cLen (rCons (dName 0) rNil)) (dC (.int 3)))))
def b_is_word (C : Cs) : Sd := (sSeq (sIf (tOr' (tNot' (dTru (dIsi .str (dName 0)))) (tNot' (dTst (dChain (gLe C.room) (gLe C.room) (dC (.int 1)) (dBlt cLen (rCons (dName 0) rNil)) (dC (.int 8)))))) (sRet (dC (.bl false))) sNil)
  (sRet (dBlt cAll (rCons (dComp (iTxt (dName 0)) [1] (gN 1) tYes' (dBin (inD false C.room) (dName 1) (dC (.str "abcdefghijklmnopqrstuvwxyz")))) rNil))))
def b_is_door (C : Cs) : Sd := (sRet (dAnd (dCall C 24 (aCons (dName 0) aNil)) (dBin (gEq C.room) (dBlt cLen (rCons (dName 0) rNil)) (dC (.int 1)))))
def b_is_part (C : Cs) : Sd := (sSeq (sIf (dTru (dCall C 4 (aCons (dName 0) aNil))) (sSeq (sIf (dTst (dBin (gEq C.room) (dBin gIx (dName 0) (dC (.int 0))) (dC (.str "name")))) (sRet (dCall C 24 (aCons (dBin gIx (dName 0) (dC (.int 1))) aNil))) sNil)
  (sSeq (sIf (dTst (dBin (gEq C.room) (dBin gIx (dName 0) (dC (.int 0))) (dC (.str "mark")))) (sRet (dAnd (dCall C 1 (aCons (dBin gIx (dName 0) (dC (.int 1))) aNil)) (dBin (gGe C.room) (dBin gIx (dName 0) (dC (.int 1))) (dC (.int 0))))) sNil)
  (sRet (dAnd (dBin (gEq C.room) (dBin gIx (dName 0) (dC (.int 0))) (dC (.str "got"))) (dCall C 2 (aCons (dBin gIx (dName 0) (dC (.int 1))) (aCons (dC (.int 0)) (aCons (dBin gSub (dName 1) (dC (.int 1))) aNil)))))))) sNil)
  (sSeq (sIf (tOr' (tNot' (dTru (dCall C 27 (aCons (dName 0) aNil)))) (tOr' (dTst (dBin (inD true C.room) (dBin gIx (dName 0) (dC (.int 0))) (dTup (aCons (dC (.str "letter")) (aCons (dC (.str "wait")) aNil))))) (tNot' (dTru (dCall C 26 (aCons (dBin gIx (dName 0) (dC (.int 1))) aNil)))))) (sRet (dC (.bl false))) sNil)
  (sRet (dCall C 25 (aCons (dBin gIx (dName 0) (dC (.int 2))) (aCons (dIf (dTst (dBin (gEq C.room) (dBin gIx (dName 0) (dC (.int 0))) (dC (.str "wait")))) (dBin gAdd (dName 1) (dC (.int 1))) (dName 1)) aNil))))))
def b_is_plan_in (C : Cs) : Sd := (sSeq (sIf (tNot' (dTru (dIsi .tuple (dName 0)))) (sRet (dC (.bl false))) sNil)
  (sSeq (sFor (iSeq (dName 0)) (gN 2) (sIf (tOr' (tNot' (dTru (dCall C 4 (aCons (dName 2) aNil)))) (tOr' (tNot' (dTru (dCall C 1 (aCons (dBin gIx (dName 2) (dC (.int 0))) aNil)))) (tOr' (dTst (dBin (gLt C.room) (dBin gIx (dName 2) (dC (.int 0))) (dC (.int 1)))) (tNot' (dTru (dCall C 28 (aCons (dBin gIx (dName 2) (dC (.int 1))) (aCons (dName 1) aNil)))))))) (sRet (dC (.bl false))) sNil))
  (sRet (dC (.bl true)))))
def b_check_plan (C : Cs) : Sd := (sIf (tNot' (dTru (dCall C 25 (aCons (dName 0) (aCons (dC (.int 0)) aNil))))) (sRaise "NoPlan") sNil)
def b_check_door (C : Cs) : Sd := (sIf (tNot' (dTru (dCall C 26 (aCons (dName 0) aNil)))) (sRaise "NoDoor") sNil)
def b_check_word (C : Cs) : Sd := (sIf (tNot' (dTru (dCall C 24 (aCons (dName 0) aNil)))) (sRaise "NoWord") sNil)
def b_is_plan (C : Cs) : Sd := (sRet (dCall C 25 (aCons (dName 0) (aCons (dC (.int 0)) aNil))))
def b_part_size (C : Cs) : Sd := (sRet (dIf (dTst (dBin (gEq C.room) (dBlt cLen (rCons (dName 0) rNil)) (dC (.int 3)))) (dBin gAdd (dC (.int 1)) (dCall C 29 (aCons (dBin gIx (dName 0) (dC (.int 2))) aNil))) (dC (.int 1))))
def b_size_of (C : Cs) : Sd := (sRet (dBlt cSum (rCons (dComp (iSeq (dName 0)) [1, 2] (gT 2 (gsCons (gN 1) (gsCons (gN 2) gsNil))) tYes' (dBin gMul (dName 1) (dCall C 30 (aCons (dName 2) aNil)))) rNil)))
def b_size (C : Cs) : Sd := (sSeq (sExpr (dCall C 31 (aCons (dName 0) aNil)))
  (sRet (dCall C 29 (aCons (dName 0) aNil))))
def b_parts_within (C : Cs) : Sd := (sSeq (sSet 1 (dLst aNil))
  (sSeq (sFor (iSeq (dName 0)) (gT 2 (gsCons (gN 2) (gsCons (gN 3) gsNil))) (sSeq (sAppend 1 (dName 3))
  (sIf (dTst (dBin (gEq C.room) (dBlt cLen (rCons (dName 3) rNil)) (dC (.int 3)))) (sExtend 1 (dCall C 32 (aCons (dBin gIx (dName 3) (dC (.int 2))) aNil))) sNil)))
  (sRet (dName 1))))
def b_labels_of (C : Cs) : Sd := (sRet (dBlt cSortS (rCons (dKeys (iSeq (dCall C 32 (aCons (dName 0) aNil))) [2] (gN 2) (dTst (dBin (gEq C.room) (dBin gIx (dName 2) (dC (.int 0))) (dName 1))) (dBin gIx (dName 2) (dC (.int 1)))) rNil)))
def b_names (C : Cs) : Sd := (sSeq (sExpr (dCall C 31 (aCons (dName 0) aNil)))
  (sRet (dCall C 33 (aCons (dName 0) (aCons (dC (.str "name")) aNil)))))
def b_mapped (C : Cs) : Sd := (sSeq (sSet 3 (dLst aNil))
  (sSeq (sFor (iSeq (dName 0)) (gT 2 (gsCons (gN 4) (gsCons (gN 5) gsNil))) (sIf (dTst (dBin (gEq C.room) (dBin gIx (dName 5) (dC (.int 0))) (dC (.str "letter")))) (sAppend 3 (dTup (aCons (dName 4) (aCons (dTup (aCons (dC (.str "letter")) (aCons (dBin gIx (dName 5) (dC (.int 1))) (aCons (dCall C 34 (aCons (dBin gIx (dName 5) (dC (.int 2))) (aCons (dName 1) (aCons (dName 2) aNil)))) aNil)))) aNil)))) (sIf (dTst (dBin (gEq C.room) (dBin gIx (dName 5) (dC (.int 0))) (dC (.str "wait")))) (sAppend 3 (dTup (aCons (dName 4) (aCons (dTup (aCons (dC (.str "wait")) (aCons (dBin gIx (dName 5) (dC (.int 1))) (aCons (dCall C 34 (aCons (dBin gIx (dName 5) (dC (.int 2))) (aCons (dBin gAdd (dName 1) (dC (.int 1))) (aCons (dName 2) aNil)))) aNil)))) aNil)))) (sExtend 3 (dComp (iSeq (dAct C 2 (aCons (dName 5) (aCons (dName 1) aNil)))) [6, 7] (gT 2 (gsCons (gN 6) (gsCons (gN 7) gsNil))) tYes' (dTup (aCons (dBin gMul (dName 4) (dName 6)) (aCons (dName 7) aNil))))))))
  (sRet (dBlt cTuple (rCons (dName 3) rNil)))))
def b_bound_to'clo (C : Cs) : Ex := (dTup (aCons (dTup (aCons (dC (.int 1)) (aCons (dIf (dTst (dBin (gEq C.room) (dName 0) (dName 2))) (dTup (aCons (dC (.str "got")) (aCons (dName 1) aNil))) (dName 0)) aNil))) aNil))
def b_bound_to (C : Cs) : Sd := (sRet (dTup (aCons (dC (.str "wait")) (aCons (dName 0) (aCons (dClo C 34 50 [1] (aCons (dName 2) (aCons (dC (.int 0)) aNil))) aNil)))))
def b_letter (C : Cs) : Sd := (sSeq (sExpr (dCall C 35 (aCons (dName 0) aNil)))
  (sSeq (sExpr (dCall C 31 (aCons (dName 1) aNil)))
  (sRet (dTup (aCons (dTup (aCons (dC (.int 1)) (aCons (dTup (aCons (dC (.str "letter")) (aCons (dName 0) (aCons (dName 1) aNil)))) aNil))) aNil)))))
def b_wait (C : Cs) : Sd := (sSeq (sExpr (dCall C 35 (aCons (dName 0) aNil)))
  (sSeq (sExpr (dCall C 37 (aCons (dName 1) aNil)))
  (sSeq (sExpr (dCall C 31 (aCons (dName 2) aNil)))
  (sRet (dTup (aCons (dTup (aCons (dC (.int 1)) (aCons (dCall C 36 (aCons (dName 0) (aCons (dTup (aCons (dC (.str "name")) (aCons (dName 1) aNil))) (aCons (dName 2) aNil)))) aNil))) aNil))))))
def b__law_plan (C : Cs) : Sd := (sSeq (sSet 5 (dLst aNil))
  (sSeq (sFor (iRange rg1 (rCons (dC (.int 6)) rNil)) (gN 6) (sSeq (sIf (tOr' (dTst (dBin (gLt C.room) (dName 1) (dC (.int 1)))) (dTst (dBin (gEq C.room) (dCall C 11 (aCons (dName 0) (aCons (dC (.int 5)) aNil))) (dC (.int 0))))) sBreak sNil)
  (sSeq (sSet 7 (dBin gIx (dLst (aCons (dC (.int 1)) (aCons (dC (.int 1)) (aCons (dC (.int 1)) (aCons (dC (.int 2)) (aCons (dC (.int 3)) aNil)))))) (dCall C 11 (aCons (dName 0) (aCons (dC (.int 5)) aNil)))))
  (sSeq (sIf (dTst (dBin (gGt C.room) (dName 7) (dName 1))) (sSet 7 (dC (.int 1))) sNil)
  (sSeq (sSet 8 (dCall C 39 (aCons (dName 0) (aCons (dBin gFdiv (dName 1) (dName 7)) (aCons (dName 2) (aCons (dName 3) (aCons (dName 4) aNil)))))))
  (sSeq (sAppend 5 (dTup (aCons (dName 7) (aCons (dName 8) aNil))))
  (sSet 1 (dBin gSub (dName 1) (dBin gMul (dName 7) (dCall C 38 (aCons (dName 8) aNil)))))))))))
  (sRet (dBlt cTuple (rCons (dName 5) rNil)))))
def b__law_part (C : Cs) : Sd := (sSeq (sSet 5 (dCall C 11 (aCons (dName 0) (aCons (dC (.int 6)) aNil))))
  (sSeq (sIf (tAnd' (dTst (dBin (gLt C.room) (dName 1) (dC (.int 2)))) (dTst (dBin (gGt C.room) (dName 5) (dC (.int 3))))) (sSet 5 (dCall C 11 (aCons (dName 0) (aCons (dC (.int 4)) aNil)))) sNil)
  (sSeq (sSet 6 (dBin gIx (dName 3) (dCall C 11 (aCons (dName 0) (aCons (dBlt cLen (rCons (dName 3) rNil)) aNil)))))
  (sSeq (sIf (tAnd' (dTst (dBin (gEq C.room) (dName 5) (dC (.int 0)))) (dTst (dBin (gGt C.room) (dBlt cLen (rCons (dName 4) rNil)) (dC (.int 0))))) (sRet (dTup (aCons (dC (.str "name")) (aCons (dBin gIx (dName 4) (dCall C 11 (aCons (dName 0) (aCons (dBlt cLen (rCons (dName 4) rNil)) aNil)))) aNil)))) sNil)
  (sSeq (sIf (tAnd' (dTst (dBin (gLt C.room) (dName 5) (dC (.int 2)))) (dTst (dBin (gGt C.room) (dName 2) (dC (.int 0))))) (sRet (dTup (aCons (dC (.str "got")) (aCons (dBin gIx (dLst (aCons (dC (.int 0)) (aCons (dC (.int 0)) (aCons (dCall C 11 (aCons (dName 0) (aCons (dName 2) aNil))) aNil)))) (dCall C 11 (aCons (dName 0) (aCons (dC (.int 3)) aNil)))) aNil)))) sNil)
  (sSeq (sIf (tOr' (dTst (dBin (gEq C.room) (dName 5) (dC (.int 2)))) (dTst (dBin (gEq C.room) (dName 5) (dC (.int 4))))) (sRet (dTup (aCons (dC (.str "letter")) (aCons (dName 6) (aCons (dCall C 40 (aCons (dName 0) (aCons (dBin gSub (dName 1) (dC (.int 1))) (aCons (dName 2) (aCons (dName 3) (aCons (dName 4) aNil)))))) aNil))))) sNil)
  (sRet (dTup (aCons (dC (.str "wait")) (aCons (dName 6) (aCons (dCall C 40 (aCons (dName 0) (aCons (dBin gSub (dName 1) (dC (.int 1))) (aCons (dBin gAdd (dName 2) (dC (.int 1))) (aCons (dName 3) (aCons (dName 4) aNil)))))) aNil)))))))))))
def b__law_part_size (C : Cs) : Sd := (sSeq (sIf (dTst (dBin (gEq C.room) (dBlt cLen (rCons (dName 0) rNil)) (dC (.int 3)))) (sRet (dBin gAdd (dC (.int 1)) (dCall C 41 (aCons (dBin gIx (dName 0) (dC (.int 2))) aNil)))) sNil)
  (sRet (dC (.int 1))))
def b__law_size (C : Cs) : Sd := (sRet (dBlt cSum (rCons (dComp (iSeq (dName 0)) [1, 2] (gT 2 (gsCons (gN 1) (gsCons (gN 2) gsNil))) tYes' (dBin gMul (dName 1) (dCall C 38 (aCons (dName 2) aNil)))) rNil)))
end Dl
namespace Dl
open PySem PySem.Spec PyProof.Rows L2 NdefX
def b_items_in (C : Cs) : Sd := (sRet (dBlt cLen (rCons (dCall C 32 (aCons (dName 0) aNil)) rNil)))
def b_nesting (C : Cs) : Sd := (sRet (dBlt cMax1 (rCons (dBin gAdd (dLst (aCons (dC (.int 0)) aNil)) (dComp (iSeq (dName 0)) [1, 2] (gT 2 (gsCons (gN 1) (gsCons (gN 2) gsNil))) (dTst (dBin (gEq C.room) (dBlt cLen (rCons (dName 2) rNil)) (dC (.int 3)))) (dBin gAdd (dC (.int 1)) (dCall C 51 (aCons (dBin gIx (dName 2) (dC (.int 2))) aNil))))) rNil)))
def b_check_room (C : Cs) : Sd := (sIf (dTst (dBin (gGt C.room) (dName 0) (dC (.int 5000)))) (sRaiseF C.room "TooMany" "most" (aCons (dC (.int 5000)) aNil)) sNil)
def b_roomy (C : Cs) : Sd := (sSeq (sExpr (dCall C 53 (aCons (dCall C 52 (aCons (dName 0) aNil)) aNil)))
  (sSeq (sIf (dTst (dBin (gGt C.room) (dCall C 51 (aCons (dName 0) aNil)) (dC (.int 120)))) (sRaiseF C.room "TooMany" "most" (aCons (dC (.int 5000)) aNil)) sNil)
  (sRet (dName 0))))
def b_raised'clo (C : Cs) : Sd := (sSeq (sIf (tAnd' (dTst (dBin (gEq C.room) (dBin gIx (dName 0) (dC (.int 0))) (dC (.str "got")))) (dTst (dBin (gGe C.room) (dBin gIx (dName 0) (dC (.int 1))) (dBin gAdd (dName 1) (dName 2))))) (sRet (dTup (aCons (dTup (aCons (dC (.int 1)) (aCons (dTup (aCons (dC (.str "got")) (aCons (dBin gAdd (dBin gIx (dName 0) (dC (.int 1))) (dName 3)) aNil))) aNil))) aNil))) sNil)
  (sRet (dTup (aCons (dTup (aCons (dC (.int 1)) (aCons (dName 0) aNil))) aNil))))
def b_raised (C : Cs) : Sd := (sDefRet 3 (dClo C 34 55 [2, 1] (aCons (dName 0) (aCons (dC (.int 0)) aNil))))
def b_replaced'clo (C : Cs) : Ex := (dIf (dTst (dBin (gEq C.room) (dName 0) (dName 2))) (dCall C 57 (aCons (dName 3) (aCons (dName 1) (aCons (dC (.int 0)) aNil)))) (dTup (aCons (dTup (aCons (dC (.int 1)) (aCons (dName 0) aNil))) aNil)))
def b_replaced (C : Cs) : Sd := (sRet (dClo C 34 56 [1, 2] (aCons (dName 0) (aCons (dC (.int 0)) aNil))))
def b_roomy_replaced (C : Cs) : Sd := (sSeq (sSet 3 (dBlt cLen (rCons (dComp (iSeq (dCall C 32 (aCons (dName 0) aNil))) [4] (gN 4) (dTst (dBin (gEq C.room) (dName 4) (dName 1))) (dName 4)) rNil)))
  (sSeq (sExpr (dCall C 53 (aCons (dBin gAdd (dCall C 52 (aCons (dName 0) aNil)) (dBin gMul (dName 3) (dBin gSub (dCall C 52 (aCons (dName 2) aNil)) (dC (.int 1))))) aNil)))
  (sRet (dCall C 59 (aCons (dCall C 58 (aCons (dName 0) (aCons (dName 1) (aCons (dName 2) aNil)))) aNil)))))
def b_put (C : Cs) : Sd := (sSeq (sExpr (dCall C 31 (aCons (dName 0) aNil)))
  (sSeq (sExpr (dCall C 37 (aCons (dName 1) aNil)))
  (sSeq (sExpr (dCall C 31 (aCons (dName 2) aNil)))
  (sRet (dCall C 61 (aCons (dName 0) (aCons (dTup (aCons (dC (.str "name")) (aCons (dName 1) aNil))) (aCons (dName 2) aNil))))))))
def b_check_mark (C : Cs) : Sd := (sIf (tOr' (tNot' (dTru (dCall C 1 (aCons (dName 0) aNil)))) (dTst (dBin (gLt C.room) (dName 0) (dC (.int 0))))) (sRaise "NoMark") sNil)
def b_mark_put (C : Cs) : Sd := (sSeq (sExpr (dCall C 31 (aCons (dName 0) aNil)))
  (sSeq (sExpr (dCall C 62 (aCons (dName 1) aNil)))
  (sSeq (sExpr (dCall C 31 (aCons (dName 2) aNil)))
  (sRet (dCall C 61 (aCons (dName 0) (aCons (dTup (aCons (dC (.str "mark")) (aCons (dName 1) aNil))) (aCons (dName 2) aNil))))))))
def b__law_replaced (C : Cs) : Sd := (sSeq (sSet 3 (dLst aNil))
  (sSeq (sFor (iSeq (dName 0)) (gT 2 (gsCons (gN 4) (gsCons (gN 5) gsNil))) (sIf (dTst (dBin (gEq C.room) (dName 5) (dName 1))) (sSet 3 (dBin gAdd (dName 3) (dComp (iSeq (dName 2)) [6, 7] (gT 2 (gsCons (gN 6) (gsCons (gN 7) gsNil))) tYes' (dTup (aCons (dBin gMul (dName 4) (dName 6)) (aCons (dName 7) aNil)))))) (sIf (dTst (dBin (gEq C.room) (dBlt cLen (rCons (dName 5) rNil)) (dC (.int 3)))) (sAppend 3 (dTup (aCons (dName 4) (aCons (dTup (aCons (dBin gIx (dName 5) (dC (.int 0))) (aCons (dBin gIx (dName 5) (dC (.int 1))) (aCons (dCall C 75 (aCons (dBin gIx (dName 5) (dC (.int 2))) (aCons (dName 1) (aCons (dName 2) aNil)))) aNil)))) aNil)))) (sAppend 3 (dTup (aCons (dName 4) (aCons (dName 5) aNil)))))))
  (sRet (dBlt cTuple (rCons (dName 3) rNil)))))
def b__law_copies (C : Cs) : Sd := (sSeq (sSet 2 (dC (.int 0)))
  (sSeq (sFor (iSeq (dName 0)) (gT 2 (gsCons (gN 3) (gsCons (gN 4) gsNil))) (sSeq (sIf (dTst (dBin (gEq C.room) (dName 4) (dName 1))) (sSet 2 (dBin gAdd (dName 2) (dName 3))) sNil)
  (sIf (dTst (dBin (gEq C.room) (dBlt cLen (rCons (dName 4) rNil)) (dC (.int 3)))) (sSet 2 (dBin gAdd (dName 2) (dBin gMul (dName 3) (dCall C 76 (aCons (dBin gIx (dName 4) (dC (.int 2))) (aCons (dName 1) aNil)))))) sNil)))
  (sRet (dName 2))))
end Dl
namespace Dl
open PySem PySem.Spec PyProof.Rows L2 NdefX
end Dl
namespace Dl
open PySem PySem.Spec PyProof.Rows L2 NdefX
def b_check_two (C : Cs) : Sd := (sSeq (sExpr (dCall C 31 (aCons (dName 0) aNil)))
  (sExpr (dCall C 31 (aCons (dName 1) aNil))))
def t_RANKS : List (Str × D) := [("name", .int 0), ("mark", .int 1), ("got", .int 2), ("letter", .int 3), ("wait", .int 4)]
def b_part_key (C : Cs) : Sd := (sSeq (sSet 1 (dIf (dTst (dBin (gEq C.room) (dBlt cLen (rCons (dName 0) rNil)) (dC (.int 3)))) (dCall C 101 (aCons (dBin gIx (dName 0) (dC (.int 2))) aNil)) (dTup aNil)))
  (sSeq (sSet 2 (dBin gAdd (dC (.int 1)) (dBlt cSum (rCons (dComp (iSeq (dName 1)) [3, 4] (gT 2 (gsCons (gN 3) (gsCons (gN 4) gsNil))) tYes' (dBin gMul (dName 4) (dBin gIx (dName 3) (dC (.int 0))))) rNil))))
  (sRet (dTup (aCons (dName 2) (aCons (dUn (gGetK t_RANKS) (dBin gIx (dName 0) (dC (.int 0)))) (aCons (dBin gIx (dName 0) (dC (.int 1))) (aCons (dName 1) aNil))))))))
def b_plan_key (C : Cs) : Sd := (sRet (dBlt cTuple (rCons (dComp (iSeq (dName 0)) [1, 2] (gT 2 (gsCons (gN 1) (gsCons (gN 2) gsNil))) tYes' (dTup (aCons (dCall C 102 (aCons (dName 2) aNil)) (aCons (dName 1) aNil)))) rNil)))
def b_sorted_items'clo (C : Cs) : Ex := (dCall C 102 (aCons (dBin gIx (dName 0) (dC (.int 1))) aNil))
def b_sorted_items (C : Cs) : Sd := (sSeq (sSet 1 (dLst aNil))
  (sSeq (sFor (iSeq (dSortKey C 104 (dBlt cList (rCons (dName 0) rNil)))) (gT 2 (gsCons (gN 2) (gsCons (gN 3) gsNil))) (sIf (tAnd' (dTst (dBin (gGt C.room) (dBlt cLen (rCons (dName 1) rNil)) (dC (.int 0)))) (dTst (dBin (gEq C.room) (dBin gIx (dBin gIx (dName 1) (dUn gNeg (dC (.int 1)))) (dC (.int 1))) (dName 3)))) (sSetIx 1 (dUn gNeg (dC (.int 1))) (dTup (aCons (dBin gAdd (dBin gIx (dBin gIx (dName 1) (dUn gNeg (dC (.int 1)))) (dC (.int 0))) (dName 2)) (aCons (dName 3) aNil)))) (sAppend 1 (dTup (aCons (dName 2) (aCons (dName 3) aNil))))))
  (sRet (dBlt cTuple (rCons (dName 1) rNil)))))
def b_folded (C : Cs) : Sd := (sSeq (sFor (iEnumD (dName 1)) (gT 2 (gsCons (gN 2) (gsCons (gT 2 (gsCons (gN 3) (gsCons (gN 4) gsNil))) gsNil))) (sIf (tAnd' (dTst (dBin (gEq C.room) (dBin gIx (dName 4) (dC (.int 0))) (dC (.str "wait")))) (dTst (dBin (gEq C.room) (dBin gIx (dName 4) (dC (.int 1))) (dName 0)))) (sSeq (sSet 5 (dBin gAdd (dSl (dName 1) none (some (dName 2))) (dSl (dName 1) (some (dBin gAdd (dName 2) (dC (.int 1)))) none)))
  (sIf (dTst (dBin (gEq C.room) (dBin gIx (dName 4) (dC (.int 2))) (dCall C 57 (aCons (dName 5) (aCons (dC (.int 1)) (aCons (dC (.int 1)) aNil)))))) (sRet (dTup (aCons (dBin gAdd (dName 3) (dC (.int 1))) (aCons (dTup (aCons (dC (.str "wait")) (aCons (dName 0) (aCons (dName 5) aNil)))) aNil)))) sNil)) sNil))
  (sRet (dTup (aCons (dC (.int 1)) (aCons (dTup (aCons (dC (.str "wait")) (aCons (dName 0) (aCons (dName 1) aNil)))) aNil)))))
def b_plain_of (C : Cs) : Sd := (sSeq (sSet 1 (dLst aNil))
  (sSeq (sFor (iSeq (dName 0)) (gT 2 (gsCons (gN 2) (gsCons (gN 3) gsNil))) (sIf (dTst (dBin (gEq C.room) (dBin gIx (dName 3) (dC (.int 0))) (dC (.str "letter")))) (sAppend 1 (dTup (aCons (dName 2) (aCons (dTup (aCons (dC (.str "letter")) (aCons (dBin gIx (dName 3) (dC (.int 1))) (aCons (dCall C 106 (aCons (dBin gIx (dName 3) (dC (.int 2))) aNil)) aNil)))) aNil)))) (sIf (dTst (dBin (gEq C.room) (dBin gIx (dName 3) (dC (.int 0))) (dC (.str "wait")))) (sSeq (sAsg (gT 2 (gsCons (gN 4) (gsCons (gN 5) gsNil))) (dCall C 107 (aCons (dBin gIx (dName 3) (dC (.int 1))) (aCons (dCall C 106 (aCons (dBin gIx (dName 3) (dC (.int 2))) aNil)) aNil))))
  (sAppend 1 (dTup (aCons (dBin gMul (dName 2) (dName 4)) (aCons (dName 5) aNil))))) (sAppend 1 (dTup (aCons (dName 2) (aCons (dName 3) aNil)))))))
  (sFrz 1 (sRet (dCall C 105 (aCons (dName 1) aNil))))))
def b__law_key (C : Cs) : Sd := (sSeq (sSet 1 (dIndexS (dLst (aCons (dC (.str "name")) (aCons (dC (.str "mark")) (aCons (dC (.str "got")) (aCons (dC (.str "letter")) (aCons (dC (.str "wait")) aNil)))))) (dBin gIx (dName 0) (dC (.int 0)))))
  (sSeq (sSet 2 (dTup aNil))
  (sSeq (sIf (dTst (dBin (gEq C.room) (dBlt cLen (rCons (dName 0) rNil)) (dC (.int 3)))) (sSet 2 (dBlt cTuple (rCons (dComp (iSeq (dBin gIx (dName 0) (dC (.int 2)))) [3, 4] (gT 2 (gsCons (gN 3) (gsCons (gN 4) gsNil))) tYes' (dTup (aCons (dCall C 108 (aCons (dName 4) aNil)) (aCons (dName 3) aNil)))) rNil))) sNil)
  (sRet (dTup (aCons (dCall C 38 (aCons (dName 0) aNil)) (aCons (dName 1) (aCons (dBin gIx (dName 0) (dC (.int 1))) (aCons (dName 2) aNil)))))))))
def b__law_joined'clo (C : Cs) : Ex := (dCall C 108 (aCons (dBin gIx (dName 0) (dC (.int 1))) aNil))
def b__law_joined (C : Cs) : Sd := (sSeq (sSet 1 (dLst aNil))
  (sSeq (sFor (iSeq (dSortKey C 110 (dName 0))) (gT 2 (gsCons (gN 2) (gsCons (gN 3) gsNil))) (sIf (tAnd' (dTst (dBin (gGt C.room) (dBlt cLen (rCons (dName 1) rNil)) (dC (.int 0)))) (dTst (dBin (gEq C.room) (dBin gIx (dBin gIx (dName 1) (dUn gNeg (dC (.int 1)))) (dC (.int 1))) (dName 3)))) (sSetIx 1 (dUn gNeg (dC (.int 1))) (dTup (aCons (dBin gAdd (dBin gIx (dBin gIx (dName 1) (dUn gNeg (dC (.int 1)))) (dC (.int 0))) (dName 2)) (aCons (dName 3) aNil)))) (sAppend 1 (dTup (aCons (dName 2) (aCons (dName 3) aNil))))))
  (sRet (dBlt cTuple (rCons (dName 1) rNil)))))
end Dl
namespace Dl
open PySem PySem.Spec PyProof.Rows L2 NdefX
def b_beside (C : Cs) : Sd := (sSeq (sExpr (dCall C 60 (aCons (dName 0) (aCons (dName 1) aNil))))
  (sRet (dBin gAdd (dName 0) (dName 1))))
end Dl
namespace Dl
open PySem PySem.Spec PyProof.Rows L2 NdefX
end Dl
namespace Dl
open PySem PySem.Spec PyProof.Rows L2 NdefX
def b_doors_of (C : Cs) : Sd := (sRet (dBlt cSortS (rCons (dKeys (iSeq (dCall C 32 (aCons (dName 0) aNil))) [1] (gN 1) (dTst (dBin (gEq C.room) (dBlt cLen (rCons (dName 1) rNil)) (dC (.int 3)))) (dBin gIx (dName 1) (dC (.int 1)))) rNil)))
def b_labels_of_124 (C : Cs) : Sd := (sRet (dBlt cSortA (rCons (dKeysA (iSeq (dCall C 32 (aCons (dName 0) aNil))) [2] (gN 2) (dTst (dBin (gEq C.room) (dBin gIx (dName 2) (dC (.int 0))) (dName 1))) (dBin gIx (dName 2) (dC (.int 1)))) rNil)))
def b_doors (C : Cs) : Sd := (sSeq (sExpr (dCall C 31 (aCons (dName 0) aNil)))
  (sRet (dCall C 54 (aCons (dName 0) aNil))))
def b_names_128 (C : Cs) : Sd := (sSeq (sExpr (dCall C 31 (aCons (dName 0) aNil)))
  (sRet (dCall C 124 (aCons (dName 0) (aCons (dC (.str "name")) aNil)))))
def b_marks_127 (C : Cs) : Sd := (sSeq (sExpr (dCall C 31 (aCons (dName 0) aNil)))
  (sRet (dCall C 124 (aCons (dName 0) (aCons (dC (.str "mark")) aNil)))))
end Dl
namespace Dl
open PySem PySem.Spec PyProof.Rows L2 NdefX
end Dl
namespace Dl
open PySem PySem.Spec PyProof.Rows L2 NdefX
end Dl
namespace Dl
open PySem PySem.Spec PyProof.Rows L2 NdefX
end Dl
namespace Dl
open PySem PySem.Spec PyProof.Rows L2 NdefX
end Dl
namespace Dl
open PySem PySem.Spec PyProof.Rows L2 NdefX
def b_all_items (C : Cs) : Sd := (sSeq (sExpr (dCall C 31 (aCons (dName 0) aNil)))
  (sRet (dCall C 52 (aCons (dName 0) aNil))))
def b_nested (C : Cs) : Sd := (sSeq (sExpr (dCall C 31 (aCons (dName 0) aNil)))
  (sRet (dCall C 51 (aCons (dName 0) aNil))))
end Dl
namespace Dl
open PySem PySem.Spec PyProof.Rows L2 NdefX
def b__law_items (C : Cs) : Sd := (sSeq (sSet 1 (dC (.int 0)))
  (sSeq (sFor (iSeq (dName 0)) (gT 2 (gsCons (gN 2) (gsCons (gN 3) gsNil))) (sSeq (sSet 1 (dBin gAdd (dName 1) (dC (.int 1))))
  (sIf (dTst (dBin (gEq C.room) (dBlt cLen (rCons (dName 3) rNil)) (dC (.int 3)))) (sSet 1 (dBin gAdd (dName 1) (dCall C 320 (aCons (dBin gIx (dName 3) (dC (.int 2))) aNil)))) sNil)))
  (sRet (dName 1))))
def b__law_deep (C : Cs) : Sd := (sRet (dBlt cMax1 (rCons (dBin gAdd (dLst (aCons (dC (.int 0)) aNil)) (dComp (iSeq (dName 0)) [1, 2] (gT 2 (gsCons (gN 1) (gsCons (gN 2) gsNil))) (dTst (dBin (gEq C.room) (dBlt cLen (rCons (dName 2) rNil)) (dC (.int 3)))) (dBin gAdd (dC (.int 1)) (dCall C 71 (aCons (dBin gIx (dName 2) (dC (.int 2))) aNil))))) rNil)))
def b__law_at (C : Cs) : Sd := (sSeq (sSet 3 (dC (.int 0)))
  (sSeq (sSet 4 (dC (.int 0)))
  (sSeq (sFor (iSeq (dName 0)) (gT 2 (gsCons (gN 5) (gsCons (gN 6) gsNil))) (sSeq (sIf (dTst (dBin (gEq C.room) (dName 6) (dName 1))) (sSeq (sSet 3 (dBin gAdd (dName 3) (dC (.int 1))))
  (sSet 4 (dBlt cMax2 (rCons (dName 4) (rCons (dName 2) rNil))))) sNil)
  (sIf (dTst (dBin (gEq C.room) (dBlt cLen (rCons (dName 6) rNil)) (dC (.int 3)))) (sSeq (sAsg (gT 2 (gsCons (gN 7) (gsCons (gN 8) gsNil))) (dCall C 321 (aCons (dBin gIx (dName 6) (dC (.int 2))) (aCons (dName 1) (aCons (dBin gAdd (dName 2) (dC (.int 1))) aNil)))))
  (sSeq (sSet 3 (dBin gAdd (dName 3) (dName 7)))
  (sSet 4 (dBlt cMax2 (rCons (dName 4) (rCons (dName 8) rNil)))))) sNil)))
  (sRet (dTup (aCons (dName 3) (aCons (dName 4) aNil)))))))
end Dl
namespace Dl
open PySem PySem.Spec PyProof.Rows L2 NdefX
def b__law_parts (C : Cs) : Sd := (sSeq (sSet 1 (dLst aNil))
  (sSeq (sFor (iSeq (dName 0)) (gT 2 (gsCons (gN 2) (gsCons (gN 3) gsNil))) (sSeq (sAppend 1 (dName 3))
  (sIf (dTst (dBin (gEq C.room) (dBlt cLen (rCons (dName 3) rNil)) (dC (.int 3)))) (sSet 1 (dBin gAdd (dName 1) (dCall C 63 (aCons (dBin gIx (dName 3) (dC (.int 2))) aNil)))) sNil)))
  (sRet (dName 1))))
def b__law_great_64 (C : Cs) : Sd := (sSeq (sSet 2 (dLst aNil))
  (sSeq (sFor (iSeq (dName 1)) (gT 2 (gsCons (gN 3) (gsCons (gN 4) gsNil))) (sSeq (sIf (dTst (dBin (gEq C.room) (dBlt cLen (rCons (dName 4) rNil)) (dC (.int 3)))) (sSet 4 (dTup (aCons (dBin gIx (dName 4) (dC (.int 0))) (aCons (dBin gIx (dName 4) (dC (.int 1))) (aCons (dCall C 64 (aCons (dName 0) (aCons (dBin gIx (dName 4) (dC (.int 2))) aNil))) aNil))))) sNil)
  (sAppend 2 (dTup (aCons (dBin gMul (dName 3) (dBin gIx (dLst (aCons (dC (.int 1)) (aCons (dC (.int 1)) (aCons (dC (.int 1)) (aCons (dBin gPow (dC (.int 10)) (dC (.int 30))) (aCons (dC (.int 7)) aNil)))))) (dCall C 11 (aCons (dName 0) (aCons (dC (.int 5)) aNil))))) (aCons (dName 4) aNil))))))
  (sRet (dBlt cTuple (rCons (dName 2) rNil)))))
def b__law_all (C : Cs) : Sd := (sSeq (sSet 2 (dLst aNil))
  (sSeq (sFor (iSeq (dCall C 63 (aCons (dName 0) aNil))) (gN 3) (sIf (tAnd' (dTst (dBin (inD false C.room) (dBin gIx (dName 3) (dC (.int 0))) (dName 1))) (dTst (dBin (inD true C.room) (dBin gIx (dName 3) (dC (.int 1))) (dName 2)))) (sAppend 2 (dBin gIx (dName 3) (dC (.int 1)))) sNil))
  (sRet (dBlt cSortA (rCons (dName 2) rNil)))))
def b_law_700 (C : Cs) : Sd := (sSeq (sSetW 1 (dCall C 22 (aCons (dName 0) aNil)))
  (sSeq (sSet 2 (dBin (gEq C.room) (dCall C 11 (aCons (dName 1) (aCons (dC (.int 3)) aNil))) (dC (.int 0))))
  (sSeq (sSet 3 (dCall C 40 (aCons (dName 1) (aCons (dBin gAdd (dC (.int 1)) (dCall C 11 (aCons (dName 1) (aCons (dC (.int 20)) aNil)))) (aCons (dC (.int 0)) (aCons (dC (.str "abcz")) (aCons (dLst (aCons (dC (.str "x")) (aCons (dC (.str "yy")) (aCons (dC (.str "z")) aNil)))) aNil)))))))
  (sSeq (sSet 4 (dCall C 40 (aCons (dName 1) (aCons (dBin gAdd (dC (.int 1)) (dCall C 11 (aCons (dName 1) (aCons (dC (.int 6)) aNil)))) (aCons (dC (.int 0)) (aCons (dC (.str "adz")) (aCons (dLst (aCons (dC (.str "x")) (aCons (dC (.str "w")) aNil))) aNil)))))))
  (sSeq (sIf (dTru (dName 2)) (sSet 3 (dCall C 64 (aCons (dName 1) (aCons (dName 3) aNil)))) sNil)
  (sSeq (sSet 3 (dCall C 73 (aCons (dName 3) (aCons (dC (.str "z")) (aCons (dTup (aCons (dTup (aCons (dC (.int 1)) (aCons (dTup (aCons (dC (.str "mark")) (aCons (dCall C 11 (aCons (dName 1) (aCons (dC (.int 5)) aNil))) aNil))) aNil))) (aCons (dTup (aCons (dC (.int 1)) (aCons (dTup (aCons (dC (.str "mark")) (aCons (dBin gPow (dC (.int 10)) (dC (.int 30))) aNil))) aNil))) aNil))) aNil)))))
  (sSeq (sFor (iSeq (dLst (aCons (dName 3) (aCons (dName 4) (aCons (dCall C 66 (aCons (dName 3) (aCons (dName 4) aNil))) aNil))))) (gN 5) (sSeq (sIf (tOr' (dTst (dBin (gNe C.room) (dCall C 47 (aCons (dName 5) aNil)) (dCall C 41 (aCons (dName 5) aNil)))) (dTru (dIsi .bool (dCall C 47 (aCons (dName 5) aNil))))) (sRet (dC (.bl false))) sNil)
  (sSeq (sIf (tOr' (dTst (dBin (gNe C.room) (dCall C 72 (aCons (dName 5) aNil)) (dBlt cLen (rCons (dCall C 63 (aCons (dName 5) aNil)) rNil)))) (dTst (dBin (gNe C.room) (dCall C 70 (aCons (dName 5) aNil)) (dCall C 71 (aCons (dName 5) aNil))))) (sRet (dC (.bl false))) sNil)
  (sSeq (sSetO 6 (dNewFl (rCons (dAsW (dCall C 68 (aCons (dName 5) aNil))) (rCons (dAsW (dCall C 128 (aCons (dName 5) aNil))) (rCons (dAsW (dCall C 127 (aCons (dName 5) aNil))) rNil)))))
  (sSeq (sSet 7 (dLst (aCons (dCall C 69 (aCons (dName 5) (aCons (dLst (aCons (dC (.str "letter")) (aCons (dC (.str "wait")) aNil))) aNil))) (aCons (dCall C 69 (aCons (dName 5) (aCons (dLst (aCons (dC (.str "name")) aNil)) aNil))) (aCons (dCall C 69 (aCons (dName 5) (aCons (dLst (aCons (dC (.str "mark")) aNil)) aNil))) aNil)))))
  (sSeq (sIf (tOr' (dTst (dNeFl C.room (dName 6) (dName 7))) (dTst (dBin (gGt C.room) (dBlt cLen (rCons (dCompF (iRefF (dName 6)) [8] 8 (tNot' (dTru (dIsiW .list (dName 8)))) (dName 8)) rNil)) (dC (.int 0))))) (sRet (dC (.bl false))) sNil)
  (sSeq (sForF (iRefF (dName 6)) 8 (sAppF (dName 8) (dC .non)))
  (sIf (dTst (dBin (gNe C.room) (dLst (aCons (dCall C 68 (aCons (dName 5) aNil)) (aCons (dCall C 128 (aCons (dName 5) aNil)) (aCons (dCall C 127 (aCons (dName 5) aNil)) aNil)))) (dName 7))) (sRet (dC (.bl false))) sNil))))))))
  (sSeq (sIf (tOr' (dTst (dBin (gNe C.room) (dCall C 47 (aCons (dCall C 66 (aCons (dName 3) (aCons (dName 4) aNil))) aNil)) (dBin gAdd (dCall C 47 (aCons (dName 3) aNil)) (dCall C 47 (aCons (dName 4) aNil))))) (dTst (dBin (gNe C.room) (dCall C 66 (aCons (dName 3) (aCons (dName 4) aNil))) (dBin gAdd (dName 3) (dName 4))))) (sRet (dC (.bl false))) sNil)
  (sRet (dAnd (dBin (gEq C.room) (dCall C 65 (aCons (dName 3) (aCons (dC (.int 7)) (aCons (dName 4) aNil)))) (dName 3)) (dBin (gEq C.room) (dCall C 47 (aCons (dTup aNil) aNil)) (dC (.int 0)))))))))))))
end Dl
namespace Dl
open PySem PySem.Spec PyProof.Rows L2 NdefX
end Dl
namespace Dl
open PySem PySem.Spec PyProof.Rows L2 NdefX
mutual
inductive Pa where
  | name (x : Str) | mark (n : Nat) | got (n : Nat) | letter (x : Str) (b : Pl) | wait (x : Str) (b : Pl)
inductive Pl where
  | nil | cons (c : Nat) (p : Pa) (r : Pl)
end
mutual
def Pa.d : Pa → D
  | .name x => .tup [.str "name", .str x]
  | .mark n => .tup [.str "mark", .int n]
  | .got n => .tup [.str "got", .int n]
  | .letter x b => .tup [.str "letter", .str x, .tup b.ds]
  | .wait x b => .tup [.str "wait", .str x, .tup b.ds]
def Pl.ds : Pl → List D
  | .nil => []
  | .cons c p r => .tup [.int c, p.d] :: r.ds
end
abbrev Pl.d (p : Pl) : D := .tup p.ds
mutual
def Pa.dep : Pa → Nat
  | .letter _ b => b.dep + 1
  | .wait _ b => b.dep + 1
  | _ => 0
def Pl.dep : Pl → Nat
  | .nil => 0
  | .cons _ p r => max p.dep r.dep
end
def smallS : Str := "abcdefghijklmnopqrstuvwxyz"
def wordB (x : Str) : Bool := decide (1 ≤ x.length) && decide (x.length ≤ 8) && x.cps.toList.all (fun c => decide (c ∈ smallS.cps.toList))
def doorB (x : Str) : Bool := wordB x && decide (x.length = 1)
mutual
def Pa.ok : Pa → Nat → Bool
  | .name x, _ => wordB x
  | .mark _, _ => true
  | .got n, k => decide (n < k)
  | .letter x b, k => doorB x && b.ok k
  | .wait x b, k => doorB x && b.ok (k + 1)
def Pl.ok : Pl → Nat → Bool
  | .nil, _ => true
  | .cons c p r, k => decide (1 ≤ c) && p.ok k && r.ok k
end
section
variable {a b : D} {l k : List D} {s t : Str} {i j : Int}
@[simp] theorem eqt_cc : (D.tup (a :: l)).eq (.tup (b :: k)) = (a.eq b && (D.tup l).eq (.tup k)) := rfl
@[simp] theorem eqt_nn : (D.tup []).eq (.tup []) = true := rfl
@[simp] theorem eqt_nc : (D.tup []).eq (.tup (b :: k)) = false := rfl
@[simp] theorem eqt_cn : (D.tup (a :: l)).eq (.tup []) = false := rfl
@[simp] theorem eq_ss : (D.str s).eq (.str t) = decide (s = t) := by rfl
@[simp] theorem eq_ii : (D.int i).eq (.int j) = decide (i = j) := by rfl
@[simp] theorem eq_is : (D.int i).eq (.str t) = false := rfl
@[simp] theorem eq_si : (D.str t).eq (.int i) = false := rfl
@[simp] theorem eq_it : (D.int i).eq (.tup k) = false := rfl
@[simp] theorem eq_st : (D.str t).eq (.tup k) = false := rfl
@[simp] theorem eq_ti : (D.tup k).eq (.int i) = false := rfl
@[simp] theorem eq_ts : (D.tup k).eq (.str t) = false := rfl
@[simp] theorem dept_c : (D.tup (a :: l)).dep = max (a.dep + 1) (D.tup l).dep := by
  show max a.dep (D.depL l) + 1 = max (a.dep + 1) (D.depL l + 1)
  omega
@[simp] theorem dept_n : (D.tup []).dep = 1 := rfl
end
mutual
theorem D.eq_refl : ∀ d : D, d.eq d = true
  | .non => rfl
  | .bl b => by rw [eq_b]; simp
  | .int i => by simp
  | .str s => by simp
  | .dic _ => (by decide : PyData.eqv (.str noTxt) (.str noTxt) = true)
  | .lst l => D.eq_reflL l
  | .tup l => D.eq_reflL l
theorem D.eq_reflL : ∀ l : List D, PyData.eqvAll (D.pqAll l) (D.pqAll l) = true
  | [] => rfl
  | d :: l => by
    show (PyData.eqv d.pq d.pq && PyData.eqvAll (D.pqAll l) (D.pqAll l)) = true
    rw [D.eq_reflL l, Bool.and_true]
    exact D.eq_refl d
end
theorem gEq_self {rm : Nat} {d : D} (h : d.dep ≤ rm) : gEq rm d d = some (.dat (.bl true)) := by
  unfold gEq
  rw [if_pos (by omega), D.eq_refl]
theorem gNe_self {rm : Nat} {d : D} (h : d.dep ≤ rm) : gNe rm d d = some (.dat (.bl false)) := by
  unfold gNe
  rw [if_pos (by omega), D.eq_refl]
  rfl
theorem gEq_t {rm : Nat} {k l : List D} (h : (D.tup l).dep ≤ rm) : gEq rm (.tup k) (.tup l) = some (.dat (.bl ((D.tup k).eq (.tup l)))) := by
  unfold gEq
  rw [if_pos (by omega)]
mutual
theorem Pa.dep_le : ∀ p : Pa, p.d.dep ≤ 3 * p.dep + 2
  | .name x => by simp [Pa.d]
  | .mark n => by simp [Pa.d]
  | .got n => by simp [Pa.d]
  | .letter x b => by have := Pl.dep_le b; simp only [Pa.d, Pa.dep, dept_c, dept_n, dep_s, Pl.d] at *; omega
  | .wait x b => by have := Pl.dep_le b; simp only [Pa.d, Pa.dep, dept_c, dept_n, dep_s, Pl.d] at *; omega
theorem Pl.dep_le : ∀ p : Pl, p.d.dep ≤ 3 * p.dep + 4
  | .nil => by simp [Pl.d, Pl.ds]
  | .cons c p r => by have h1 := Pa.dep_le p; have h2 := Pl.dep_le r; simp only [Pl.d, Pl.ds, Pl.dep, dept_c, dept_n, dep_i] at *; omega
end
theorem at_0 {α : Type} {a : α} {l : List α} : atI (a :: l) 0 = some a := by
  have := atI_get (l := a :: l) (k := 0) (by simp)
  simpa using this
theorem at_1 {α : Type} {a b : α} {l : List α} : atI (a :: b :: l) 1 = some b := by
  have := atI_get (l := a :: b :: l) (k := 1) (by simp)
  simpa using this
theorem at_2 {α : Type} {a b c : α} {l : List α} : atI (a :: b :: c :: l) 2 = some c := by
  have := atI_get (l := a :: b :: c :: l) (k := 2) (by simp)
  simpa using this
def isI : D → Bool
  | .int _ => true
  | _ => false
def sgnF : D → D
  | .str z => .bl (decide (z.cps.toList.headD 0 ∈ smallS.cps.toList))
  | _ => .non
structure HasC (tbl : Nat → Option DefB) : Prop where
  t1 : tbl 1 = some ⟨1, 1, b_is_integer⟩
  t2 : tbl 2 = some ⟨3, 3, b_is_within⟩
  t4 : tbl 4 = some ⟨1, 1, b_is_pair⟩
  t27 : tbl 27 = some ⟨1, 1, b_is_triple⟩
  t24 : tbl 24 = some ⟨1, 2, b_is_word⟩
  t26 : tbl 26 = some ⟨1, 1, b_is_door⟩
  t28 : tbl 28 = some ⟨2, 2, b_is_part⟩
  t25 : tbl 25 = some ⟨2, 3, b_is_plan_in⟩
theorem succ_of {n k : Nat} (h : k + 1 ≤ n) : ∃ m, n = m + 1 ∧ k ≤ m := ⟨n - 1, by omega, by omega⟩
section
variable {tbl : Nat → Option DefB} (T : HasC tbl)
include T
theorem c_integer {n : Nat} (hn : 1 ≤ n) (d : D) (w : World) : (Den tbl n).call 1 [.dat d] w = .ok (.dat (.bl (isI d))) w := by
  obtain ⟨m, rfl, _⟩ := succ_of (k := 0) hn
  rw [den_succ T.t1]
  cases d <;> simp [runB, initE, toSl, b_is_integer, D.isTy, isI]
theorem c_within {n : Nat} (hn : 2 ≤ n) (i l m : Int) (w : World) : (Den tbl n).call 2 [.dat (.int i), .dat (.int l), .dat (.int m)] w = .ok (.dat (.bl (decide (l ≤ i) && decide (i ≤ m)))) w := by
  obtain ⟨k, rfl, hk⟩ := succ_of (k := 1) hn
  rw [den_succ T.t2]
  have h := c_integer T hk
  by_cases h1 : l ≤ i <;> simp [runB, initE, toSl, b_is_within, h _ _, isI, h1]
theorem c_pair {n : Nat} (hn : 1 ≤ n) (l : List D) (w : World) : (Den tbl n).call 4 [.dat (.tup l)] w = .ok (.dat (.bl (decide (l.length = 2)))) w := by
  obtain ⟨m, rfl, _⟩ := succ_of (k := 0) hn
  rw [den_succ T.t4]
  simp [runB, initE, toSl, b_is_pair, D.isTy]
  omega
theorem c_triple {n : Nat} (hn : 1 ≤ n) (l : List D) (w : World) : (Den tbl n).call 27 [.dat (.tup l)] w = .ok (.dat (.bl (decide (l.length = 3)))) w := by
  obtain ⟨m, rfl, _⟩ := succ_of (k := 0) hn
  rw [den_succ T.t27]
  simp [runB, initE, toSl, b_is_triple, D.isTy]
  omega
theorem c_word {n : Nat} (hn : 1 ≤ n) (x : Str) (w : World) : (Den tbl n).call 24 [.dat (.str x)] w = .ok (.dat (.bl (wordB x))) w := by
  obtain ⟨m, rfl, _⟩ := succ_of (k := 0) hn
  rw [den_succ T.t24]
  have g := compGo_map (i := 1) (e := dBin (inD false (Den tbl m).room) (dName 1) (dC (.str "abcdefghijklmnopqrstuvwxyz"))) (env := [.dat (.str x), .un]) (w := w) (f := sgnF) (l := chs x) (fun d hd => by
    obtain ⟨c, _, rfl⟩ := List.mem_map.mp hd
    simp [inD, smallS, sgnF])
  have ha : cAll [.lst ((chs x).map sgnF)] = some (.dat (.bl (x.cps.toList.all fun c => decide (c ∈ smallS.cps.toList)))) := by
    rw [cAll_l]
    unfold chs
    rw [List.map_map]
    show (bolsOf (x.cps.toList.map fun c => D.bl (decide (c ∈ smallS.cps.toList)))).map _ = _
    rw [bolsOf_mapF]
    simp
  by_cases h1 : 1 ≤ x.length
  · by_cases h2 : x.length ≤ 8
    · have e1 : (1 : Int) ≤ x.length := by omega
      have e2 : (x.length : Int) ≤ 8 := by omega
      simp [runB, initE, toSl, b_is_word, D.isTy, iTxt, e1, e2, h1, h2, g, -cAll_l, ha, wordB]
    · have e1 : (1 : Int) ≤ x.length := by omega
      have e2 : ¬ (x.length : Int) ≤ 8 := by omega
      simp [runB, initE, toSl, b_is_word, D.isTy, e1, e2, h1, h2, wordB]
  · have e1 : ¬ (1 : Int) ≤ x.length := by omega
    simp [runB, initE, toSl, b_is_word, D.isTy, e1, h1, wordB]
theorem c_door {n : Nat} (hn : 2 ≤ n) (x : Str) (w : World) : (Den tbl n).call 26 [.dat (.str x)] w = .ok (.dat (.bl (doorB x))) w := by
  obtain ⟨k, rfl, hk⟩ := succ_of (k := 1) hn
  rw [den_succ T.t26]
  have h := c_word T hk
  by_cases h1 : wordB x = true
  · simp [runB, initE, toSl, b_is_door, h _ _, h1, doorB]
    omega
  · simp [runB, initE, toSl, b_is_door, h _ _, h1, doorB]
end
end Dl
namespace Dl
open PySem PySem.Spec PyProof.Rows L2 NdefX
theorem ne_1 : ¬ Str.ofString "mark" = Str.ofString "name" := by decide +kernel
theorem ne_2 : ¬ Str.ofString "got" = Str.ofString "name" := by decide +kernel
theorem ne_3 : ¬ Str.ofString "got" = Str.ofString "mark" := by decide +kernel
theorem ne_4 : ¬ Str.ofString "letter" = Str.ofString "wait" := by decide +kernel
theorem ne_5 : ¬ Str.ofString "wait" = Str.ofString "letter" := by decide +kernel
theorem ne_6 : ¬ Str.ofString "name" = Str.ofString "letter" := by decide +kernel
theorem ne_7 : ¬ Str.ofString "name" = Str.ofString "wait" := by decide +kernel
theorem ne_8 : ¬ Str.ofString "mark" = Str.ofString "letter" := by decide +kernel
theorem ne_9 : ¬ Str.ofString "mark" = Str.ofString "wait" := by decide +kernel
theorem ne_10 : ¬ Str.ofString "got" = Str.ofString "letter" := by decide +kernel
theorem ne_11 : ¬ Str.ofString "got" = Str.ofString "wait" := by decide +kernel
theorem ne_12 : ¬ Str.ofString "letter" = Str.ofString "name" := by decide +kernel
theorem ne_13 : ¬ Str.ofString "wait" = Str.ofString "name" := by decide +kernel
theorem ne_14 : ¬ Str.ofString "name" = Str.ofString "got" := by decide +kernel
theorem ne_15 : ¬ Str.ofString "mark" = Str.ofString "got" := by decide +kernel
theorem ne_18 : ¬ Str.ofString "name" = Str.ofString "mark" := by decide +kernel
def Pa.l : Pa → List D
  | .name x => [.str "name", .str x]
  | .mark n => [.str "mark", .int n]
  | .got n => [.str "got", .int n]
  | .letter x b => [.str "letter", .str x, .tup b.ds]
  | .wait x b => [.str "wait", .str x, .tup b.ds]
theorem Pa.d_l (p : Pa) : p.d = .tup p.l := by cases p <;> rfl
theorem notin2 {rm : Nat} (h : 1 ≤ rm) {z a b : Str} : inD true rm (.str z) (.tup [.str a, .str b]) = some (.dat (.bl (!(decide (a = z) || decide (b = z))))) := by
  have e : 1 + min (depAll [.str a, .str b]) (D.str z).dep ≤ rm := by
    rw [dep_s]
    omega
  show (if 1 + min (depAll [.str a, .str b]) (D.str z).dep ≤ rm then some (RV.dat (.bl (true ^^ [D.str a, D.str b].any fun y => y.eq (.str z)))) else none) = _
  rw [if_pos e]
  simp
section
variable {tbl : Nat → Option DefB} (T : HasC tbl)
include T
abbrev inBody (C : Cs) : Sd := (sIf (tOr' (tNot' (dTru (dCall C 4 (aCons (dName 2) aNil)))) (tOr' (tNot' (dTru (dCall C 1 (aCons (dBin gIx (dName 2) (dC (.int 0))) aNil)))) (tOr' (dTst (dBin (gLt C.room) (dBin gIx (dName 2) (dC (.int 0))) (dC (.int 1)))) (tNot' (dTru (dCall C 28 (aCons (dBin gIx (dName 2) (dC (.int 1))) (aCons (dName 1) aNil)))))))) (sRet (dC (.bl false))) sNil)
omit T in
theorem plan_in_of {m : Nat} {p : Pl} {k : Nat} {w : World}
    (h : if p.ok k = true then ∃ s', forGo (gN 2) (inBody (Den tbl m)) p.ds [.dat p.d, .dat (.int k), .un] w = .ok (.nx [.dat p.d, .dat (.int k), s']) w else forGo (gN 2) (inBody (Den tbl m)) p.ds [.dat p.d, .dat (.int k), .un] w = .ok (.rt (.dat (.bl false))) w) :
    runB ⟨2, 3, b_is_plan_in⟩ (Den tbl m) [.dat p.d, .dat (.int k)] w = .ok (.dat (.bl (p.ok k))) w := by
  by_cases hp : p.ok k = true
  · rw [if_pos hp] at h
    obtain ⟨s', e⟩ := h
    simp only [Pl.d] at e
    simp [runB, initE, toSl, b_is_plan_in, D.isTy, e, hp]
  · rw [if_neg hp] at h
    simp only [Pl.d] at h
    simp [runB, initE, toSl, b_is_plan_in, D.isTy, h, hp]
mutual
theorem c_part : ∀ (p : Pa) (k n : Nat) (w : World), 2 * p.dep + 3 ≤ n → (Den tbl n).call 28 [.dat p.d, .dat (.int k)] w = .ok (.dat (.bl (p.ok k))) w
  | .name x, k, n, w, hn => by
    obtain ⟨m, rfl, hm⟩ := succ_of (k := 2) (n := n) (by simp only [Pa.dep] at hn; omega)
    rw [den_succ T.t28]
    simp [runB, initE, toSl, b_is_part, Pa.d, Pa.ok, c_pair T (show 1 ≤ m by omega), at_0, at_1, c_word T (show 1 ≤ m by omega)]
  | .mark j, k, n, w, hn => by
    obtain ⟨m, rfl, hm⟩ := succ_of (k := 2) (n := n) (by simp only [Pa.dep] at hn; omega)
    rw [den_succ T.t28]
    simp [runB, initE, toSl, b_is_part, Pa.d, Pa.ok, c_pair T (show 1 ≤ m by omega), at_0, at_1, c_integer T (show 1 ≤ m by omega), isI, ne_1]
  | .got j, k, n, w, hn => by
    obtain ⟨m, rfl, hm⟩ := succ_of (k := 2) (n := n) (by simp only [Pa.dep] at hn; omega)
    rw [den_succ T.t28]
    simp [runB, initE, toSl, b_is_part, Pa.d, Pa.ok, c_pair T (show 1 ≤ m by omega), at_0, at_1, c_within T (show 2 ≤ m by omega), ne_2, ne_3]
    omega
  | .letter x b, k, n, w, hn => by
    simp only [Pa.dep] at hn
    obtain ⟨m, rfl, hm⟩ := succ_of (k := 2) (n := n) (by omega)
    obtain ⟨m', rfl, hm'⟩ := succ_of (k := 1) (n := m) (by omega)
    rw [den_succ T.t28]
    have hb : (Den tbl (m' + 1)).call 25 [.dat b.d, .dat (.int k)] w = .ok (.dat (.bl (b.ok k))) w := by
      rw [den_succ T.t25]
      exact plan_in_of (c_inLoop b b.d k m' w .un (by omega))
    simp only [Pl.d] at hb
    have hr := fun (z a b : Str) => notin2 (rm := (Den tbl (m' + 1)).room) (z := z) (a := a) (b := b) (by rw [den_room]; omega)
    by_cases hx : doorB x = true
    · simp [runB, initE, toSl, b_is_part, Pa.d, Pa.ok, c_pair T (show 1 ≤ m' + 1 by omega), c_triple T (show 1 ≤ m' + 1 by omega), at_0, at_1, at_2, c_door T (show 2 ≤ m' + 1 by omega), hx, hb, hr, ne_4]
    · simp [runB, initE, toSl, b_is_part, Pa.d, Pa.ok, c_pair T (show 1 ≤ m' + 1 by omega), c_triple T (show 1 ≤ m' + 1 by omega), at_0, at_1, at_2, c_door T (show 2 ≤ m' + 1 by omega), hx, hr]
  | .wait x b, k, n, w, hn => by
    simp only [Pa.dep] at hn
    obtain ⟨m, rfl, hm⟩ := succ_of (k := 2) (n := n) (by omega)
    obtain ⟨m', rfl, hm'⟩ := succ_of (k := 1) (n := m) (by omega)
    rw [den_succ T.t28]
    have hb : (Den tbl (m' + 1)).call 25 [.dat b.d, .dat (.int ((k + 1 : Nat)))] w = .ok (.dat (.bl (b.ok (k + 1)))) w := by
      rw [den_succ T.t25]
      exact plan_in_of (c_inLoop b b.d (k + 1) m' w .un (by omega))
    simp only [Pl.d, Int.natCast_add, Int.cast_ofNat_Int] at hb
    have hr := fun (z a b : Str) => notin2 (rm := (Den tbl (m' + 1)).room) (z := z) (a := a) (b := b) (by rw [den_room]; omega)
    by_cases hx : doorB x = true
    · simp [runB, initE, toSl, b_is_part, Pa.d, Pa.ok, c_pair T (show 1 ≤ m' + 1 by omega), c_triple T (show 1 ≤ m' + 1 by omega), at_0, at_1, at_2, c_door T (show 2 ≤ m' + 1 by omega), hx, hb, hr]
    · simp [runB, initE, toSl, b_is_part, Pa.d, Pa.ok, c_pair T (show 1 ≤ m' + 1 by omega), c_triple T (show 1 ≤ m' + 1 by omega), at_0, at_1, at_2, c_door T (show 2 ≤ m' + 1 by omega), hx, hr]
theorem c_inLoop : ∀ (r : Pl) (P : D) (k m : Nat) (w : World) (s : Sl), 2 * r.dep + 3 ≤ m →
    if r.ok k = true then ∃ s', forGo (gN 2) (inBody (Den tbl m)) r.ds [.dat P, .dat (.int k), s] w = .ok (.nx [.dat P, .dat (.int k), s']) w else forGo (gN 2) (inBody (Den tbl m)) r.ds [.dat P, .dat (.int k), s] w = .ok (.rt (.dat (.bl false))) w
  | .nil, P, k, m, w, s, hm => by
    rw [if_pos (show Pl.nil.ok k = true by simp [Pl.ok])]
    exact ⟨s, by simp [Pl.ds]⟩
  | .cons c p r, P, k, m, w, s, hm => by
    simp only [Pl.dep] at hm
    have h1 := c_part p k m w (by omega)
    have h2 := c_inLoop r P k m w (.dat (.tup [.int c, p.d])) (by omega)
    have e : ∀ w, (Den tbl m).call 4 [.dat (.tup [.int c, p.d])] w = .ok (.dat (.bl true)) w := fun w => by rw [c_pair T (by omega)]; rfl
    simp only [Pl.ds, Pl.ok]
    by_cases hc : 1 ≤ c
    · have hc' : ¬ ((c : Int) < 1) := by omega
      by_cases hp : p.ok k = true
      · simp only [hc, hp, decide_true, Bool.true_and]
        simp [for_cons, e, at_0, at_1, c_integer T (show 1 ≤ m by omega), isI, hc', h1, hp]
        simpa using h2
      · simp [for_cons, e, at_0, at_1, c_integer T (show 1 ≤ m by omega), isI, hc', h1, hp]
    · have hc' : ((c : Int) < 1) := by omega
      simp [for_cons, e, at_0, at_1, c_integer T (show 1 ≤ m by omega), isI, hc, hc']
end
theorem c_plan_in (p : Pl) (k n : Nat) (w : World) (hn : 2 * p.dep + 4 ≤ n) : (Den tbl n).call 25 [.dat p.d, .dat (.int k)] w = .ok (.dat (.bl (p.ok k))) w := by
  obtain ⟨m, rfl, hm⟩ := succ_of (k := 2 * p.dep + 3) hn
  rw [den_succ T.t25]
  exact plan_in_of (c_inLoop T p p.d k m w .un hm)
end
end Dl
namespace Dl
open PySem PySem.Spec PyProof.Rows L2 NdefX
@[irreducible] def limN : Nat := 2 ^ 400000
theorem mulOk_nat {i j : Nat} (hi : i < limN) (hj : j < limN) : mulOk i j = true := by
  have k : ∀ n : Nat, n < limN → n.log2 < 400000 := fun n h => by
    unfold limN at h
    by_cases h0 : n = 0
    · subst h0; exact (by decide : (Nat.log2 0) < 400000)
    · exact (Nat.log2_lt h0).mpr h
  have h1 := k i hi
  have h2 := k j hj
  unfold mulOk
  rw [Bool.or_eq_true]
  right
  simp only [Int.natAbs_natCast, decide_eq_true_eq]
  omega
theorem go_cons {g : Tgt} {tt : Tst} {e : Ex} {env : Ev} {d : D} {ds : List D} {w : World} : compGo g tt e env (d :: ds) w = (match g d env with
    | none => .stuck
    | some env1 => (noX (tt env1 w)).bind fun b w1 => if b = true then (noX (e env1 w1)).bind fun r w2 => (match r.st with
        | some x => (compGo g tt e env ds w2).bind fun xs w3 => .ok (x :: xs) w3
        | none => .stuck)
      else compGo g tt e env ds w1) := rfl
theorem intsOf_ints (l : List Int) : intsOf (l.map .int) = some l := by
  induction l with
  | nil => rfl
  | cons i l ih => simp [intsOf, ih]
mutual
def Pa.size : Pa → Nat
  | .letter _ b => b.size + 1
  | .wait _ b => b.size + 1
  | _ => 1
def Pl.size : Pl → Nat
  | .nil => 0
  | .cons c p r => c * p.size + r.size
end
def Pl.szs : Pl → List Int
  | .nil => []
  | .cons c p r => ((c : Int) * (p.size : Int)) :: r.szs
theorem szs_sum : ∀ p : Pl, p.szs.sum = (p.size : Int)
  | .nil => rfl
  | .cons c p r => by
    rw [Pl.szs, List.sum_cons, szs_sum r, Pl.size]
    push_cast
    rfl
mutual
def Pa.lim : Pa → Prop
  | .letter _ b => b.lim
  | .wait _ b => b.lim
  | _ => True
def Pl.lim : Pl → Prop
  | .nil => True
  | .cons c p r => c < limN ∧ p.size < limN ∧ p.lim ∧ r.lim
end
structure HasS (tbl : Nat → Option DefB) : Prop where
  t29 : tbl 29 = some ⟨1, 3, b_size_of⟩
  t30 : tbl 30 = some ⟨1, 1, b_part_size⟩
theorem sum_szs (p : Pl) : cSum [.lst (p.szs.map .int)] = some (.dat (.int p.size)) := by
  rw [cSum_l, intsOf_ints, ← szs_sum]
  rfl
section
variable {tbl : Nat → Option DefB} (T : HasS tbl)
include T
mutual
theorem c_psize : ∀ (p : Pa) (n : Nat) (w : World), 2 * p.dep + 1 ≤ n → p.lim → (Den tbl n).call 30 [.dat p.d] w = .ok (.dat (.int p.size)) w
  | .name x, n, w, hn, hl => by
    obtain ⟨m, rfl, hm⟩ := succ_of (k := 0) (n := n) (by simp only [Pa.dep] at hn; omega)
    rw [den_succ T.t30]
    simp [runB, initE, toSl, b_part_size, Pa.d, Pa.size]
  | .mark j, n, w, hn, hl => by
    obtain ⟨m, rfl, hm⟩ := succ_of (k := 0) (n := n) (by simp only [Pa.dep] at hn; omega)
    rw [den_succ T.t30]
    simp [runB, initE, toSl, b_part_size, Pa.d, Pa.size]
  | .got j, n, w, hn, hl => by
    obtain ⟨m, rfl, hm⟩ := succ_of (k := 0) (n := n) (by simp only [Pa.dep] at hn; omega)
    rw [den_succ T.t30]
    simp [runB, initE, toSl, b_part_size, Pa.d, Pa.size]
  | .letter x b, n, w, hn, hl => by
    simp only [Pa.dep] at hn
    obtain ⟨m, rfl, hm⟩ := succ_of (k := 1) (n := n) (by omega)
    obtain ⟨m', rfl, hm'⟩ := succ_of (k := 0) (n := m) (by omega)
    rw [den_succ T.t30]
    have hb : (Den tbl (m' + 1)).call 29 [.dat (.tup b.ds)] w = .ok (.dat (.int b.size)) w := by
      rw [den_succ T.t29]
      have g := c_szLoop b (.tup b.ds) m' w (by omega) hl
      have hs := sum_szs b
      simp [runB, initE, toSl, b_size_of, g, -cSum_l, hs]
    simp [runB, initE, toSl, b_part_size, Pa.d, Pa.size, at_2, hb]
    omega
  | .wait x b, n, w, hn, hl => by
    simp only [Pa.dep] at hn
    obtain ⟨m, rfl, hm⟩ := succ_of (k := 1) (n := n) (by omega)
    obtain ⟨m', rfl, hm'⟩ := succ_of (k := 0) (n := m) (by omega)
    rw [den_succ T.t30]
    have hb : (Den tbl (m' + 1)).call 29 [.dat (.tup b.ds)] w = .ok (.dat (.int b.size)) w := by
      rw [den_succ T.t29]
      have g := c_szLoop b (.tup b.ds) m' w (by omega) hl
      have hs := sum_szs b
      simp [runB, initE, toSl, b_size_of, g, -cSum_l, hs]
    simp [runB, initE, toSl, b_part_size, Pa.d, Pa.size, at_2, hb]
    omega
theorem c_szLoop : ∀ (r : Pl) (P : D) (m : Nat) (w : World), 2 * r.dep + 1 ≤ m → r.lim →
    compGo (gT 2 (gsCons (gN 1) (gsCons (gN 2) gsNil))) tYes' (dBin gMul (dName 1) (dCall (Den tbl m) 30 (aCons (dName 2) aNil))) [.dat P, .un, .un] r.ds w = .ok (r.szs.map .int) w
  | .nil, P, m, w, hm, hl => rfl
  | .cons c p r, P, m, w, hm, hl => by
    simp only [Pl.dep] at hm
    obtain ⟨l1, l2, l3, l4⟩ := hl
    have h1 := c_psize p m w (by omega) l3
    have h2 := c_szLoop r P m w (by omega) l4
    have mo : mulOk (c : Int) (p.size : Int) = true := mulOk_nat l1 l2
    simp [Pl.ds, go_cons, h1, mo, h2, Pl.szs]
end
theorem c_sizeOf (p : Pl) (n : Nat) (w : World) (hn : 2 * p.dep + 2 ≤ n) (hl : p.lim) : (Den tbl n).call 29 [.dat p.d] w = .ok (.dat (.int p.size)) w := by
  obtain ⟨m, rfl, hm⟩ := succ_of (k := 2 * p.dep + 1) hn
  rw [den_succ T.t29]
  have g := c_szLoop T p (.tup p.ds) m w (by omega) hl
  have hs := sum_szs p
  simp [runB, initE, toSl, b_size_of, g, -cSum_l, hs]
end
mutual
def Pa.within : Pa → List Pa
  | .letter _ b => b.within
  | .wait _ b => b.within
  | _ => []
def Pl.within : Pl → List Pa
  | .nil => []
  | .cons _ p r => p :: (p.within ++ r.within)
end
structure HasW (tbl : Nat → Option DefB) : Prop where
  t32 : tbl 32 = some ⟨1, 4, b_parts_within⟩
abbrev pwBody (C : Cs) : Sd := (sSeq (sAppend 1 (dName 3))
  (sIf (dTst (dBin (gEq C.room) (dBlt cLen (rCons (dName 3) rNil)) (dC (.int 3)))) (sExtend 1 (dCall C 32 (aCons (dBin gIx (dName 3) (dC (.int 2))) aNil))) sNil))
@[simp] theorem sExtend_ap {i : Nat} {e : Ex} {env : Ev} {w : World} : sExtend i e env w = (match env[i]? with
  | some (.own l) => (e env w).bind fun r w1 => (match r with
    | .fresh zs => if l.length + zs.length ≤ 16777216 then .ok (.nx (env.set i (.own (l ++ zs)))) w1 else .stuck
    | _ => .stuck)
  | _ => .stuck) := rfl
section
variable {tbl : Nat → Option DefB} (T : HasW tbl)
include T
theorem c_pwLoop : ∀ (r : Pl) (P : D) (m : Nat) (w : World) (acc : List D) (s2 s3 : Sl), r.dep ≤ m → acc.length + r.within.length < 16777216 →
    ∃ s2' s3', forGo (gT 2 (gsCons (gN 2) (gsCons (gN 3) gsNil))) (pwBody (Den tbl m)) r.ds [.dat P, .own acc, s2, s3] w = .ok (.nx [.dat P, .own (acc ++ r.within.map Pa.d), s2', s3']) w
  | .nil, P, m, w, acc, s2, s3, hm, hz => ⟨s2, s3, by simp [Pl.ds, Pl.within]⟩
  | .cons c p r, P, m, w, acc, s2, s3, hm, hz => by
    simp only [Pl.dep] at hm
    simp only [Pl.within, List.length_cons, List.length_append] at hz
    have leaf : p.within = [] → p.l.length = 2 → ∃ s2' s3', forGo (gT 2 (gsCons (gN 2) (gsCons (gN 3) gsNil))) (pwBody (Den tbl m)) (Pl.cons c p r).ds [.dat P, .own acc, s2, s3] w = .ok (.nx [.dat P, .own (acc ++ (Pl.cons c p r).within.map Pa.d), s2', s3']) w := fun e0 e1 => by
      obtain ⟨s2', s3', e⟩ := c_pwLoop r P m w (acc ++ [p.d]) (.dat (.int c)) (.dat p.d) (by omega) (by simp; omega)
      refine ⟨s2', s3', ?_⟩
      have h1 : acc.length < 16777216 := by omega
      simp only [Pa.d_l] at e ⊢
      simp [Pl.ds, for_cons, Pa.d_l, h1, e1, e, Pl.within, e0]
    have node : ∀ b : Pl, b.dep + 1 ≤ m → p.within = b.within → p.l.length = 3 → atI p.l 2 = some (.tup b.ds) → (∃ s2' s3', forGo (gT 2 (gsCons (gN 2) (gsCons (gN 3) gsNil))) (pwBody (Den tbl (m - 1))) b.ds [.dat (.tup b.ds), .own [], .un, .un] w = .ok (.nx [.dat (.tup b.ds), .own ([] ++ b.within.map Pa.d), s2', s3']) w) →
        ∃ s2' s3', forGo (gT 2 (gsCons (gN 2) (gsCons (gN 3) gsNil))) (pwBody (Den tbl m)) (Pl.cons c p r).ds [.dat P, .own acc, s2, s3] w = .ok (.nx [.dat P, .own (acc ++ (Pl.cons c p r).within.map Pa.d), s2', s3']) w := fun b hb e0 e1 e2 hl => by
      obtain ⟨m', rfl, hm'⟩ := succ_of (k := b.dep) (n := m) (by omega)
      obtain ⟨t2, t3, hl⟩ := hl
      have hc : (Den tbl (m' + 1)).call 32 [.dat (.tup b.ds)] w = .ok (.fresh (b.within.map Pa.d)) w := by
        rw [den_succ T.t32]
        simp only [Nat.add_sub_cancel, List.nil_append] at hl
        simp [runB, initE, toSl, b_parts_within, hl]
      obtain ⟨s2', s3', e⟩ := c_pwLoop r P (m' + 1) w (acc ++ [p.d] ++ b.within.map Pa.d) (.dat (.int c)) (.dat p.d) (by omega) (by simp [← e0]; omega)
      refine ⟨s2', s3', ?_⟩
      have h1 : acc.length < 16777216 := by omega
      have h2 : acc.length + 1 + b.within.length ≤ 16777216 := by rw [← e0]; omega
      simp only [Pa.d_l, List.append_assoc, List.singleton_append, List.cons_append, List.nil_append] at e ⊢
      simp [Pl.ds, for_cons, Pa.d_l, h1, e1, e2, hc, h2, e, Pl.within, e0]
    cases p with
    | name x => exact leaf rfl rfl
    | mark x => exact leaf rfl rfl
    | got x => exact leaf rfl rfl
    | letter x b => exact node b (by simp only [Pa.dep] at hm; omega) rfl rfl at_2 (c_pwLoop b (.tup b.ds) (m - 1) w [] .un .un (by simp only [Pa.dep] at hm; omega) (by simp only [Pa.within] at hz; simp; omega))
    | wait x b => exact node b (by simp only [Pa.dep] at hm; omega) rfl rfl at_2 (c_pwLoop b (.tup b.ds) (m - 1) w [] .un .un (by simp only [Pa.dep] at hm; omega) (by simp only [Pa.within] at hz; simp; omega))
theorem c_within' (p : Pl) (n : Nat) (w : World) (hn : p.dep + 1 ≤ n) (hz : p.within.length < 16777216) : (Den tbl n).call 32 [.dat p.d] w = .ok (.fresh (p.within.map Pa.d)) w := by
  obtain ⟨m, rfl, hm⟩ := succ_of (k := p.dep) hn
  rw [den_succ T.t32]
  obtain ⟨t2, t3, hl⟩ := c_pwLoop T p (.tup p.ds) m w [] .un .un (by omega) (by simpa using hz)
  simp only [List.nil_append] at hl
  simp [runB, initE, toSl, b_parts_within, hl]
end
end Dl
namespace Dl
open PySem PySem.Spec PyProof.Rows L2 NdefX
def Pl.app : Pl → Pl → Pl
  | .nil, q => q
  | .cons c p r, q => .cons c p (r.app q)
def Pl.times (c : Nat) : Pl → Pl
  | .nil => .nil
  | .cons n p r => .cons (c * n) p (r.times c)
mutual
def Pa.mapA (f : Pa → Nat → Pl) (k c : Nat) : Pa → Pl
  | .letter x b => .cons c (.letter x (b.mapA f k)) .nil
  | .wait x b => .cons c (.wait x (b.mapA f (k + 1))) .nil
  | .name x => (f (.name x) k).times c
  | .mark n => (f (.mark n) k).times c
  | .got n => (f (.got n) k).times c
def Pl.mapA (f : Pa → Nat → Pl) (k : Nat) : Pl → Pl
  | .nil => .nil
  | .cons c p r => (p.mapA f k c).app (r.mapA f k)
end
theorem app_ds : ∀ p q : Pl, (p.app q).ds = p.ds ++ q.ds
  | .nil, q => rfl
  | .cons c p r, q => by simp [Pl.app, Pl.ds, app_ds r q]
theorem app_within : ∀ p q : Pl, (p.app q).within = p.within ++ q.within
  | .nil, q => rfl
  | .cons c p r, q => by simp [Pl.app, Pl.within, app_within r q]
theorem times_within {c : Nat} : ∀ p : Pl, (p.times c).within = p.within
  | .nil => rfl
  | .cons n p r => by simp [Pl.times, Pl.within, times_within r]
theorem len_within : ∀ p : Pl, p.ds.length ≤ p.within.length
  | .nil => Nat.le_refl _
  | .cons n p r => by have := len_within r; simp [Pl.ds, Pl.within]; omega
def Pl.cl : Pl → Prop
  | .nil => True
  | .cons n _ r => n < limN ∧ r.cl
def Pa.leaf : Pa → Bool
  | .letter _ _ => false
  | .wait _ _ => false
  | _ => true
mutual
def Pa.cls : Pa → Prop
  | .letter _ b => b.cls
  | .wait _ b => b.cls
  | _ => True
def Pl.cls : Pl → Prop
  | .nil => True
  | .cons c p r => c < limN ∧ p.cls ∧ r.cls
end
structure HasM (tbl : Nat → Option DefB) : Prop where
  t34 : tbl 34 = some ⟨3, 8, b_mapped⟩
theorem times_go {c : Nat} {w : World} {a0 a1 a2 a3 a5 : Sl} (hc : c < limN) : ∀ q : Pl, q.cl →
    compGo (gT 2 (gsCons (gN 6) (gsCons (gN 7) gsNil))) tYes' (dTup (aCons (dBin gMul (dName 4) (dName 6)) (aCons (dName 7) aNil))) [a0, a1, a2, a3, .dat (.int c), a5, .un, .un] q.ds w = .ok (q.times c).ds w
  | .nil, _ => rfl
  | .cons n p r, h => by
    have ih := times_go hc r h.2 (w := w) (a0 := a0) (a1 := a1) (a2 := a2) (a3 := a3) (a5 := a5)
    have mo : mulOk (c : Int) (n : Int) = true := mulOk_nat hc h.1
    simp [Pl.ds, go_cons, mo, ih, Pl.times]
abbrev mpBody (C : Cs) : Sd := (sIf (dTst (dBin (gEq C.room) (dBin gIx (dName 5) (dC (.int 0))) (dC (.str "letter")))) (sAppend 3 (dTup (aCons (dName 4) (aCons (dTup (aCons (dC (.str "letter")) (aCons (dBin gIx (dName 5) (dC (.int 1))) (aCons (dCall C 34 (aCons (dBin gIx (dName 5) (dC (.int 2))) (aCons (dName 1) (aCons (dName 2) aNil)))) aNil)))) aNil)))) (sIf (dTst (dBin (gEq C.room) (dBin gIx (dName 5) (dC (.int 0))) (dC (.str "wait")))) (sAppend 3 (dTup (aCons (dName 4) (aCons (dTup (aCons (dC (.str "wait")) (aCons (dBin gIx (dName 5) (dC (.int 1))) (aCons (dCall C 34 (aCons (dBin gIx (dName 5) (dC (.int 2))) (aCons (dBin gAdd (dName 1) (dC (.int 1))) (aCons (dName 2) aNil)))) aNil)))) aNil)))) (sExtend 3 (dComp (iSeq (dAct C 2 (aCons (dName 5) (aCons (dName 1) aNil)))) [6, 7] (gT 2 (gsCons (gN 6) (gsCons (gN 7) gsNil))) tYes' (dTup (aCons (dBin gMul (dName 4) (dName 6)) (aCons (dName 7) aNil)))))))
def ActOk (tbl : Nat → Option DefB) (L i : Nat) (caps : List D) (w : World) (f : Pa → Nat → Pl) : Prop :=
  ∀ (p : Pa) (k n : Nat), p.leaf = true → L ≤ n → (Den tbl n).call i ([.dat p.d, .dat (.int k)] ++ caps.map .dat) w = .ok (.dat (f p k).d) w
section
variable {tbl : Nat → Option DefB} (T : HasM tbl) {L i : Nat} {caps : List D} {w : World} {f : Pa → Nat → Pl} (hw : allL w = true) (hf : ActOk tbl L i caps w f) (hc : ∀ p k, p.leaf = true → (f p k).cl)
include T hw hf hc
abbrev clW (w : World) (i : Nat) (caps : List D) : World := w ++ [.clo i caps]
theorem c_mpLoop : ∀ (r : Pl) (P : D) (k m : Nat) (acc : List D) (s4 s5 s6 s7 : Sl), r.dep + L ≤ m → r.cls → acc.length + (r.mapA f k).within.length < 16777216 →
    ∃ s4' s5' s6' s7', forGo (gT 2 (gsCons (gN 4) (gsCons (gN 5) gsNil))) (mpBody (Den tbl m)) r.ds [.dat P, .dat (.int k), .wref w.length, .own acc, s4, s5, s6, s7] (clW w i caps) = .ok (.nx [.dat P, .dat (.int k), .wref w.length, .own (acc ++ (r.mapA f k).ds), s4', s5', s6', s7']) (clW w i caps)
  | .nil, P, k, m, acc, s4, s5, s6, s7, hm, hr, hz => ⟨s4, s5, s6, s7, by simp [Pl.ds, Pl.mapA]⟩
  | .cons c p r, P, k, m, acc, s4, s5, s6, s7, hm, hr, hz => by
    simp only [Pl.dep] at hm
    obtain ⟨hr1, hr2, hr3⟩ := hr
    simp only [Pl.mapA, app_within, List.length_append] at hz
    have leaf : p.leaf = true → p.mapA f k c = (f p k).times c → (∃ z, atI p.l 0 = some (.str z) ∧ ¬ z = Str.ofString "letter" ∧ ¬ z = Str.ofString "wait") → ∃ s4' s5' s6' s7', forGo (gT 2 (gsCons (gN 4) (gsCons (gN 5) gsNil))) (mpBody (Den tbl m)) (Pl.cons c p r).ds [.dat P, .dat (.int k), .wref w.length, .own acc, s4, s5, s6, s7] (clW w i caps) = .ok (.nx [.dat P, .dat (.int k), .wref w.length, .own (acc ++ ((Pl.cons c p r).mapA f k).ds), s4', s5', s6', s7']) (clW w i caps) := fun e0 e1 ⟨z, e2, e3, e4⟩ => by
      have hl1 := len_within ((f p k).times c)
      rw [e1] at hz
      obtain ⟨s4', s5', s6', s7', e⟩ := c_mpLoop r P k m (acc ++ ((f p k).times c).ds) (.dat (.int c)) (.dat p.d) s6 s7 (by omega) hr3 (by simp; omega)
      refine ⟨s4', s5', s6', s7', ?_⟩
      have h1 := hf p k m e0 (by omega)
      have h2 := times_go (w := clW w i caps) (a0 := .dat P) (a1 := .dat (.int k)) (a2 := .wref w.length) (a3 := .own acc) (a5 := .dat p.d) hr1 (f p k) (hc p k e0)
      have h3 : acc.length + ((f p k).times c).ds.length ≤ 16777216 := by omega
      have ha : dAct (Den tbl m) 2 (aCons (dName 5) (aCons (dName 1) aNil)) [.dat P, .dat (.int k), .wref w.length, .own acc, .dat (.int c), .dat p.d, s6, s7] (clW w i caps) = .ok (.dat (f p k).d) (clW w i caps) := by
        simp only [List.cons_append, List.nil_append] at h1
        simp [dAct, actK, hw, h1]
      simp only [Pa.d_l] at h2 ha e ⊢
      simp only [Pl.d] at ha
      simp [Pl.ds, for_cons, Pa.d_l, e2, e3, e4, ha, h2, h3, e, Pl.mapA, app_ds, e1]
    have node : ∀ (b : Pl) (q : Pa) (x z : Str) (k' : Nat), b.dep + 1 + L ≤ m → b.cls → p.l = [.str z, .str x, .tup b.ds] → q.d = .tup [.str z, .str x, .tup (b.mapA f k').ds] → p.mapA f k c = .cons c q .nil → (b.mapA f k').within.length < 16777216 → ((z = Str.ofString "letter" ∧ k' = k) ∨ (z = Str.ofString "wait" ∧ k' = k + 1)) →
        (∃ s4' s5' s6' s7', forGo (gT 2 (gsCons (gN 4) (gsCons (gN 5) gsNil))) (mpBody (Den tbl (m - 1))) b.ds [.dat b.d, .dat (.int k'), .wref w.length, .own [], .un, .un, .un, .un] (clW w i caps) = .ok (.nx [.dat b.d, .dat (.int k'), .wref w.length, .own ([] ++ (b.mapA f k').ds), s4', s5', s6', s7']) (clW w i caps)) →
        ∃ s4' s5' s6' s7', forGo (gT 2 (gsCons (gN 4) (gsCons (gN 5) gsNil))) (mpBody (Den tbl m)) (Pl.cons c p r).ds [.dat P, .dat (.int k), .wref w.length, .own acc, s4, s5, s6, s7] (clW w i caps) = .ok (.nx [.dat P, .dat (.int k), .wref w.length, .own (acc ++ ((Pl.cons c p r).mapA f k).ds), s4', s5', s6', s7']) (clW w i caps) := fun b q x z k' hb hbc e0 eq e1 hbz e2 hl => by
      obtain ⟨m', rfl, hm'⟩ := succ_of (k := b.dep) (n := m) (by omega)
      obtain ⟨t4, t5, t6, t7, hl⟩ := hl
      have hcall : (Den tbl (m' + 1)).call 34 [.dat (.tup b.ds), .dat (.int k'), .wref w.length] (clW w i caps) = .ok (.dat (.tup (b.mapA f k').ds)) (clW w i caps) := by
        rw [den_succ T.t34]
        simp only [Nat.add_sub_cancel, List.nil_append, Pl.d] at hl
        simp [runB, initE, toSl, b_mapped, hl]
      rw [e1] at hz
      simp only [Pl.within, List.length_cons] at hz
      obtain ⟨s4', s5', s6', s7', e⟩ := c_mpLoop r P k (m' + 1) (acc ++ [.tup [.int c, q.d]]) (.dat (.int c)) (.dat p.d) s6 s7 (by omega) hr3 (by simp; omega)
      refine ⟨s4', s5', s6', s7', ?_⟩
      have h1 : acc.length < 16777216 := by omega
      simp only [Pa.d_l p, e0, eq] at e ⊢
      rcases e2 with ⟨rfl, rfl⟩ | ⟨rfl, rfl⟩
      · simp [Pl.ds, for_cons, Pa.d_l p, e0, at_0, at_1, at_2, hcall, h1, e, Pl.mapA, app_ds, e1, eq]
      · simp only [Int.natCast_add, Int.cast_ofNat_Int] at hcall
        simp [Pl.ds, for_cons, Pa.d_l p, e0, at_0, at_1, at_2, ne_5, hcall, h1, e, Pl.mapA, app_ds, e1, eq]
    cases p with
    | name x => exact leaf rfl rfl ⟨_, at_0, ne_6, ne_7⟩
    | mark x => exact leaf rfl rfl ⟨_, at_0, ne_8, ne_9⟩
    | got x => exact leaf rfl rfl ⟨_, at_0, ne_10, ne_11⟩
    | letter x b =>
      have hb : (b.mapA f k).within.length < 16777216 := by simp only [Pa.mapA, Pl.within, Pa.within, List.length_cons, List.length_append] at hz; omega
      exact node b (.letter x (b.mapA f k)) x "letter" k (by simp only [Pa.dep] at hm; omega) hr2 rfl rfl rfl hb (.inl ⟨rfl, rfl⟩) (c_mpLoop b b.d k (m - 1) [] .un .un .un .un (by simp only [Pa.dep] at hm; omega) hr2 (by simpa using hb))
    | wait x b =>
      have hb : (b.mapA f (k + 1)).within.length < 16777216 := by simp only [Pa.mapA, Pl.within, Pa.within, List.length_cons, List.length_append] at hz; omega
      exact node b (.wait x (b.mapA f (k + 1))) x "wait" (k + 1) (by simp only [Pa.dep] at hm; omega) hr2 rfl rfl rfl hb (.inr ⟨rfl, rfl⟩) (c_mpLoop b b.d (k + 1) (m - 1) [] .un .un .un .un (by simp only [Pa.dep] at hm; omega) hr2 (by simpa using hb))
theorem c_mapped (p : Pl) (k n : Nat) (hn : p.dep + L + 1 ≤ n) (hp : p.cls) (hz : (p.mapA f k).within.length < 16777216) :
    (Den tbl n).call 34 [.dat p.d, .dat (.int k), .wref w.length] (clW w i caps) = .ok (.dat (p.mapA f k).d) (clW w i caps) := by
  obtain ⟨m, rfl, hm⟩ := succ_of (k := p.dep + L) hn
  rw [den_succ T.t34]
  obtain ⟨t4, t5, t6, t7, hl⟩ := c_mpLoop T hw hf hc p p.d k m [] .un .un .un .un hm hp (by simpa using hz)
  simp only [List.nil_append, Pl.d] at hl
  simp [runB, initE, toSl, b_mapped, hl]
end
end Dl
namespace Dl
open PySem PySem.Spec PyProof.Rows L2 NdefX
theorem limN_big : 2 ^ 64 < limN := by
  unfold limN
  exact Nat.pow_lt_pow_right (by decide) (by decide)
theorem psize_pos (p : Pa) : 1 ≤ p.size := by cases p <;> simp [Pa.size]
mutual
theorem Pa.dep_size : ∀ (p : Pa) (k : Nat), p.ok k = true → p.dep ≤ p.size
  | .name x, k, h => by simp [Pa.dep, Pa.size]
  | .mark x, k, h => by simp [Pa.dep, Pa.size]
  | .got x, k, h => by simp [Pa.dep, Pa.size]
  | .letter x b, k, h => by
    simp only [Pa.ok, Bool.and_eq_true] at h
    have := Pl.dep_size b k h.2
    simp only [Pa.dep, Pa.size]; omega
  | .wait x b, k, h => by
    simp only [Pa.ok, Bool.and_eq_true] at h
    have := Pl.dep_size b (k + 1) h.2
    simp only [Pa.dep, Pa.size]; omega
theorem Pl.dep_size : ∀ (p : Pl) (k : Nat), p.ok k = true → p.dep ≤ p.size
  | .nil, k, h => by simp [Pl.dep]
  | .cons c p r, k, h => by
    simp only [Pl.ok, Bool.and_eq_true, decide_eq_true_eq] at h
    have h1 := Pa.dep_size p k h.1.2
    have h2 := Pl.dep_size r k h.2
    have h3 : 1 * p.size ≤ c * p.size := Nat.mul_le_mul_right _ h.1.1
    simp only [Pl.dep, Pl.size]; omega
end
mutual
theorem Pa.within_size : ∀ (p : Pa) (k : Nat), p.ok k = true → p.within.length + 1 ≤ p.size
  | .name x, k, h => by simp [Pa.within, Pa.size]
  | .mark x, k, h => by simp [Pa.within, Pa.size]
  | .got x, k, h => by simp [Pa.within, Pa.size]
  | .letter x b, k, h => by
    simp only [Pa.ok, Bool.and_eq_true] at h
    have := Pl.within_size b k h.2
    simp only [Pa.within, Pa.size]; omega
  | .wait x b, k, h => by
    simp only [Pa.ok, Bool.and_eq_true] at h
    have := Pl.within_size b (k + 1) h.2
    simp only [Pa.within, Pa.size]; omega
theorem Pl.within_size : ∀ (p : Pl) (k : Nat), p.ok k = true → p.within.length ≤ p.size
  | .nil, k, h => by simp [Pl.within]
  | .cons c p r, k, h => by
    simp only [Pl.ok, Bool.and_eq_true, decide_eq_true_eq] at h
    have h1 := Pa.within_size p k h.1.2
    have h2 := Pl.within_size r k h.2
    have h3 : 1 * p.size ≤ c * p.size := Nat.mul_le_mul_right _ h.1.1
    simp only [Pl.within, Pl.size, List.length_cons, List.length_append]; omega
end
mutual
theorem Pa.lim_size : ∀ (p : Pa) (k : Nat), p.ok k = true → p.size < limN → p.lim ∧ p.cls
  | .name x, k, h, hs => ⟨trivial, trivial⟩
  | .mark x, k, h, hs => ⟨trivial, trivial⟩
  | .got x, k, h, hs => ⟨trivial, trivial⟩
  | .letter x b, k, h, hs => by
    simp only [Pa.ok, Bool.and_eq_true] at h
    simp only [Pa.size] at hs
    exact Pl.lim_size b k h.2 (by omega)
  | .wait x b, k, h, hs => by
    simp only [Pa.ok, Bool.and_eq_true] at h
    simp only [Pa.size] at hs
    exact Pl.lim_size b (k + 1) h.2 (by omega)
theorem Pl.lim_size : ∀ (p : Pl) (k : Nat), p.ok k = true → p.size < limN → p.lim ∧ p.cls
  | .nil, k, h, hs => ⟨trivial, trivial⟩
  | .cons c p r, k, h, hs => by
    simp only [Pl.ok, Bool.and_eq_true, decide_eq_true_eq] at h
    simp only [Pl.size] at hs
    have h3 : 1 * p.size ≤ c * p.size := Nat.mul_le_mul_right _ h.1.1
    have h4 : c * 1 ≤ c * p.size := Nat.mul_le_mul_left _ (psize_pos p)
    have h1 := Pa.lim_size p k h.1.2 (by omega)
    have h2 := Pl.lim_size r k h.2 (by omega)
    exact ⟨⟨by omega, by omega, h1.1, h2.1⟩, ⟨by omega, h1.2, h2.2⟩⟩
end
theorem app_ok {k : Nat} : ∀ p q : Pl, (p.app q).ok k = (p.ok k && q.ok k)
  | .nil, q => by simp [Pl.app, Pl.ok]
  | .cons c p r, q => by simp [Pl.app, Pl.ok, app_ok r q, Bool.and_assoc]
theorem app_size : ∀ p q : Pl, (p.app q).size = p.size + q.size
  | .nil, q => by simp [Pl.app, Pl.size]
  | .cons c p r, q => by simp [Pl.app, Pl.size, app_size r q]; omega
structure HasLS (tbl : Nat → Option DefB) : Prop where
  t38 : tbl 38 = some ⟨1, 1, b__law_part_size⟩
  t41 : tbl 41 = some ⟨1, 3, b__law_size⟩
section
variable {tbl : Nat → Option DefB} (T : HasLS tbl)
include T
mutual
theorem c_lpsize : ∀ (p : Pa) (n : Nat) (w : World), 2 * p.dep + 1 ≤ n → p.lim → (Den tbl n).call 38 [.dat p.d] w = .ok (.dat (.int p.size)) w
  | .name x, n, w, hn, hl => by
    obtain ⟨m, rfl, hm⟩ := succ_of (k := 0) (n := n) (by simp only [Pa.dep] at hn; omega)
    rw [den_succ T.t38]
    simp [runB, initE, toSl, b__law_part_size, Pa.d, Pa.size]
  | .mark j, n, w, hn, hl => by
    obtain ⟨m, rfl, hm⟩ := succ_of (k := 0) (n := n) (by simp only [Pa.dep] at hn; omega)
    rw [den_succ T.t38]
    simp [runB, initE, toSl, b__law_part_size, Pa.d, Pa.size]
  | .got j, n, w, hn, hl => by
    obtain ⟨m, rfl, hm⟩ := succ_of (k := 0) (n := n) (by simp only [Pa.dep] at hn; omega)
    rw [den_succ T.t38]
    simp [runB, initE, toSl, b__law_part_size, Pa.d, Pa.size]
  | .letter x b, n, w, hn, hl => by
    simp only [Pa.dep] at hn
    obtain ⟨m, rfl, hm⟩ := succ_of (k := 1) (n := n) (by omega)
    obtain ⟨m', rfl, hm'⟩ := succ_of (k := 0) (n := m) (by omega)
    rw [den_succ T.t38]
    have hb : (Den tbl (m' + 1)).call 41 [.dat (.tup b.ds)] w = .ok (.dat (.int b.size)) w := by
      rw [den_succ T.t41]
      have g := c_lszLoop b (.tup b.ds) m' w (by omega) hl
      have hs := sum_szs b
      simp [runB, initE, toSl, b__law_size, g, -cSum_l, hs]
    simp [runB, initE, toSl, b__law_part_size, Pa.d, Pa.size, at_2, hb]
    omega
  | .wait x b, n, w, hn, hl => by
    simp only [Pa.dep] at hn
    obtain ⟨m, rfl, hm⟩ := succ_of (k := 1) (n := n) (by omega)
    obtain ⟨m', rfl, hm'⟩ := succ_of (k := 0) (n := m) (by omega)
    rw [den_succ T.t38]
    have hb : (Den tbl (m' + 1)).call 41 [.dat (.tup b.ds)] w = .ok (.dat (.int b.size)) w := by
      rw [den_succ T.t41]
      have g := c_lszLoop b (.tup b.ds) m' w (by omega) hl
      have hs := sum_szs b
      simp [runB, initE, toSl, b__law_size, g, -cSum_l, hs]
    simp [runB, initE, toSl, b__law_part_size, Pa.d, Pa.size, at_2, hb]
    omega
theorem c_lszLoop : ∀ (r : Pl) (P : D) (m : Nat) (w : World), 2 * r.dep + 1 ≤ m → r.lim →
    compGo (gT 2 (gsCons (gN 1) (gsCons (gN 2) gsNil))) tYes' (dBin gMul (dName 1) (dCall (Den tbl m) 38 (aCons (dName 2) aNil))) [.dat P, .un, .un] r.ds w = .ok (r.szs.map .int) w
  | .nil, P, m, w, hm, hl => rfl
  | .cons c p r, P, m, w, hm, hl => by
    simp only [Pl.dep] at hm
    obtain ⟨l1, l2, l3, l4⟩ := hl
    have h1 := c_lpsize p m w (by omega) l3
    have h2 := c_lszLoop r P m w (by omega) l4
    have mo : mulOk (c : Int) (p.size : Int) = true := mulOk_nat l1 l2
    simp [Pl.ds, go_cons, h1, mo, h2, Pl.szs]
end
end
structure HasPk (tbl : Nat → Option DefB) : Prop where
  t11 : tbl 11 = some ⟨2, 5, b__law_pick⟩
structure HasLP (tbl : Nat → Option DefB) : Prop extends HasLS tbl, HasPk tbl where
  t39 : tbl 39 = some ⟨5, 7, b__law_part⟩
  t40 : tbl 40 = some ⟨5, 9, b__law_plan⟩
theorem c_pick {tbl : Nat → Option DefB} (T : HasPk tbl) {n : Nat} (hn : 1 ≤ n) {rest w : World} {m : Int} (h : TapeOk rest w) (hm : 0 < m) (hb : m < 1073741824) :
    ∃ r : Nat, ∃ w', (Den tbl n).call 11 [.wref 0, .dat (.int m)] w = .ok (.dat (.int r)) w' ∧ TapeOk rest w' ∧ (r : Int) < m := by
  obtain ⟨k, rfl, _⟩ := succ_of (k := 0) hn
  rw [den_succ T.t11]
  obtain ⟨r, w', e, t, h0, h1⟩ := pick_run (C := Den tbl k) h hm hb
  obtain ⟨r', rfl⟩ : ∃ r' : Nat, r = r' := ⟨r.toNat, by omega⟩
  exact ⟨r', w', e, t, h1⟩
theorem cnt5 {r : Nat} (h : (r : Int) < 5) : ∃ c : Nat, atI [D.int 1, .int 1, .int 1, .int 2, .int 3] (r : Int) = some (.int c) ∧ 1 ≤ c ∧ c ≤ 3 := by
  have : r = 0 ∨ r = 1 ∨ r = 2 ∨ r = 3 ∨ r = 4 := by omega
  rcases this with rfl | rfl | rfl | rfl | rfl
  · exact ⟨1, rfl, by decide, by decide⟩
  · exact ⟨1, rfl, by decide, by decide⟩
  · exact ⟨1, rfl, by decide, by decide⟩
  · exact ⟨2, rfl, by decide, by decide⟩
  · exact ⟨3, rfl, by decide, by decide⟩
def signs (z : Str) : List Str := z.cps.toList.map fun c => ⟨#[c]⟩
theorem ix_sign {z : Str} {i : Nat} (h : i < z.length) : ∃ x, gIx (.str z) (.int i) = some (.dat (.str x)) ∧ x ∈ signs z := by
  have h' : i < z.cps.toList.length := by simpa [Str.length] using h
  refine ⟨⟨#[z.cps.toList[i]]⟩, ?_, List.mem_map.mpr ⟨_, List.getElem_mem h', rfl⟩⟩
  show (atI z.cps.toList (i : Int)).map _ = _
  rw [atI_get h']
  rfl
def DoorsOf (z : Str) : Prop := 1 ≤ z.length ∧ z.length < 1000 ∧ ∀ x ∈ signs z, doorB x = true
mutual
def Pa.dr (ds ws : List Str) : Pa → Bool
  | .name x => decide (x ∈ ws)
  | .mark _ => false
  | .got _ => true
  | .letter x b => decide (x ∈ ds) && b.dr ds ws
  | .wait x b => decide (x ∈ ds) && b.dr ds ws
def Pl.dr (ds ws : List Str) : Pl → Bool
  | .nil => true
  | .cons _ p r => p.dr ds ws && r.dr ds ws
end
def WordsOf (ws : List Str) : Prop := ws.length < 1000 ∧ ∀ x ∈ ws, wordB x = true
def GotPa (tbl : Nat → Option DefB) (z : Str) (ws : List Str) (n l : Nat) : Prop := ∀ (k : Nat) (rest w : World), k + l < 1000 → TapeOk rest w → ∃ p : Pa, ∃ w', (Den tbl n).call 39 [.wref 0, .dat (.int l), .dat (.int k), .dat (.str z), .dat (.lst (ws.map .str))] w = .ok (.dat p.d) w' ∧ TapeOk rest w' ∧ p.ok k = true ∧ p.size ≤ l ∧ p.dr (signs z) ws = true
def GotPl (tbl : Nat → Option DefB) (z : Str) (ws : List Str) (n l : Nat) : Prop := ∀ (k : Nat) (rest w : World), k + l < 1000 → TapeOk rest w → ∃ p : Pl, ∃ w', (Den tbl n).call 40 [.wref 0, .dat (.int l), .dat (.int k), .dat (.str z), .dat (.lst (ws.map .str))] w = .ok (.dat p.d) w' ∧ TapeOk rest w' ∧ p.ok k = true ∧ p.size ≤ l ∧ p.dr (signs z) ws = true
abbrev lpBody (C : Cs) : Sd := (sSeq (sIf (tOr' (dTst (dBin (gLt C.room) (dName 1) (dC (.int 1)))) (dTst (dBin (gEq C.room) (dCall C 11 (aCons (dName 0) (aCons (dC (.int 5)) aNil))) (dC (.int 0))))) sBreak sNil)
  (sSeq (sSet 7 (dBin gIx (dLst (aCons (dC (.int 1)) (aCons (dC (.int 1)) (aCons (dC (.int 1)) (aCons (dC (.int 2)) (aCons (dC (.int 3)) aNil)))))) (dCall C 11 (aCons (dName 0) (aCons (dC (.int 5)) aNil)))))
  (sSeq (sIf (dTst (dBin (gGt C.room) (dName 7) (dName 1))) (sSet 7 (dC (.int 1))) sNil)
  (sSeq (sSet 8 (dCall C 39 (aCons (dName 0) (aCons (dBin gFdiv (dName 1) (dName 7)) (aCons (dName 2) (aCons (dName 3) (aCons (dName 4) aNil)))))))
  (sSeq (sAppend 5 (dTup (aCons (dName 7) (aCons (dName 8) aNil))))
  (sSet 1 (dBin gSub (dName 1) (dBin gMul (dName 7) (dCall C 38 (aCons (dName 8) aNil))))))))))
section
variable {tbl : Nat → Option DefB} (T : HasLP tbl) {z : Str} {ws : List Str}
include T
theorem lp_loop {m : Nat} {l0 : Nat} (hl0 : l0 < 1000) (hm : 2 * l0 + 1 ≤ m) (hp : ∀ l, 1 ≤ l → l ≤ l0 → GotPa tbl z ws m l) {k : Nat} (hk : k + l0 < 1000) : ∀ (ts : List D) (l : Nat) (acc : List D) (rest w : World) (s6 s7 s8 : Sl), l ≤ l0 → acc.length + ts.length < 1000 → TapeOk rest w →
    ∃ q : Pl, ∃ s1 s6' s7' s8' w', forGo (gN 6) (lpBody (Den tbl m)) ts [.wref 0, .dat (.int l), .dat (.int k), .dat (.str z), .dat (.lst (ws.map .str)), .own acc, s6, s7, s8] w = .ok (.nx [.wref 0, s1, .dat (.int k), .dat (.str z), .dat (.lst (ws.map .str)), .own (acc ++ q.ds), s6', s7', s8']) w' ∧ TapeOk rest w' ∧ q.ok k = true ∧ q.size ≤ l ∧ q.dr (signs z) ws = true
  | [], l, acc, rest, w, s6, s7, s8, hl, hz, ht => ⟨.nil, .dat (.int l), s6, s7, s8, w, by simp [Pl.ds], ht, by simp [Pl.ok], by simp [Pl.size], by simp [Pl.dr]⟩
  | t :: ts, l, acc, rest, w, s6, s7, s8, hl, hz, ht => by
    simp only [List.length_cons] at hz
    by_cases h1 : l < 1
    · have h1' : (l : Int) < 1 := by omega
      exact ⟨.nil, .dat (.int l), .dat t, s7, s8, w, by simp [for_cons, h1', Pl.ds], ht, by simp [Pl.ok], by simp [Pl.size], by simp [Pl.dr]⟩
    · have h1' : ¬ (l : Int) < 1 := by omega
      obtain ⟨r, w1, e1, t1, r1⟩ := c_pick T.toHasPk (n := m) (by omega) ht (m := 5) (by decide) (by decide)
      by_cases h0 : r = 0
      · subst h0
        exact ⟨.nil, .dat (.int l), .dat t, s7, s8, w1, by simp [for_cons, h1', Pl.ds, e1], t1, by simp [Pl.ok], by simp [Pl.size], by simp [Pl.dr]⟩
      · obtain ⟨r2, w2, e2, t2, r2h⟩ := c_pick T.toHasPk (n := m) (by omega) t1 (m := 5) (by decide) (by decide)
        obtain ⟨c, ec, c1, c3⟩ := cnt5 r2h
        -- the count that is taken
        obtain ⟨c', hc', c1', c3', cl'⟩ : ∃ c' : Nat, (if (l : Int) < c then (1 : Int) else c) = c' ∧ 1 ≤ c' ∧ c' ≤ 3 ∧ c' ≤ l := by
          by_cases h : (l : Int) < c
          · exact ⟨1, by rw [if_pos h]; rfl, by omega, by omega, by omega⟩
          · exact ⟨c, by rw [if_neg h], c1, c3, by omega⟩
        obtain ⟨lq, hlq⟩ : ∃ lq : Nat, lq = l / c' := ⟨_, rfl⟩
        have hq : 1 ≤ lq := by
          rw [hlq, Nat.le_div_iff_mul_le (by omega)]
          omega
        have hql : lq ≤ l := by rw [hlq]; exact Nat.div_le_self _ _
        obtain ⟨p, w3, e3, t3, p1, p2, p3⟩ := hp lq hq (Nat.le_trans hql hl) k rest w2 (by omega) t2
        have hmul : c' * p.size ≤ l := by
          have := Nat.mul_le_mul_left c' p2
          have := Nat.mul_div_le l c'
          rw [← hlq] at this
          omega
        have big := limN_big
        have e64 : 2 ^ 64 = 18446744073709551616 := by decide
        have hps : p.size < limN := by omega
        have hlim := (Pa.lim_size p k p1 hps).1
        have hdep := Pa.dep_size p k p1
        have e4 := c_lpsize T.toHasLS p m w3 (by omega) hlim
        have mo : mulOk (c' : Int) (p.size : Int) = true := mulOk_nat (by omega) hps
        obtain ⟨l2, hl2⟩ : ∃ l2 : Nat, l2 = l - c' * p.size := ⟨_, rfl⟩
        have hsub : (l : Int) - (c' : Int) * (p.size : Int) = (l2 : Int) := by
          rw [hl2, Int.ofNat_sub hmul]
          push_cast
          rfl
        have hdiv : (l : Int) / (c' : Int) = (lq : Int) := by rw [hlq]; norm_cast
        obtain ⟨q, s1, s6', s7', s8', w4, e5, t5, q1, q2, q3⟩ := lp_loop hl0 hm hp hk ts l2 (acc ++ [.tup [.int c', p.d]]) rest w3 (.dat t) (.dat (.int c')) (.dat p.d) (by omega) (by simp; omega) t3
        have hz1 : acc.length < 16777216 := by omega
        have hc1 : (0 : Int) < c' := by omega
        have hc2 : (c' : Int) < 1073741824 := by omega
        refine ⟨.cons c' p q, s1, s6', s7', s8', w4, ?_, t5, by simp [Pl.ok, c1', p1, q1], by simp only [Pl.size]; omega, by simp [Pl.dr, p3, q3]⟩
        have h0' : ¬ (r : Int) = 0 := by omega
        simp only [List.append_assoc, List.cons_append, List.nil_append] at e5
        by_cases h : (l : Int) < c
        · rw [if_pos h] at hc'
          have e1' : c' = 1 := by omega
          subst e1'
          have hdiv1 : (l : Int) / 1 = (lq : Int) := hdiv
          have mo1 : mulOk 1 (p.size : Int) = true := mo
          have hsub1 : (l : Int) - (p.size : Int) = (l2 : Int) := by rw [← hsub]; simp
          simp only [Int.cast_ofNat_Int] at e5
          simp [for_cons, h1', e1, h0, e2, ec, h, hdiv1, e3, hz1, e4, mo1, hsub1]
          simp only [Int.ediv_one] at hdiv1
          simp [hdiv1, e3, hz1, e4, mo1, hsub1, e5, Pl.ds]
        · rw [if_neg h] at hc'
          have e1' : c = c' := by omega
          subst e1'
          simp only [for_cons, gN_ap]
          have hc1n : 0 < c := by omega
          simp [h1', e1, h0, e2, ec, h, hc1, hc2, hc1n, hdiv, e3, hz1, e4, mo, hsub, e5, Pl.ds]
theorem plan_of {m l : Nat} (hl : l < 1000) (hm : 2 * l + 1 ≤ m) (hp : ∀ l', 1 ≤ l' → l' ≤ l → GotPa tbl z ws m l') : GotPl tbl z ws (m + 1) l := by
  intro k rest w hk ht
  rw [den_succ T.t40]
  obtain ⟨q, s1, s6, s7, s8, w', e, t, q1, q2, q3⟩ := lp_loop T hl hm hp hk (rngD 0 6) l [] rest w .un .un .un (Nat.le_refl _) (by decide) ht
  refine ⟨q, w', ?_, t, q1, q2, q3⟩
  simp only [List.nil_append] at e
  simp [runB, initE, toSl, b__law_plan, e]
omit T in
theorem at3_k {k r : Nat} {v : Int} (h : (r : Int) < 3) : ∃ j : Int, atI [D.int 0, .int 0, .int v] (r : Int) = some (.int j) ∧ (j = 0 ∨ j = v) := by
  have : r = 0 ∨ r = 1 ∨ r = 2 := by omega
  rcases this with rfl | rfl | rfl
  · exact ⟨0, rfl, .inl rfl⟩
  · exact ⟨0, rfl, .inl rfl⟩
  · exact ⟨v, rfl, .inr rfl⟩
abbrev ptA (C : Cs) : Sd := (sSet 5 (dCall C 11 (aCons (dName 0) (aCons (dC (.int 6)) aNil))))
abbrev ptB (C : Cs) : Sd := (sIf (tAnd' (dTst (dBin (gLt C.room) (dName 1) (dC (.int 2)))) (dTst (dBin (gGt C.room) (dName 5) (dC (.int 3))))) (sSet 5 (dCall C 11 (aCons (dName 0) (aCons (dC (.int 4)) aNil)))) sNil)
abbrev ptR (C : Cs) : Sd := (sSeq (sSet 6 (dBin gIx (dName 3) (dCall C 11 (aCons (dName 0) (aCons (dBlt cLen (rCons (dName 3) rNil)) aNil)))))
  (sSeq (sIf (tAnd' (dTst (dBin (gEq C.room) (dName 5) (dC (.int 0)))) (dTst (dBin (gGt C.room) (dBlt cLen (rCons (dName 4) rNil)) (dC (.int 0))))) (sRet (dTup (aCons (dC (.str "name")) (aCons (dBin gIx (dName 4) (dCall C 11 (aCons (dName 0) (aCons (dBlt cLen (rCons (dName 4) rNil)) aNil)))) aNil)))) sNil)
  (sSeq (sIf (tAnd' (dTst (dBin (gLt C.room) (dName 5) (dC (.int 2)))) (dTst (dBin (gGt C.room) (dName 2) (dC (.int 0))))) (sRet (dTup (aCons (dC (.str "got")) (aCons (dBin gIx (dLst (aCons (dC (.int 0)) (aCons (dC (.int 0)) (aCons (dCall C 11 (aCons (dName 0) (aCons (dName 2) aNil))) aNil)))) (dCall C 11 (aCons (dName 0) (aCons (dC (.int 3)) aNil)))) aNil)))) sNil)
  (sSeq (sIf (tOr' (dTst (dBin (gEq C.room) (dName 5) (dC (.int 2)))) (dTst (dBin (gEq C.room) (dName 5) (dC (.int 4))))) (sRet (dTup (aCons (dC (.str "letter")) (aCons (dName 6) (aCons (dCall C 40 (aCons (dName 0) (aCons (dBin gSub (dName 1) (dC (.int 1))) (aCons (dName 2) (aCons (dName 3) (aCons (dName 4) aNil)))))) aNil))))) sNil)
  (sRet (dTup (aCons (dC (.str "wait")) (aCons (dName 6) (aCons (dCall C 40 (aCons (dName 0) (aCons (dBin gSub (dName 1) (dC (.int 1))) (aCons (dBin gAdd (dName 2) (dC (.int 1))) (aCons (dName 3) (aCons (dName 4) aNil)))))) aNil)))))))))
theorem part_of {m l : Nat} (hl : l < 1000) (hd : DoorsOf z) (hw : WordsOf ws) (hl1 : 1 ≤ l) (hm : 1 ≤ m) (hp : GotPl tbl z ws m (l - 1)) : GotPa tbl z ws (m + 1) l := by
  intro k rest w hk ht
  rw [den_succ T.t39]
  have rest_ok : ∀ (kd : Nat) (w2 : World), TapeOk rest w2 → ∃ p : Pa, ∃ w', ptR (Den tbl m) [.wref 0, .dat (.int l), .dat (.int k), .dat (.str z), .dat (.lst (ws.map .str)), .dat (.int kd), .un] w2 = .ok (.rt (.dat p.d)) w' ∧ TapeOk rest w' ∧ p.ok k = true ∧ p.size ≤ l ∧ p.dr (signs z) ws = true := by
    intro kd w2 t2
    obtain ⟨d, w3, e3, t3, dh⟩ := c_pick T.toHasPk (n := m) hm t2 (m := z.length) (by have := hd.1; omega) (by have := hd.2.1; omega)
    obtain ⟨x, ex, hxm⟩ := ix_sign (z := z) (i := d) (by omega)
    have hx := hd.2.2 x hxm
    have e3' : withEnv [Sl.wref 0, .dat (.int l), .dat (.int k), .dat (.str z), .dat (.lst (ws.map .str)), .dat (.int kd), .un] ((Den tbl m).call 11 [.wref 0, .dat (.int z.length)] w2) = .ok (.dat (.int d)) w3 := by rw [e3]; rfl
    by_cases c1 : kd = 0 ∧ 0 < ws.length
    · obtain ⟨rfl, c1⟩ := c1
      obtain ⟨r, w4, e4, t4, rh⟩ := c_pick T.toHasPk (n := m) hm t3 (m := ws.length) (by omega) (by have := hw.1; omega)
      have hr : r < ws.length := by omega
      have ew : atI (ws.map D.str) (r : Int) = some (.str ws[r]) := by rw [atI_get (by simpa using hr)]; simp
      refine ⟨.name ws[r], w4, ?_, t4, by simp [Pa.ok, hw.2 _ (List.getElem_mem hr)], by simp [Pa.size, hl1], by simp [Pa.dr]⟩
      simp [e3, ex, c1, e4, ew, Pa.d]
    · by_cases c2 : kd < 2 ∧ 0 < k
      · obtain ⟨c2, c3⟩ := c2
        obtain ⟨v, w4, e4, t4, vh⟩ := c_pick T.toHasPk (n := m) hm t3 (m := k) (by omega) (by omega)
        obtain ⟨r, w5, e5, t5, rh⟩ := c_pick T.toHasPk (n := m) hm t4 (m := 3) (by decide) (by decide)
        obtain ⟨j, ej, hj⟩ := at3_k (k := k) (v := v) rh
        obtain ⟨j', rfl, hj'⟩ : ∃ j' : Nat, j = j' ∧ j' < k := by rcases hj with rfl | rfl; exact ⟨0, rfl, c3⟩; exact ⟨v, rfl, by omega⟩
        refine ⟨.got j', w5, ?_, t5, by simp [Pa.ok, hj'], by simp [Pa.size, hl1], by simp [Pa.dr]⟩
        have c2' : (kd : Int) < 2 := by omega
        by_cases c0 : kd = 0
        · have c4 : ¬ 0 < ws.length := fun h => c1 ⟨c0, h⟩
          simp [e3, ex, c0, c4, c2', c3, e4, e5, ej, Pa.d]
        · simp [e3, ex, c0, c2', c3, e4, e5, ej, Pa.d]
      · have n1 : ∀ {β : Type} (a b : β), (if kd = 0 then (if 0 < ws.length then a else b) else b) = b := fun a b => by
          by_cases h : kd = 0
          · rw [if_pos h, if_neg (fun h2 => c1 ⟨h, h2⟩)]
          · rw [if_neg h]
        have n2 : ∀ {β : Type} (a b : β), (if kd < 2 then (if 0 < k then a else b) else b) = b := fun a b => by
          by_cases h : kd < 2
          · rw [if_pos h, if_neg (fun h2 => c2 ⟨h, h2⟩)]
          · rw [if_neg h]
        have el : ((l : Int) - 1) = ((l - 1 : Nat) : Int) := by omega
        by_cases c3 : kd = 2 ∨ kd = 4
        · obtain ⟨b, w4, e4, t4, b1, b2, b3⟩ := hp k rest w3 (by omega) t3
          refine ⟨.letter x b, w4, ?_, t4, by simp [Pa.ok, hx, b1], by simp only [Pa.size]; omega, by simp [Pa.dr, hxm, b3]⟩
          rw [← el] at e4
          rcases c3 with rfl | rfl <;> simp [e3, ex, e4, Pa.d]
        · obtain ⟨b, w4, e4, t4, b1, b2, b3⟩ := hp (k + 1) rest w3 (by omega) t3
          refine ⟨.wait x b, w4, ?_, t4, by simp [Pa.ok, hx, b1], by simp only [Pa.size]; omega, by simp [Pa.dr, hxm, b3]⟩
          rw [← el] at e4
          simp only [Int.natCast_add, Int.cast_ofNat_Int] at e4
          have c3a : ¬ kd = 2 := fun h => c3 (.inl h)
          have c3b : ¬ kd = 4 := fun h => c3 (.inr h)
          have c3c : ¬ (kd : Int) = 2 := by omega
          have c3d : ¬ (kd : Int) = 4 := by omega
          by_cases c0 : kd = 0
          · have c4 : ws = [] := by
              cases ws with
              | nil => rfl
              | cons a b => exact absurd ⟨c0, by simp⟩ c1
            have c5 : k = 0 := by
              cases k with
              | zero => rfl
              | succ k => exact absurd ⟨by omega, by omega⟩ c2
            subst c0 c5 c4
            simp at e4
            simp [e3, ex, e4, Pa.d]
          · by_cases c6 : kd < 2
            · have c5 : k = 0 := by
                cases k with
                | zero => rfl
                | succ k => exact absurd ⟨c6, by omega⟩ c2
              subst c5
              simp at e4
              simp [e3, ex, c0, e4, Pa.d, c3a, c3b, c3c, c3d]
            · have c6' : ¬ (kd : Int) < 2 := by omega
              simp [e3, ex, c0, c6', e4, Pa.d, c3a, c3b, c3c, c3d]
  obtain ⟨r, w1, e1, t1, r1⟩ := c_pick T.toHasPk (n := m) hm ht (m := 6) (by decide) (by decide)
  have hA : ptA (Den tbl m) [.wref 0, .dat (.int l), .dat (.int k), .dat (.str z), .dat (.lst (ws.map .str)), .un, .un] w = .ok (.nx [.wref 0, .dat (.int l), .dat (.int k), .dat (.str z), .dat (.lst (ws.map .str)), .dat (.int r), .un]) w1 := by simp [e1]
  obtain ⟨kd, w2, t2, hB⟩ : ∃ kd : Nat, ∃ w2, TapeOk rest w2 ∧ ptB (Den tbl m) [.wref 0, .dat (.int l), .dat (.int k), .dat (.str z), .dat (.lst (ws.map .str)), .dat (.int r), .un] w1 = .ok (.nx [.wref 0, .dat (.int l), .dat (.int k), .dat (.str z), .dat (.lst (ws.map .str)), .dat (.int kd), .un]) w2 := by
    by_cases h : (l : Int) < 2
    · by_cases h' : (3 : Int) < r
      · obtain ⟨r2, w2, e2, t2, r2h⟩ := c_pick T.toHasPk (n := m) hm t1 (m := 4) (by decide) (by decide)
        exact ⟨r2, w2, t2, by simp [h, h', e2]⟩
      · exact ⟨r, w1, t1, by simp [h, h']⟩
    · exact ⟨r, w1, t1, by simp [h]⟩
  obtain ⟨p, w', e, t, p1, p2, p3⟩ := rest_ok kd w2 t2
  refine ⟨p, w', ?_, t, p1, p2, p3⟩
  show endR (((ptA (Den tbl m)) [.wref 0, .dat (.int l), .dat (.int k), .dat (.str z), .dat (.lst (ws.map .str)), .un, .un] w).bind (seqK (sSeq (ptB (Den tbl m)) (ptR (Den tbl m))))) = _
  rw [hA]
  show endR (((ptB (Den tbl m)) _ w1).bind (seqK (ptR (Den tbl m)))) = _
  rw [hB]
  show endR (ptR (Den tbl m) _ w2) = _
  rw [e]
  rfl
theorem c_lplan (hd : DoorsOf z) (hw : WordsOf ws) : ∀ (l n : Nat), l < 1000 → 2 * l + 2 ≤ n → GotPl tbl z ws n l := by
  have key : ∀ (l n : Nat), l < 1000 → 2 * l + 1 ≤ n → GotPl tbl z ws (n + 1) l ∧ (1 ≤ l → GotPa tbl z ws n l) := by
    intro l
    induction l using Nat.strongRecOn with
    | _ l ih =>
      intro n hl hn
      have part : ∀ l', 1 ≤ l' → l' ≤ l → GotPa tbl z ws n l' := fun l' h1 h2 => by
        obtain ⟨m, rfl, hm⟩ := succ_of (k := 2 * l') (n := n) (by omega)
        obtain ⟨m', rfl, hm'⟩ := succ_of (k := 2 * l' - 1) (n := m) (by omega)
        exact part_of T (by omega) hd hw h1 (by omega) (ih (l' - 1) (by omega) m' (by omega) (by omega)).1
      exact ⟨plan_of T hl (by omega) part, fun h => part l h (Nat.le_refl _)⟩
  intro l n hl hn
  obtain ⟨m, rfl, hm⟩ := succ_of (k := 2 * l + 1) (n := n) (by omega)
  exact (key l m hl hm).1
end
end Dl
namespace Dl
open PySem PySem.Spec PyProof.Rows L2 NdefX
def Pa.nm : Pa → Option Str
  | .name x => some x
  | _ => none
def Pl.nms (p : Pl) : List Str := p.within.filterMap Pa.nm
def dedup (l : List Str) : List Str := l.foldl keysAdd []
theorem foldl_keys_len : ∀ (l acc : List Str), (l.foldl keysAdd acc).length ≤ acc.length + l.length
  | [], acc => by simp
  | x :: l, acc => by
    rw [List.foldl_cons]
    have := foldl_keys_len l (keysAdd acc x)
    have h2 : (keysAdd acc x).length ≤ acc.length + 1 := keysAdd_len
    simp only [List.length_cons]
    omega
theorem dedup_len (l : List Str) : (dedup l).length ≤ l.length := by
  have := foldl_keys_len l []
  simpa [dedup] using this
structure HasK (tbl : Nat → Option DefB) : Prop extends HasC tbl where
  t31 : tbl 31 = some ⟨1, 1, b_check_plan⟩
structure HasN (tbl : Nat → Option DefB) : Prop extends HasK tbl, HasW tbl where
  t33 : tbl 33 = some ⟨2, 3, b_labels_of⟩
  t46 : tbl 46 = some ⟨1, 1, b_names⟩
theorem labels_go {rm : Nat} {P : D} {w : World} : ∀ l : List Pa, compGo (gN 2) (dTst (dBin (gEq rm) (dBin gIx (dName 2) (dC (.int 0))) (dName 1))) (dBin gIx (dName 2) (dC (.int 1))) [.dat P, .dat (.str "name"), .un] (l.map Pa.d) w = .ok ((l.filterMap Pa.nm).map .str) w
  | [] => rfl
  | p :: l => by
    have ih := labels_go (rm := rm) (P := P) (w := w) l
    cases p <;> simp [go_cons, Pa.d, at_0, at_1, ih, List.filterMap_cons, Pa.nm, ne_1, ne_2, ne_12, ne_13]
theorem strs_map (l : List Str) : strsOf (l.map .str) = some l := by
  induction l with
  | nil => rfl
  | cons x l ih => simp [strsOf, ih]
section
variable {tbl : Nat → Option DefB} (T : HasK tbl)
include T
theorem c_checkPlan {p : Pl} {n : Nat} {w : World} (hn : 2 * p.dep + 5 ≤ n) (h : p.ok 0 = true) : (Den tbl n).call 31 [.dat p.d] w = .ok (.dat .non) w := by
  obtain ⟨m, rfl, hm⟩ := succ_of (k := 2 * p.dep + 4) hn
  rw [den_succ T.t31]
  have e := c_plan_in T.toHasC p 0 m w hm
  simp only [Pl.d, Int.cast_ofNat_Int] at e
  simp [runB, initE, toSl, b_check_plan, e, h]
end
section
variable {tbl : Nat → Option DefB} (T : HasN tbl)
include T
theorem c_labels {p : Pl} {n : Nat} {w : World} (hn : p.dep + 2 ≤ n) (hz : p.within.length < 64) : (Den tbl n).call 33 [.dat p.d, .dat (.str "name")] w = .ok (.fresh ((sortS (dedup p.nms)).map .str)) w := by
  obtain ⟨m, rfl, hm⟩ := succ_of (k := p.dep + 1) hn
  rw [den_succ T.t33]
  have e := c_within' T.toHasW p m w (by omega) (by omega)
  have g := labels_go (rm := (Den tbl m).room) (P := p.d) (w := w) p.within
  simp only [Pl.d] at e g
  have hs := strs_map p.nms
  have hl : (dedup p.nms).length < 64 := by
    have h1 := dedup_len p.nms
    have h2 : p.nms.length ≤ p.within.length := by unfold Pl.nms; exact List.length_filterMap_le _ _
    omega
  have hk := strs_map (dedup p.nms)
  have hc : cSortS [.lst ((dedup p.nms).map .str)] = some (.fresh ((sortS (dedup p.nms)).map .str)) := by
    simp only [cSortS, hk]
    rw [if_pos hl]
  unfold Pl.nms at *
  unfold dedup at *
  simp [runB, initE, toSl, b_labels_of, dKeys, e, g, hs, hc]
theorem c_names {p : Pl} {n : Nat} {w : World} (hn : 2 * p.dep + 6 ≤ n) (h : p.ok 0 = true) (hz : p.within.length < 64) : (Den tbl n).call 46 [.dat p.d] w = .ok (.fresh ((sortS (dedup p.nms)).map .str)) w := by
  obtain ⟨m, rfl, hm⟩ := succ_of (k := 2 * p.dep + 5) hn
  rw [den_succ T.t46]
  have e1 := c_checkPlan T.toHasK (w := w) hm h
  have e2 := c_labels T (p := p) (n := m) (w := w) (by omega) hz
  simp only [Pl.d] at e1 e2
  simp [runB, initE, toSl, b_names, e1, e2]
end
structure HasZ0 (tbl : Nat → Option DefB) : Prop extends HasK tbl, HasS tbl where
  t47 : tbl 47 = some ⟨1, 1, b_size⟩
structure HasZ (tbl : Nat → Option DefB) : Prop extends HasN tbl, HasM tbl, HasZ0 tbl where
  t37 : tbl 37 = some ⟨1, 1, b_check_word⟩
  t48 : tbl 48 = some ⟨1, 1, b_is_plan⟩
structure HasL (tbl : Nat → Option DefB) : Prop extends HasZ tbl where
  t35 : tbl 35 = some ⟨1, 1, b_check_door⟩
  t36 : tbl 36 = some ⟨3, 3, b_bound_to⟩
  t44 : tbl 44 = some ⟨3, 3, b_wait⟩
  t45 : tbl 45 = some ⟨2, 2, b_letter⟩
  t50 : tbl 50 = some ⟨3, 3, fun C => sRet (b_bound_to'clo C)⟩
section
variable {tbl : Nat → Option DefB} (T : HasL tbl)
include T
end
section
variable {tbl : Nat → Option DefB} (T : HasZ0 tbl)
include T
theorem c_size {p : Pl} {n : Nat} {w : World} (hn : 2 * p.dep + 6 ≤ n) (h : p.ok 0 = true) (hs : p.size < limN) : (Den tbl n).call 47 [.dat p.d] w = .ok (.dat (.int p.size)) w := by
  obtain ⟨m, rfl, hm⟩ := succ_of (k := 2 * p.dep + 5) hn
  rw [den_succ T.t47]
  have e1 := c_checkPlan T.toHasK (w := w) hm h
  have e2 := c_sizeOf T.toHasS p m w (by omega) (Pl.lim_size p 0 h hs).1
  simp only [Pl.d] at e1 e2
  simp [runB, initE, toSl, b_size, e1, e2]
end
section
variable {tbl : Nat → Option DefB} (T : HasZ tbl)
include T
end
end Dl
namespace Dl
open PySem PySem.Spec PyProof.Rows L2 NdefX
def Pl.nst : Pl → List Int
  | .nil => []
  | .cons _ (.letter _ b) r => ((b.dep : Int) + 1) :: r.nst
  | .cons _ (.wait _ b) r => ((b.dep : Int) + 1) :: r.nst
  | .cons _ _ r => r.nst
theorem nst_max : ∀ (p : Pl) (x : Nat), maxI (x : Int) p.nst = ((max x p.dep : Nat) : Int)
  | .nil, x => by simp [Pl.nst, maxI, Pl.dep]
  | .cons c p r, x => by
    have key : ∀ b : Pl, maxI (x : Int) (((b.dep : Int) + 1) :: r.nst) = ((max x (max (b.dep + 1) r.dep) : Nat) : Int) := fun b => by
      have ih := nst_max r (max x (b.dep + 1))
      have e : (if ((b.dep : Int) + 1) > (x : Int) then ((b.dep : Int) + 1) else (x : Int)) = ((max x (b.dep + 1) : Nat) : Int) := by split <;> omega
      simp only [maxI, e, ih]
      omega
    have ih := nst_max r x
    cases p with
    | name y => simp only [Pl.nst, ih, Pl.dep, Pa.dep]; omega
    | mark y => simp only [Pl.nst, ih, Pl.dep, Pa.dep]; omega
    | got y => simp only [Pl.nst, ih, Pl.dep, Pa.dep]; omega
    | letter y b => simp only [Pl.nst, Pl.dep, Pa.dep]; exact key b
    | wait y b => simp only [Pl.nst, Pl.dep, Pa.dep]; exact key b
structure HasI (tbl : Nat → Option DefB) : Prop extends HasW tbl where
  t52 : tbl 52 = some ⟨1, 1, b_items_in⟩
  t51 : tbl 51 = some ⟨1, 3, b_nesting⟩
theorem within_dep : ∀ (p : Pl), p.nst.length ≤ p.within.length
  | .nil => Nat.le_refl _
  | .cons c p r => by
    have := within_dep r
    cases p <;> simp [Pl.nst, Pl.within] <;> omega
section
variable {tbl : Nat → Option DefB} (T : HasI tbl)
include T
theorem c_items {p : Pl} {n : Nat} {w : World} (hn : p.dep + 2 ≤ n) (hz : p.within.length < 16777216) : (Den tbl n).call 52 [.dat p.d] w = .ok (.dat (.int p.within.length)) w := by
  obtain ⟨m, rfl, hm⟩ := succ_of (k := p.dep + 1) (n := n) (by omega)
  rw [den_succ T.t52]
  have e := c_within' T.toHasW p m w hm hz
  simp only [Pl.d] at e
  simp [runB, initE, toSl, b_items_in, e]
theorem c_nesting : ∀ (n : Nat) (p : Pl) (w : World), p.dep + 1 ≤ n → p.within.length < 16777215 → (Den tbl n).call 51 [.dat p.d] w = .ok (.dat (.int p.dep)) w
  | 0, p, w, h, hz => by omega
  | n + 1, p, w, h, hz => by
    rw [den_succ T.t51]
    have bz : ∀ b : Pl, b.dep < p.dep → True := fun _ _ => trivial
    have g : ∀ r : Pl, r.dep ≤ n → r.within.length < 16777215 → compGo (gT 2 (gsCons (gN 1) (gsCons (gN 2) gsNil))) (dTst (dBin (gEq (Den tbl n).room) (dBlt cLen (rCons (dName 2) rNil)) (dC (.int 3)))) (dBin gAdd (dC (.int 1)) (dCall (Den tbl n) 51 (aCons (dBin gIx (dName 2) (dC (.int 2))) aNil))) [.dat (.tup p.ds), .un, .un] r.ds w = .ok (r.nst.map .int) w := by
      intro r
      induction r using Pl.rec (motive_1 := fun _ => True) with
      | nil => intro _ _; rfl
      | cons c q r _ ih =>
        intro hd hw
        simp only [Pl.dep] at hd
        simp only [Pl.within, List.length_cons, List.length_append] at hw
        have ih := ih (by omega) (by omega)
        cases q with
        | name y => simp [Pl.ds, Pa.d, go_cons, ih, Pl.nst]
        | mark y => simp [Pl.ds, Pa.d, go_cons, ih, Pl.nst]
        | got y => simp [Pl.ds, Pa.d, go_cons, ih, Pl.nst]
        | letter y b =>
          simp only [Pa.dep] at hd
          simp only [Pa.within] at hw
          have hb := c_nesting n b w (by omega) (by omega)
          simp only [Pl.d] at hb
          simp [Pl.ds, Pa.d, go_cons, at_2, hb, ih, Pl.nst]
          omega
        | wait y b =>
          simp only [Pa.dep] at hd
          simp only [Pa.within] at hw
          have hb := c_nesting n b w (by omega) (by omega)
          simp only [Pl.d] at hb
          simp [Pl.ds, Pa.d, go_cons, at_2, hb, ih, Pl.nst]
          omega
      | _ => trivial
    have g := g p (by omega) hz
    have hl : 1 + p.nst.length ≤ sizeLine := by have := within_dep p; rw [sizeLine_eq]; omega
    have hm : cMax1 [.lst (.int 0 :: p.nst.map .int)] = some (.dat (.int p.dep)) := by
      have e := nst_max p 0
      have ei : intsOf (D.int 0 :: p.nst.map .int) = some (0 :: p.nst) := by simp [intsOf]
      simp only [cMax1, ei]
      rw [show maxI 0 p.nst = ((max 0 p.dep : Nat) : Int) from e]
      simp
    simp [runB, initE, toSl, b_nesting, g, hl, hm]
end
mutual
def Pa.raised (by_ least k : Nat) : Pa → Pa
  | .got n => if k + least ≤ n then .got (n + by_) else .got n
  | .letter d b => .letter d (b.raised by_ least k)
  | .wait d b => .wait d (b.raised by_ least (k + 1))
  | .mark n => .mark n
  | .name y => .name y
def Pl.raised (by_ least k : Nat) : Pl → Pl
  | .nil => .nil
  | .cons c p r => .cons c (p.raised by_ least k) (r.raised by_ least k)
end
def raiseF (by_ least : Nat) (p : Pa) (k : Nat) : Pl := .cons 1 (p.raised by_ least k) .nil
mutual
theorem Pa.mapA_raise (a l : Nat) : ∀ (p : Pa) (k c : Nat), p.mapA (raiseF a l) k c = .cons c (p.raised a l k) .nil
  | .name y, k, c => by simp [Pa.mapA, raiseF, Pl.times]
  | .mark n, k, c => by simp [Pa.mapA, raiseF, Pl.times]
  | .got n, k, c => by simp [Pa.mapA, raiseF, Pl.times]
  | .letter d b, k, c => by simp [Pa.mapA, Pa.raised, Pl.mapA_raise a l b k]
  | .wait d b, k, c => by simp [Pa.mapA, Pa.raised, Pl.mapA_raise a l b (k + 1)]
theorem Pl.mapA_raise (a l : Nat) : ∀ (p : Pl) (k : Nat), p.mapA (raiseF a l) k = p.raised a l k
  | .nil, k => rfl
  | .cons c p r, k => by simp [Pl.mapA, Pl.raised, Pa.mapA_raise a l p k c, Pl.mapA_raise a l r k, Pl.app]
end
mutual
theorem Pa.raised_len (a l : Nat) : ∀ (p : Pa) (k : Nat), (p.raised a l k).within.length = p.within.length
  | .name y, k => rfl
  | .mark n, k => rfl
  | .got n, k => by by_cases h : k + l ≤ n <;> simp [Pa.raised, h, Pa.within]
  | .letter d b, k => by simp [Pa.raised, Pa.within, Pl.raised_len a l b k]
  | .wait d b, k => by simp [Pa.raised, Pa.within, Pl.raised_len a l b (k + 1)]
theorem Pl.raised_len (a l : Nat) : ∀ (p : Pl) (k : Nat), (p.raised a l k).within.length = p.within.length
  | .nil, k => rfl
  | .cons c p r, k => by simp [Pl.raised, Pl.within, Pa.raised_len a l p k, Pl.raised_len a l r k]
end
mutual
theorem Pa.raised_ok (a : Nat) : ∀ (p : Pa) (k : Nat), p.ok k = true → p.raised a 0 k = p
  | .name y, k, h => rfl
  | .mark n, k, h => rfl
  | .got n, k, h => by
    have : ¬ k ≤ n := by simp [Pa.ok] at h; omega
    simp [Pa.raised, this]
  | .letter d b, k, h => by
    simp only [Pa.ok, Bool.and_eq_true] at h
    simp [Pa.raised, Pl.raised_ok a b k h.2]
  | .wait d b, k, h => by
    simp only [Pa.ok, Bool.and_eq_true] at h
    simp [Pa.raised, Pl.raised_ok a b (k + 1) h.2]
theorem Pl.raised_ok (a : Nat) : ∀ (p : Pl) (k : Nat), p.ok k = true → p.raised a 0 k = p
  | .nil, k, h => rfl
  | .cons c p r, k, h => by
    simp only [Pl.ok, Bool.and_eq_true] at h
    simp [Pl.raised, Pa.raised_ok a p k h.1.2, Pl.raised_ok a r k h.2]
end
structure HasR (tbl : Nat → Option DefB) : Prop extends HasI tbl, HasM tbl where
  t55 : tbl 55 = some ⟨4, 4, b_raised'clo⟩
  t57 : tbl 57 = some ⟨3, 4, b_raised⟩
section
variable {tbl : Nat → Option DefB} (T : HasR tbl)
include T
theorem act_raise {a l : Nat} {w : World} : ActOk tbl 1 55 [.int l, .int a] w (raiseF a l) := by
  intro p k n hp hn
  obtain ⟨m, rfl, hm⟩ := succ_of (k := 0) hn
  rw [den_succ T.t55]
  cases p with
  | name y => simp [runB, initE, toSl, b_raised'clo, Pa.d, at_0, ne_14, raiseF, Pl.ds, Pa.raised]
  | mark j => simp [runB, initE, toSl, b_raised'clo, Pa.d, at_0, ne_15, raiseF, Pl.ds, Pa.raised]
  | got j =>
    by_cases h : k + l ≤ j
    · have h' : (k : Int) + l ≤ j := by omega
      simp [runB, initE, toSl, b_raised'clo, Pa.d, at_0, at_1, h, h', raiseF, Pl.ds, Pa.raised]
    · have h' : ¬ (k : Int) + l ≤ j := by omega
      simp [runB, initE, toSl, b_raised'clo, Pa.d, at_0, at_1, h, h', raiseF, Pl.ds, Pa.raised]
  | letter d b => cases hp
  | wait d b => cases hp
theorem c_raised {a l : Nat} {p : Pl} {n : Nat} {w : World} (hw : allL w = true) (hn : p.dep + 3 ≤ n) (hp : p.cls) (hz : p.within.length < 16777216) : (Den tbl n).call 57 [.dat p.d, .dat (.int a), .dat (.int l)] w = .ok (.dat (p.raised a l 0).d) w := by
  obtain ⟨m, rfl, hm⟩ := succ_of (k := p.dep + 2) hn
  rw [den_succ T.t57]
  have big := limN_big
  have e := c_mapped T.toHasM hw (act_raise T (a := a) (l := l) (w := w)) (fun p k _ => ⟨by omega, trivial⟩) p 0 m (by omega) hp (by rw [Pl.mapA_raise, Pl.raised_len]; exact hz)
  rw [Pl.mapA_raise] at e
  simp only [Pl.d, Int.cast_ofNat_Int] at e
  simp [runB, initE, toSl, b_raised, sDefRet, dClo, capsOf, cloK, hw, e, Pa.d]
end
def putF (old : D) (other : Pl) (p : Pa) (_ : Nat) : Pl := if p.d.eq old = true then other else .cons 1 p .nil
abbrev Pl.put (p : Pl) (old : D) (other : Pl) : Pl := p.mapA (putF old other) 0
theorem times_ok {c k : Nat} (hc : 1 ≤ c) : ∀ p : Pl, p.ok k = true → (p.times c).ok k = true
  | .nil, h => by simp [Pl.times, Pl.ok]
  | .cons n p r, h => by
    simp only [Pl.ok, Bool.and_eq_true, decide_eq_true_eq] at h
    have : 1 * 1 ≤ c * n := Nat.mul_le_mul hc h.1.1
    simp only [Pl.times, Pl.ok, h.1.2, times_ok hc r h.2, Bool.and_true, decide_eq_true_eq]
    omega
mutual
theorem Pa.ok_mono : ∀ (p : Pa) (k j : Nat), k ≤ j → p.ok k = true → p.ok j = true
  | .name y, k, j, h, e => e
  | .mark n, k, j, h, e => e
  | .got n, k, j, h, e => by simp [Pa.ok] at *; omega
  | .letter d b, k, j, h, e => by
    simp only [Pa.ok, Bool.and_eq_true] at *
    exact ⟨e.1, Pl.ok_mono b k j h e.2⟩
  | .wait d b, k, j, h, e => by
    simp only [Pa.ok, Bool.and_eq_true] at *
    exact ⟨e.1, Pl.ok_mono b (k + 1) (j + 1) (by omega) e.2⟩
theorem Pl.ok_mono : ∀ (p : Pl) (k j : Nat), k ≤ j → p.ok k = true → p.ok j = true
  | .nil, k, j, h, e => e
  | .cons c p r, k, j, h, e => by
    simp only [Pl.ok, Bool.and_eq_true] at *
    exact ⟨⟨e.1.1, Pa.ok_mono p k j h e.1.2⟩, Pl.ok_mono r k j h e.2⟩
end
mutual
theorem Pa.put_ok (old : D) (o : Pl) (ho : o.ok 0 = true) : ∀ (p : Pa) (k c j : Nat), 1 ≤ c → p.ok k = true → (p.mapA (putF old o) j c).ok k = true
  | .name y, k, c, j, hc, h => by
    simp only [Pa.mapA, putF]
    split
    · exact times_ok hc _ (Pl.ok_mono o 0 k (by omega) ho)
    · simp [Pl.times, Pl.ok, hc, h]
  | .mark n, k, c, j, hc, h => by
    simp only [Pa.mapA, putF]
    split
    · exact times_ok hc _ (Pl.ok_mono o 0 k (by omega) ho)
    · simp [Pl.times, Pl.ok, hc, h]
  | .got n, k, c, j, hc, h => by
    simp only [Pa.mapA, putF]
    split
    · exact times_ok hc _ (Pl.ok_mono o 0 k (by omega) ho)
    · simp [Pl.times, Pl.ok, hc, h]
  | .letter d b, k, c, j, hc, h => by
    simp only [Pa.ok, Bool.and_eq_true] at h
    simp [Pa.mapA, Pl.ok, Pa.ok, hc, h.1, Pl.put_ok old o ho b k j h.2]
  | .wait d b, k, c, j, hc, h => by
    simp only [Pa.ok, Bool.and_eq_true] at h
    simp [Pa.mapA, Pl.ok, Pa.ok, hc, h.1, Pl.put_ok old o ho b (k + 1) (j + 1) h.2]
theorem Pl.put_ok (old : D) (o : Pl) (ho : o.ok 0 = true) : ∀ (p : Pl) (k j : Nat), p.ok k = true → (p.mapA (putF old o) j).ok k = true
  | .nil, k, j, h => by simp [Pl.mapA, Pl.ok]
  | .cons c p r, k, j, h => by
    simp only [Pl.ok, Bool.and_eq_true, decide_eq_true_eq] at h
    simp [Pl.mapA, app_ok, Pa.put_ok old o ho p k c j h.1.1 h.1.2, Pl.put_ok old o ho r k j h.2]
end
mutual
theorem Pa.put_len (old : D) (o : Pl) : ∀ (p : Pa) (c j : Nat), (p.mapA (putF old o) j c).within.length ≤ (p.within.length + 1) * (o.within.length + 1)
  | .name y, c, j => by
    simp only [Pa.mapA, times_within, putF, Pa.within]
    split <;> simp [Pl.within, Pa.within]
  | .mark n, c, j => by
    simp only [Pa.mapA, times_within, putF, Pa.within]
    split <;> simp [Pl.within, Pa.within]
  | .got n, c, j => by
    simp only [Pa.mapA, times_within, putF, Pa.within]
    split <;> simp [Pl.within, Pa.within]
  | .letter d b, c, j => by
    have := Pl.put_len old o b j
    simp only [Pa.mapA, Pl.within, Pa.within, List.length_cons, List.length_append, List.length_nil, Nat.add_mul, Nat.one_mul]
    omega
  | .wait d b, c, j => by
    have := Pl.put_len old o b (j + 1)
    simp only [Pa.mapA, Pl.within, Pa.within, List.length_cons, List.length_append, List.length_nil, Nat.add_mul, Nat.one_mul]
    omega
theorem Pl.put_len (old : D) (o : Pl) : ∀ (p : Pl) (j : Nat), (p.mapA (putF old o) j).within.length ≤ p.within.length * (o.within.length + 1)
  | .nil, j => by simp [Pl.mapA, Pl.within]
  | .cons c p r, j => by
    have h1 := Pa.put_len old o p c j
    have h2 := Pl.put_len old o r j
    simp only [Pl.mapA, app_within, Pl.within, List.length_cons, List.length_append]
    rw [show (p.within.length + r.within.length + 1) * (o.within.length + 1) = (p.within.length + 1) * (o.within.length + 1) + r.within.length * (o.within.length + 1) by rw [← Nat.add_mul]; congr 1; omega]
    omega
end
theorem app_dep : ∀ p q : Pl, (p.app q).dep = max p.dep q.dep
  | .nil, q => by simp [Pl.app, Pl.dep]
  | .cons c p r, q => by simp only [Pl.app, Pl.dep, app_dep r q]; omega
theorem times_dep {c : Nat} : ∀ p : Pl, (p.times c).dep = p.dep
  | .nil => rfl
  | .cons n p r => by simp only [Pl.times, Pl.dep, times_dep r]
mutual
theorem Pa.put_dep (old : D) (o : Pl) : ∀ (p : Pa) (c j : Nat), (p.mapA (putF old o) j c).dep ≤ p.dep + o.dep
  | .name y, c, j => by
    simp only [Pa.mapA, times_dep, putF, Pa.dep]
    split <;> simp [Pl.dep, Pa.dep]
  | .mark n, c, j => by
    simp only [Pa.mapA, times_dep, putF, Pa.dep]
    split <;> simp [Pl.dep, Pa.dep]
  | .got n, c, j => by
    simp only [Pa.mapA, times_dep, putF, Pa.dep]
    split <;> simp [Pl.dep, Pa.dep]
  | .letter d b, c, j => by
    have := Pl.put_dep old o b j
    simp only [Pa.mapA, Pl.dep, Pa.dep]; omega
  | .wait d b, c, j => by
    have := Pl.put_dep old o b (j + 1)
    simp only [Pa.mapA, Pl.dep, Pa.dep]; omega
theorem Pl.put_dep (old : D) (o : Pl) : ∀ (p : Pl) (j : Nat), (p.mapA (putF old o) j).dep ≤ p.dep + o.dep
  | .nil, j => by simp [Pl.mapA, Pl.dep]
  | .cons c p r, j => by
    have h1 := Pa.put_dep old o p c j
    have h2 := Pl.put_dep old o r j
    simp only [Pl.mapA, app_dep, Pl.dep]; omega
end
def Old (old : D) : Prop := ∃ a b, old = .tup [a, b] ∧ a.dep = 0 ∧ b.dep = 0
theorem Old.room {old : D} (h : Old old) {rm : Nat} (hr : 1 ≤ rm) (l : List D) : gEq rm (.tup l) old = some (.dat (.bl ((D.tup l).eq old))) := by
  obtain ⟨a, b, rfl, h1, h2⟩ := h
  exact gEq_t (by simp [h1, h2]; omega)
theorem old_name (x : Str) : Old (.tup [.str "name", .str x]) := ⟨_, _, rfl, rfl, rfl⟩
theorem old_mark (j : Nat) : Old (.tup [.str "mark", .int j]) := ⟨_, _, rfl, rfl, rfl⟩
structure HasP (tbl : Nat → Option DefB) : Prop extends HasR tbl, HasZ tbl where
  t53 : tbl 53 = some ⟨1, 1, b_check_room⟩
  t56 : tbl 56 = some ⟨4, 4, fun C => sRet (b_replaced'clo C)⟩
  t58 : tbl 58 = some ⟨3, 3, b_replaced⟩
  t59 : tbl 59 = some ⟨1, 1, b_roomy⟩
  t61 : tbl 61 = some ⟨3, 5, b_roomy_replaced⟩
  t62 : tbl 62 = some ⟨1, 1, b_check_mark⟩
  t65 : tbl 65 = some ⟨3, 3, b_mark_put⟩
  t73 : tbl 73 = some ⟨3, 3, b_put⟩
theorem cls_cl : ∀ p : Pl, p.cls → p.cl
  | .nil, _ => trivial
  | .cons c p r, h => ⟨h.1, cls_cl r h.2.2⟩
theorem places_go {rm : Nat} {old P O S : D} {w : World} (ho : Old old) (hr : 1 ≤ rm) : ∀ l : List Pa, ∃ xs : List D, compGo (gN 4) (dTst (dBin (gEq rm) (dName 4) (dName 1))) (dName 4) [.dat P, .dat old, .dat O, .un, .un] (l.map Pa.d) w = .ok xs w ∧ xs.length ≤ l.length
  | [] => ⟨[], rfl, Nat.le_refl _⟩
  | p :: l => by
    obtain ⟨xs, e, h⟩ := places_go (S := S) ho hr l (P := P) (O := O) (w := w)
    have hq := ho.room hr p.l
    by_cases hp : (D.tup p.l).eq old = true
    · exact ⟨p.d :: xs, by simp [go_cons, Pa.d_l, hq, hp, e], by simpa using h⟩
    · exact ⟨xs, by simp [go_cons, Pa.d_l, hq, hp, e], by simp; omega⟩
section
variable {tbl : Nat → Option DefB} (T : HasP tbl)
include T
theorem act_put {old : D} {o : Pl} {w : World} (hold : Old old) (hw : allL w = true) (ho : o.ok 0 = true) (hc : o.cls) (hz : o.within.length < 16777216) : ActOk tbl (o.dep + 4) 56 [old, o.d] w (putF old o) := by
  intro p k n hp hn
  obtain ⟨m, rfl, hm⟩ := succ_of (k := o.dep + 3) hn
  rw [den_succ T.t56]
  have hq := hold.room (rm := (Den tbl m).room) (by rw [den_room]; omega) p.l
  have e := c_raised T.toHasR (a := k) (l := 0) (p := o) (n := m) hw hm hc hz
  rw [Pl.raised_ok k o 0 ho] at e
  simp only [Pl.d, Int.cast_ofNat_Int] at e
  by_cases h : (D.tup p.l).eq old = true
  · simp [runB, initE, toSl, b_replaced'clo, Pa.d_l, hq, h, e, putF]
  · simp [runB, initE, toSl, b_replaced'clo, Pa.d_l, hq, h, putF, Pl.ds]
structure PutOk (o p : Pl) : Prop where
  p0 : p.ok 0 = true
  o0 : o.ok 0 = true
  ps : p.size < limN
  os : o.size < limN
  len : p.within.length * (o.within.length + 1) ≤ 5000
  dep : p.dep + o.dep ≤ 60
theorem c_replaced {old : D} {o p : Pl} {n : Nat} {w : World} (hold : Old old) (hw : allL w = true) (h : PutOk o p) (ow : o.within.length ≤ 5000) (hn : 110 ≤ n) : (Den tbl n).call 58 [.dat p.d, .dat old, .dat o.d] w = .ok (.dat (p.put old o).d) w := by
  obtain ⟨m, rfl, hm⟩ := succ_of (k := 109) hn
  rw [den_succ T.t58]
  have oc := (Pl.lim_size o 0 h.o0 h.os).2
  have pc := (Pl.lim_size p 0 h.p0 h.ps).2
  have big := limN_big
  have hl := Pl.put_len old o p 0
  have e := c_mapped T.toHasM hw (act_put T hold hw h.o0 oc (by omega)) (fun p k _ => by
    unfold putF
    split
    · exact cls_cl o oc
    · exact ⟨by omega, trivial⟩) p 0 m (by have := h.dep; omega) pc (by have := h.len; omega)
  simp only [Pl.d, Int.cast_ofNat_Int] at e
  simp [runB, initE, toSl, b_replaced, dClo, capsOf, cloK, hw, e, Pa.d]
theorem c_roomyRep {old : D} {o p : Pl} {n : Nat} {w : World} (hold : Old old) (hw : allL w = true) (h : PutOk o p) (pw : p.within.length ≤ 5000) (ow : o.within.length ≤ 5000) (hn : 120 ≤ n) : (Den tbl n).call 61 [.dat p.d, .dat old, .dat o.d] w = .ok (.dat (p.put old o).d) w := by
  obtain ⟨m, rfl, hm⟩ := succ_of (k := 119) hn
  obtain ⟨m', rfl, hm'⟩ := succ_of (k := 118) hm
  rw [den_succ T.t61]
  have hd := h.dep
  have hl := h.len
  have pl : (p.put old o).within.length ≤ p.within.length * (o.within.length + 1) := Pl.put_len old o p 0
  have pd : (p.put old o).dep ≤ p.dep + o.dep := Pl.put_dep old o p 0
  have e1 := c_within' T.toHasW p (m' + 1) w (by omega) (by omega)
  have e2 := c_items T.toHasI (p := p) (n := m' + 1) (w := w) (by omega) (by omega)
  have e3 := c_items T.toHasI (p := o) (n := m' + 1) (w := w) (by omega) (by omega)
  have e4 := c_replaced T hold hw h ow (n := m' + 1) (by omega)
  obtain ⟨xs, ex, xl⟩ := places_go (rm := (Den tbl (m' + 1)).room) (old := old) (P := p.d) (O := o.d) (S := p.d) (w := w) hold (by rw [den_room]; omega) p.within
  have room : ∀ (i : Int), i ≤ 5000 → ∀ k, 1 ≤ k → (Den tbl k).call 53 [.dat (.int i)] w = .ok (.dat .non) w := fun i hi k hk => by
    obtain ⟨k', rfl, _⟩ := succ_of (k := 0) hk
    rw [den_succ T.t53]
    have : ¬ (5000 : Int) < i := by omega
    simp [runB, initE, toSl, b_check_room, this]
  have e5 : (Den tbl (m' + 1)).call 59 [.dat (p.put old o).d] w = .ok (.dat (p.put old o).d) w := by
    rw [den_succ T.t59]
    have f1 := c_items T.toHasI (p := p.put old o) (n := m') (w := w) (by omega) (by omega)
    have f2 := c_nesting T.toHasI m' (p.put old o) w (by omega) (by omega)
    have f3 := room ((p.put old o).within.length) (by omega) m' (by omega)
    have f4 : ¬ (120 : Int) < ((p.put old o).dep : Int) := by omega
    generalize p.put old o = q at *
    simp only [Pl.d] at f1 f2
    simp [runB, initE, toSl, b_roomy, f1, f2, f3, f4]
  have hmul : mulOk (xs.length : Int) ((o.within.length : Int) - 1) = true := by
    have : xs.length < 18446744073709551616 := by
      have : xs.length ≤ p.within.length := by simpa using xl
      omega
    simp [mulOk, this]
  have hle : (p.within.length : Int) + (xs.length : Int) * ((o.within.length : Int) - 1) ≤ 5000 := by
    have a1 : (xs.length : Int) * ((o.within.length : Int) - 1) ≤ (xs.length : Int) * (o.within.length : Int) := Int.mul_le_mul_of_nonneg_left (by omega) (by omega)
    have a2 : xs.length * o.within.length ≤ p.within.length * o.within.length := Nat.mul_le_mul_right _ (by simpa using xl)
    have a3 : p.within.length * (o.within.length + 1) = p.within.length * o.within.length + p.within.length := by rw [Nat.mul_add, Nat.mul_one]
    have a4 : ((xs.length * o.within.length : Nat) : Int) = (xs.length : Int) * (o.within.length : Int) := by push_cast; rfl
    omega
  have f5 := room _ hle (m' + 1) (by omega)
  generalize p.put old o = q at *
  simp only [Pl.d] at e1 e2 e3 e4 e5 ex
  simp [runB, initE, toSl, b_roomy_replaced, e1, e2, e3, e4, e5, ex, hmul, f5]
theorem c_put {x : Str} {o p : Pl} {n : Nat} {w : World} (hx : wordB x = true) (hw : allL w = true) (h : PutOk o p) (pw : p.within.length ≤ 5000) (ow : o.within.length ≤ 5000) (hn : 150 ≤ n) : (Den tbl n).call 73 [.dat p.d, .dat (.str x), .dat o.d] w = .ok (.dat (p.put (.tup [.str "name", .str x]) o).d) w := by
  obtain ⟨m, rfl, hm⟩ := succ_of (k := 149) hn
  obtain ⟨m', rfl, hm'⟩ := succ_of (k := 148) hm
  rw [den_succ T.t73]
  have hd := h.dep
  have e1 := c_checkPlan T.toHasK (p := p) (n := m' + 1) (w := w) (by omega) h.p0
  have e2 := c_checkPlan T.toHasK (p := o) (n := m' + 1) (w := w) (by omega) h.o0
  have e3 : ∀ w, (Den tbl (m' + 1)).call 37 [.dat (.str x)] w = .ok (.dat .non) w := fun w => by
    rw [den_succ T.t37]
    simp [runB, initE, toSl, b_check_word, c_word T.toHasC (show 1 ≤ m' by omega), hx]
  have e4 := c_roomyRep T (old_name x) hw h pw ow (n := m' + 1) (by omega)
  generalize p.put (.tup [.str "name", .str x]) o = q at *
  simp only [Pl.d] at e1 e2 e4
  simp [runB, initE, toSl, b_put, e1, e2, e3, e4]
end
end Dl
namespace Dl
open PySem PySem.Spec PyProof.Rows L2 NdefX
structure HasPz (tbl : Nat → Option DefB) : Prop extends HasK tbl, HasR tbl where
  t37 : tbl 37 = some ⟨1, 1, b_check_word⟩
  t53 : tbl 53 = some ⟨1, 1, b_check_room⟩
  t56 : tbl 56 = some ⟨4, 4, fun C => sRet (b_replaced'clo C)⟩
  t58 : tbl 58 = some ⟨3, 3, b_replaced⟩
  t59 : tbl 59 = some ⟨1, 1, b_roomy⟩
  t61 : tbl 61 = some ⟨3, 5, b_roomy_replaced⟩
  t73 : tbl 73 = some ⟨3, 3, b_put⟩
structure HasMz (tbl : Nat → Option DefB) : Prop extends HasPz tbl where
  t62 : tbl 62 = some ⟨1, 1, b_check_mark⟩
  t65 : tbl 65 = some ⟨3, 3, b_mark_put⟩
structure HasLz (tbl : Nat → Option DefB) : Prop extends HasK tbl, HasM tbl where
  t37 : tbl 37 = some ⟨1, 1, b_check_word⟩
  t35 : tbl 35 = some ⟨1, 1, b_check_door⟩
  t36 : tbl 36 = some ⟨3, 3, b_bound_to⟩
  t44 : tbl 44 = some ⟨3, 3, b_wait⟩
  t50 : tbl 50 = some ⟨3, 3, fun C => sRet (b_bound_to'clo C)⟩
structure HasLe (tbl : Nat → Option DefB) : Prop extends HasK tbl where
  t35 : tbl 35 = some ⟨1, 1, b_check_door⟩
  t45 : tbl 45 = some ⟨2, 2, b_letter⟩
section
variable {tbl : Nat → Option DefB} (T : HasLe tbl)
include T
end
section
variable {tbl : Nat → Option DefB} (T : HasLz tbl)
include T
end
section
variable {tbl : Nat → Option DefB} (T : HasPz tbl)
include T
theorem act_putZ {old : D} {o : Pl} {w : World} (hold : Old old) (hw : allL w = true) (ho : o.ok 0 = true) (hc : o.cls) (hz : o.within.length < 16777216) : ActOk tbl (o.dep + 4) 56 [old, o.d] w (putF old o) := by
  intro p k n hp hn
  obtain ⟨m, rfl, hm⟩ := succ_of (k := o.dep + 3) hn
  rw [den_succ T.t56]
  have hq := hold.room (rm := (Den tbl m).room) (by rw [den_room]; omega) p.l
  have e := c_raised T.toHasR (a := k) (l := 0) (p := o) (n := m) hw hm hc hz
  rw [Pl.raised_ok k o 0 ho] at e
  simp only [Pl.d, Int.cast_ofNat_Int] at e
  by_cases h : (D.tup p.l).eq old = true
  · simp [runB, initE, toSl, b_replaced'clo, Pa.d_l, hq, h, e, putF]
  · simp [runB, initE, toSl, b_replaced'clo, Pa.d_l, hq, h, putF, Pl.ds]
theorem c_replacedZ {old : D} {o p : Pl} {n : Nat} {w : World} (hold : Old old) (hw : allL w = true) (h : PutOk o p) (ow : o.within.length ≤ 5000) (hn : 110 ≤ n) : (Den tbl n).call 58 [.dat p.d, .dat old, .dat o.d] w = .ok (.dat (p.put old o).d) w := by
  obtain ⟨m, rfl, hm⟩ := succ_of (k := 109) hn
  rw [den_succ T.t58]
  have oc := (Pl.lim_size o 0 h.o0 h.os).2
  have pc := (Pl.lim_size p 0 h.p0 h.ps).2
  have big := limN_big
  have hl := Pl.put_len old o p 0
  have e := c_mapped T.toHasM hw (act_putZ T hold hw h.o0 oc (by omega)) (fun p k _ => by
    unfold putF
    split
    · exact cls_cl o oc
    · exact ⟨by omega, trivial⟩) p 0 m (by have := h.dep; omega) pc (by have := h.len; omega)
  simp only [Pl.d, Int.cast_ofNat_Int] at e
  simp [runB, initE, toSl, b_replaced, dClo, capsOf, cloK, hw, e, Pa.d]
theorem c_roomyRepZ {old : D} {o p : Pl} {n : Nat} {w : World} (hold : Old old) (hw : allL w = true) (h : PutOk o p) (pw : p.within.length ≤ 5000) (ow : o.within.length ≤ 5000) (hn : 120 ≤ n) : (Den tbl n).call 61 [.dat p.d, .dat old, .dat o.d] w = .ok (.dat (p.put old o).d) w := by
  obtain ⟨m, rfl, hm⟩ := succ_of (k := 119) hn
  obtain ⟨m', rfl, hm'⟩ := succ_of (k := 118) hm
  rw [den_succ T.t61]
  have hd := h.dep
  have hl := h.len
  have pl : (p.put old o).within.length ≤ p.within.length * (o.within.length + 1) := Pl.put_len old o p 0
  have pd : (p.put old o).dep ≤ p.dep + o.dep := Pl.put_dep old o p 0
  have e1 := c_within' T.toHasW p (m' + 1) w (by omega) (by omega)
  have e2 := c_items T.toHasI (p := p) (n := m' + 1) (w := w) (by omega) (by omega)
  have e3 := c_items T.toHasI (p := o) (n := m' + 1) (w := w) (by omega) (by omega)
  have e4 := c_replacedZ T hold hw h ow (n := m' + 1) (by omega)
  obtain ⟨xs, ex, xl⟩ := places_go (rm := (Den tbl (m' + 1)).room) (old := old) (P := p.d) (O := o.d) (S := p.d) (w := w) hold (by rw [den_room]; omega) p.within
  have room : ∀ (i : Int), i ≤ 5000 → ∀ k, 1 ≤ k → (Den tbl k).call 53 [.dat (.int i)] w = .ok (.dat .non) w := fun i hi k hk => by
    obtain ⟨k', rfl, _⟩ := succ_of (k := 0) hk
    rw [den_succ T.t53]
    have : ¬ (5000 : Int) < i := by omega
    simp [runB, initE, toSl, b_check_room, this]
  have e5 : (Den tbl (m' + 1)).call 59 [.dat (p.put old o).d] w = .ok (.dat (p.put old o).d) w := by
    rw [den_succ T.t59]
    have f1 := c_items T.toHasI (p := p.put old o) (n := m') (w := w) (by omega) (by omega)
    have f2 := c_nesting T.toHasI m' (p.put old o) w (by omega) (by omega)
    have f3 := room ((p.put old o).within.length) (by omega) m' (by omega)
    have f4 : ¬ (120 : Int) < ((p.put old o).dep : Int) := by omega
    generalize p.put old o = q at *
    simp only [Pl.d] at f1 f2
    simp [runB, initE, toSl, b_roomy, f1, f2, f3, f4]
  have hmul : mulOk (xs.length : Int) ((o.within.length : Int) - 1) = true := by
    have : xs.length < 18446744073709551616 := by
      have : xs.length ≤ p.within.length := by simpa using xl
      omega
    simp [mulOk, this]
  have hle : (p.within.length : Int) + (xs.length : Int) * ((o.within.length : Int) - 1) ≤ 5000 := by
    have a1 : (xs.length : Int) * ((o.within.length : Int) - 1) ≤ (xs.length : Int) * (o.within.length : Int) := Int.mul_le_mul_of_nonneg_left (by omega) (by omega)
    have a2 : xs.length * o.within.length ≤ p.within.length * o.within.length := Nat.mul_le_mul_right _ (by simpa using xl)
    have a3 : p.within.length * (o.within.length + 1) = p.within.length * o.within.length + p.within.length := by rw [Nat.mul_add, Nat.mul_one]
    have a4 : ((xs.length * o.within.length : Nat) : Int) = (xs.length : Int) * (o.within.length : Int) := by push_cast; rfl
    omega
  have f5 := room _ hle (m' + 1) (by omega)
  generalize p.put old o = q at *
  simp only [Pl.d] at e1 e2 e3 e4 e5 ex
  simp [runB, initE, toSl, b_roomy_replaced, e1, e2, e3, e4, e5, ex, hmul, f5]
theorem c_putZ {x : Str} {o p : Pl} {n : Nat} {w : World} (hx : wordB x = true) (hw : allL w = true) (h : PutOk o p) (pw : p.within.length ≤ 5000) (ow : o.within.length ≤ 5000) (hn : 150 ≤ n) : (Den tbl n).call 73 [.dat p.d, .dat (.str x), .dat o.d] w = .ok (.dat (p.put (.tup [.str "name", .str x]) o).d) w := by
  obtain ⟨m, rfl, hm⟩ := succ_of (k := 149) hn
  obtain ⟨m', rfl, hm'⟩ := succ_of (k := 148) hm
  rw [den_succ T.t73]
  have hd := h.dep
  have e1 := c_checkPlan T.toHasK (p := p) (n := m' + 1) (w := w) (by omega) h.p0
  have e2 := c_checkPlan T.toHasK (p := o) (n := m' + 1) (w := w) (by omega) h.o0
  have e3 : ∀ w, (Den tbl (m' + 1)).call 37 [.dat (.str x)] w = .ok (.dat .non) w := fun w => by
    rw [den_succ T.t37]
    simp [runB, initE, toSl, b_check_word, c_word T.toHasC (show 1 ≤ m' by omega), hx]
  have e4 := c_roomyRepZ T (old_name x) hw h pw ow (n := m' + 1) (by omega)
  generalize p.put (.tup [.str "name", .str x]) o = q at *
  simp only [Pl.d] at e1 e2 e4
  simp [runB, initE, toSl, b_put, e1, e2, e3, e4]
end
section
variable {tbl : Nat → Option DefB} (T : HasMz tbl)
include T
theorem c_markPutZ {j : Nat} {o p : Pl} {n : Nat} {w : World} (hw : allL w = true) (h : PutOk o p) (pw : p.within.length ≤ 5000) (ow : o.within.length ≤ 5000) (hn : 150 ≤ n) : (Den tbl n).call 65 [.dat p.d, .dat (.int j), .dat o.d] w = .ok (.dat (p.put (.tup [.str "mark", .int j]) o).d) w := by
  obtain ⟨m, rfl, hm⟩ := succ_of (k := 149) hn
  obtain ⟨m', rfl, hm'⟩ := succ_of (k := 148) hm
  rw [den_succ T.t65]
  have hd := h.dep
  have e1 := c_checkPlan T.toHasK (p := p) (n := m' + 1) (w := w) (by omega) h.p0
  have e2 := c_checkPlan T.toHasK (p := o) (n := m' + 1) (w := w) (by omega) h.o0
  have e3 : ∀ w, (Den tbl (m' + 1)).call 62 [.dat (.int j)] w = .ok (.dat .non) w := fun w => by
    rw [den_succ T.t62]
    have : ¬ (j : Int) < 0 := by omega
    simp [runB, initE, toSl, b_check_mark, c_integer T.toHasC (show 1 ≤ m' by omega), isI, this]
  have e4 := c_roomyRepZ T.toHasPz (old_mark j) hw h pw ow (n := m' + 1) (by omega)
  generalize p.put (.tup [.str "mark", .int j]) o = q at *
  simp only [Pl.d] at e1 e2 e4
  simp [runB, initE, toSl, b_mark_put, e1, e2, e3, e4]
end
end Dl
namespace Dl
open PySem PySem.Spec PyProof.Rows L2 NdefX
abbrev It : Type := Nat × Pa
def Pl.L : Pl → List It
  | .nil => []
  | .cons c p r => (c, p) :: r.L
def ofL : List It → Pl
  | [] => .nil
  | (c, p) :: r => .cons c p (ofL r)
@[simp] theorem ofL_L : ∀ p : Pl, ofL p.L = p
  | .nil => rfl
  | .cons c p r => by simp [Pl.L, ofL, ofL_L r]
@[simp] theorem L_ofL : ∀ l : List It, (ofL l).L = l
  | [] => rfl
  | (c, p) :: r => by simp [Pl.L, ofL, L_ofL r]
def szL (l : List It) : Nat := (l.map fun i => i.1 * i.2.size).sum
theorem size_L : ∀ p : Pl, p.size = szL p.L
  | .nil => rfl
  | .cons c p r => by simp [Pl.size, Pl.L, szL, size_L r]
theorem size_ofL (l : List It) : (ofL l).size = szL l := by rw [size_L, L_ofL]
@[simp] theorem szL_app (a b : List It) : szL (a ++ b) = szL a + szL b := by simp [szL]
@[simp] theorem szL_cons (i : It) (b : List It) : szL (i :: b) = i.1 * i.2.size + szL b := by simp [szL]
@[simp] theorem szL_nil : szL [] = 0 := rfl
def okI (k : Nat) (i : It) : Bool := decide (1 ≤ i.1) && i.2.ok k
theorem ok_L (k : Nat) : ∀ p : Pl, p.ok k = p.L.all (okI k)
  | .nil => by simp [Pl.ok, Pl.L]
  | .cons c p r => by simp [Pl.ok, Pl.L, okI, ok_L k r]
theorem ok_ofL (k : Nat) (l : List It) : (ofL l).ok k = l.all (okI k) := by rw [ok_L, L_ofL]
def wiL (l : List It) : Nat := (l.map fun i => 1 + i.2.within.length).sum
theorem within_L : ∀ p : Pl, p.within.length = wiL p.L
  | .nil => rfl
  | .cons c p r => by simp [Pl.within, Pl.L, wiL, within_L r]; omega
@[simp] theorem wiL_app (a b : List It) : wiL (a ++ b) = wiL a + wiL b := by simp [wiL]
@[simp] theorem wiL_cons (i : It) (b : List It) : wiL (i :: b) = 1 + i.2.within.length + wiL b := by simp [wiL]
@[simp] theorem wiL_nil : wiL [] = 0 := rfl
theorem within_ofL (l : List It) : (ofL l).within.length = wiL l := by rw [within_L, L_ofL]
abbrev Pl.up (p : Pl) : Pl := p.raised 1 1 0
mutual
theorem Pa.raised_size (a l : Nat) : ∀ (p : Pa) (k : Nat), (p.raised a l k).size = p.size
  | .name y, k => rfl
  | .mark n, k => rfl
  | .got n, k => by by_cases h : k + l ≤ n <;> simp [Pa.raised, h, Pa.size]
  | .letter d b, k => by simp [Pa.raised, Pa.size, Pl.raised_size a l b k]
  | .wait d b, k => by simp [Pa.raised, Pa.size, Pl.raised_size a l b (k + 1)]
theorem Pl.raised_size (a l : Nat) : ∀ (p : Pl) (k : Nat), (p.raised a l k).size = p.size
  | .nil, k => rfl
  | .cons c p r, k => by simp [Pl.raised, Pl.size, Pa.raised_size a l p k, Pl.raised_size a l r k]
end
mutual
theorem Pa.eq_iff : ∀ p q : Pa, p.d.eq q.d = true ↔ p = q
  | .name x, q => by cases q <;> simp [Pa.d, ne_14, ne_18, ne_6, ne_7]
  | .mark x, q => by cases q <;> simp [Pa.d, ne_1, ne_15, ne_8, ne_9] <;> omega
  | .got x, q => by cases q <;> simp [Pa.d, ne_2, ne_3, ne_10, ne_11] <;> omega
  | .letter x b, q => by
    cases q with
    | letter y c => have := Pl.eq_iff b c; simp [Pa.d, this]
    | wait y c => simp [Pa.d, ne_4]
    | name y => simp [Pa.d]
    | mark y => simp [Pa.d]
    | got y => simp [Pa.d]
  | .wait x b, q => by
    cases q with
    | wait y c => have := Pl.eq_iff b c; simp [Pa.d, this]
    | letter y c => simp [Pa.d, ne_5]
    | name y => simp [Pa.d]
    | mark y => simp [Pa.d]
    | got y => simp [Pa.d]
theorem Pl.eq_iff : ∀ p q : Pl, (D.tup p.ds).eq (.tup q.ds) = true ↔ p = q
  | .nil, q => by cases q <;> simp [Pl.ds]
  | .cons c p r, q => by
    cases q with
    | nil => simp [Pl.ds]
    | cons c' p' r' =>
      have h1 := Pa.eq_iff p p'
      have h2 := Pl.eq_iff r r'
      simp only [Pl.ds, eqt_cc, eqt_nn, eq_ii, Bool.and_true, Bool.and_eq_true, decide_eq_true_eq, h1, h2, Pl.cons.injEq]
      constructor
      · rintro ⟨⟨h, h'⟩, h''⟩; exact ⟨by omega, h', h''⟩
      · rintro ⟨h, h', h''⟩; exact ⟨⟨by omega, h'⟩, h''⟩
end
inductive Mv where
  | swap (i : Nat) | join (i : Nat) | split (i k : Nat) | fold (i : Nat) | unfold (i k : Nat)
def beqP (p q : Pa) : Bool := p.d.eq q.d
theorem beqP_iff {p q : Pa} : beqP p q = true ↔ p = q := Pa.eq_iff p q
def Mv.at_ : Mv → Nat
  | .swap i => i
  | .join i => i
  | .split i _ => i
  | .fold i => i
  | .unfold i _ => i
def Mv.wide : Mv → Nat
  | .swap _ => 2
  | .join _ => 2
  | _ => 1
end Dl
namespace Dl
open PySem PySem.Spec PyProof.Rows L2 NdefX
mutual
def Pa.key : Pa → D
  | .name x => .tup [.int 1, .int 0, .str x, .tup []]
  | .mark n => .tup [.int 1, .int 1, .int n, .tup []]
  | .got n => .tup [.int 1, .int 2, .int n, .tup []]
  | .letter x b => .tup [.int ((b.size + 1 : Nat) : Int), .int 3, .str x, .tup b.keys]
  | .wait x b => .tup [.int ((b.size + 1 : Nat) : Int), .int 4, .str x, .tup b.keys]
def Pl.keys : Pl → List D
  | .nil => []
  | .cons c p r => .tup [p.key, .int c] :: r.keys
end
def Cmp (x y : PyData) (e : Prop) : Prop := (e ∧ PyData.eqv x y = true ∧ PyData.eqv y x = true ∧ pLt x y = some false ∧ pLt y x = some false) ∨
  (¬ e ∧ PyData.eqv x y = false ∧ PyData.eqv y x = false ∧ ((pLt x y = some true ∧ pLt y x = some false) ∨ (pLt x y = some false ∧ pLt y x = some true)))
def klt (p q : Pa) : Bool := tokLt p.key.py q.key.py
def Sm (x y x' y' : PyData) : Prop := PyData.eqv x' y' = PyData.eqv x y ∧ pLt x' y' = pLt x y
def SmS (x y x' y' : List PyData) : Prop := PyData.eqvAll x' y' = PyData.eqvAll x y ∧ pLts x' y' = pLts x y
theorem Sm.refl {x y : PyData} : Sm x y x y := ⟨rfl, rfl⟩
theorem SmS.refl {x y : List PyData} : SmS x y x y := ⟨rfl, rfl⟩
theorem sm_tuple {x y x' y' : List PyData} (h : SmS x y x' y') : Sm (.tuple x) (.tuple y) (.tuple x') (.tuple y') := ⟨by simpa [PyData.eqv] using h.1, by simpa [pLt] using h.2⟩
theorem smS_cons {x y x' y' : PyData} {k l k' l' : List PyData} (h : Sm x y x' y') (t : PyData.eqv x y = true → SmS k l k' l') : SmS (x :: k) (y :: l) (x' :: k') (y' :: l') := by
  cases e : PyData.eqv x y with
  | true =>
    obtain ⟨t1, t2⟩ := t e
    exact ⟨by simp [PyData.eqvAll, h.1, e, t1], by simp [pLts, h.1, e, t2]⟩
  | false => exact ⟨by simp [PyData.eqvAll, h.1, e], by simp [pLts, h.1, e, h.2]⟩
theorem sm_none {s1 s2 r1 r2 : Int} {k l k' l' : List PyData} (h : r1 ≠ r2) : Sm (.tuple (.int s1 :: .int r1 :: k)) (.tuple (.int s2 :: .int r2 :: l)) (.tuple (.int s1 :: .int r1 :: k')) (.tuple (.int s2 :: .int r2 :: l')) :=
  sm_tuple (smS_cons .refl fun _ => smS_cons .refl fun e => absurd (by simpa [PyData.eqv] using e) h)
theorem sm_leaf {s r : Int} {x y x' y' : PyData} (h : Sm x y x' y') : Sm (.tuple [.int s, .int r, x, .tuple []]) (.tuple [.int s, .int r, y, .tuple []]) (.tuple [.int s, .int r, x', .tuple []]) (.tuple [.int s, .int r, y', .tuple []]) :=
  sm_tuple (smS_cons .refl fun _ => smS_cons .refl fun _ => smS_cons h fun _ => .refl)
theorem sm_body {s1 s2 r : Int} {x y : PyData} {k l k' l' : List PyData} (h : SmS k l k' l') : Sm (.tuple [.int s1, .int r, x, .tuple k]) (.tuple [.int s2, .int r, y, .tuple l]) (.tuple [.int s1, .int r, x, .tuple k']) (.tuple [.int s2, .int r, y, .tuple l']) :=
  sm_tuple (smS_cons .refl fun _ => smS_cons .refl fun _ => smS_cons .refl fun _ => smS_cons (sm_tuple h) fun _ => .refl)
abbrev Pa.sh (a t : Nat) (p : Pa) : Pa := p.raised a 0 t
abbrev Pl.sh (a t : Nat) (p : Pl) : Pl := p.raised a 0 t
theorem sh_int (a t n m : Nat) : Sm (.int (n : Int)) (.int (m : Int)) (.int ((if t ≤ n then n + a else n : Nat) : Int)) (.int ((if t ≤ m then m + a else m : Nat) : Int)) := by
  have e1 : ∀ i j : Int, PyData.eqv (.int i) (.int j) = decide (i = j) := fun i j => by
    by_cases h : i = j <;> simp [PyData.eqv, h]
  have e2 : ∀ i j : Int, pLt (.int i) (.int j) = some (decide (i < j)) := fun i j => rfl
  unfold Sm
  rw [e1, e1, e2, e2]
  refine ⟨?_, congrArg some ?_⟩
  · rw [decide_eq_decide]
    split <;> split <;> omega
  · rw [decide_eq_decide]
    split <;> split <;> omega
theorem sh_got (a t n : Nat) : (Pa.got n).sh a t = .got (if t ≤ n then n + a else n) := by
  simp only [Pa.sh, Pa.raised, Nat.add_zero]
  split <;> rfl
mutual
theorem Pa.sm (a : Nat) : ∀ (p q : Pa) (t : Nat), Sm p.key.py q.key.py (p.sh a t).key.py (q.sh a t).key.py
  | .name x, q, t => by
    cases q with
    | got n => rw [sh_got]; exact sm_none (by decide)
    | name y => exact .refl
    | mark n => exact .refl
    | letter y c =>
      simp only [Pa.sh, Pa.raised, Pa.key, D.py, D.pyAll, Pl.raised_size]
      exact sm_none (by decide)
    | wait y c =>
      simp only [Pa.sh, Pa.raised, Pa.key, D.py, D.pyAll, Pl.raised_size]
      exact sm_none (by decide)
  | .mark x, q, t => by
    cases q with
    | got n => rw [sh_got]; exact sm_none (by decide)
    | name y => exact .refl
    | mark n => exact .refl
    | letter y c =>
      simp only [Pa.sh, Pa.raised, Pa.key, D.py, D.pyAll, Pl.raised_size]
      exact sm_none (by decide)
    | wait y c =>
      simp only [Pa.sh, Pa.raised, Pa.key, D.py, D.pyAll, Pl.raised_size]
      exact sm_none (by decide)
  | .got x, q, t => by
    cases q with
    | got n => rw [sh_got, sh_got]; exact sm_leaf (sh_int a t x n)
    | name y => rw [sh_got]; exact sm_none (by decide)
    | mark n => rw [sh_got]; exact sm_none (by decide)
    | letter y c =>
      rw [sh_got]
      simp only [Pa.sh, Pa.raised, Pa.key, D.py, D.pyAll, Pl.raised_size]
      exact sm_none (by decide)
    | wait y c =>
      rw [sh_got]
      simp only [Pa.sh, Pa.raised, Pa.key, D.py, D.pyAll, Pl.raised_size]
      exact sm_none (by decide)
  | .letter x b, q, t => by
    cases q with
    | got n =>
      rw [sh_got]
      simp only [Pa.sh, Pa.raised, Pa.key, D.py, D.pyAll, Pl.raised_size]
      exact sm_none (by decide)
    | letter y c =>
      have h := Pl.sm a b c t
      simp only [Pa.sh, Pa.raised, Pa.key, D.py, D.pyAll, Pl.raised_size]
      exact sm_body h
    | _ =>
      simp only [Pa.sh, Pa.raised, Pa.key, D.py, D.pyAll, Pl.raised_size]
      exact sm_none (by decide)
  | .wait x b, q, t => by
    cases q with
    | got n =>
      rw [sh_got]
      simp only [Pa.sh, Pa.raised, Pa.key, D.py, D.pyAll, Pl.raised_size]
      exact sm_none (by decide)
    | wait y c =>
      have h := Pl.sm a b c (t + 1)
      simp only [Pa.sh, Pa.raised, Pa.key, D.py, D.pyAll, Pl.raised_size]
      exact sm_body h
    | _ =>
      simp only [Pa.sh, Pa.raised, Pa.key, D.py, D.pyAll, Pl.raised_size]
      exact sm_none (by decide)
theorem Pl.sm (a : Nat) : ∀ (p q : Pl) (t : Nat), SmS (D.pyAll p.keys) (D.pyAll q.keys) (D.pyAll (p.sh a t).keys) (D.pyAll (q.sh a t).keys)
  | .nil, q, t => by
    cases q with
    | nil => exact .refl
    | cons d r s => exact ⟨rfl, rfl⟩
  | .cons c p r, q, t => by
    cases q with
    | nil => exact ⟨rfl, rfl⟩
    | cons d q s => exact smS_cons (sm_tuple (smS_cons (Pa.sm a p q t) fun _ => .refl)) fun _ => Pl.sm a r s t
end
instance : DecidableEq Pa := fun p q => decidable_of_iff (beqP p q = true) beqP_iff
end Dl
namespace Dl
open PySem PySem.Spec PyProof.Rows L2 NdefX
def insI (x : It) : List It → List It
  | [] => [x]
  | y :: r => if klt y.2 x.2 = true then y :: insI x r else x :: y :: r
def sortI : List It → List It
  | [] => []
  | x :: l => insI x (sortI l)
def SS (l : List It) : Prop := l.Pairwise fun a b => klt a.2 b.2 = true
def posI (l : List It) : Prop := ∀ i ∈ l, 1 ≤ i.1
theorem insI_perm (x : It) : ∀ l : List It, (insI x l).Perm (x :: l)
  | [] => List.Perm.refl _
  | y :: r => by
    unfold insI
    split
    · exact ((insI_perm x r).cons y).trans (List.Perm.swap x y r)
    · exact List.Perm.refl _
theorem sortI_perm : ∀ l : List It, (sortI l).Perm l
  | [] => List.Perm.refl _
  | x :: l => (insI_perm x (sortI l)).trans ((sortI_perm l).cons x)
def jg (c : Nat) (p : Pa) : List It → List It
  | [] => [(c, p)]
  | (d, q) :: r => if p = q then jg (c + d) p r else (c, p) :: jg d q r
def joinL : List It → List It
  | [] => []
  | (c, p) :: r => jg c p r
def J (l : List It) : List It := joinL (sortI l)
def cnt (p : Pa) : List It → Nat
  | [] => 0
  | i :: r => (if i.2 = p then i.1 else 0) + cnt p r
theorem jg_mem : ∀ {r : List It} {c : Nat} {p : Pa} {i : It}, i ∈ jg c p r → i.2 = p ∨ ∃ j ∈ r, j.2 = i.2
  | [], c, p, i, h => .inl (by simp only [jg, List.mem_singleton] at h; rw [h])
  | (d, q) :: r, c, p, i, h => by
    unfold jg at h
    split at h
    · rcases jg_mem h with e | ⟨j, hj, e⟩
      · exact .inl e
      · exact .inr ⟨j, .tail _ hj, e⟩
    · rcases List.mem_cons.mp h with rfl | h
      · exact .inl rfl
      · rcases jg_mem h with e | ⟨j, hj, e⟩
        · exact .inr ⟨(d, q), .head _, e.symm⟩
        · exact .inr ⟨j, .tail _ hj, e⟩
theorem J_mem {l : List It} {i : It} (h : i ∈ J l) : ∃ j ∈ l, j.2 = i.2 := by
  unfold J at h
  have pm := sortI_perm l
  generalize sortI l = m at *
  cases m with
  | nil => cases h
  | cons a r =>
    obtain ⟨c, p⟩ := a
    rcases jg_mem (show i ∈ jg c p r from h) with e | ⟨j, hj, e⟩
    · exact ⟨(c, p), pm.mem_iff.mp (.head _), e.symm⟩
    · exact ⟨j, pm.mem_iff.mp (.tail _ hj), e⟩
theorem jg_pos : ∀ {r : List It} {c : Nat} {p : Pa}, 1 ≤ c → posI r → posI (jg c p r)
  | [], c, p, hc, _ => fun i hi => by simp only [jg, List.mem_singleton] at hi; rw [hi]; exact hc
  | (d, q) :: r, c, p, hc, hr => by
    unfold jg
    have hd : 1 ≤ d := hr (d, q) (.head _)
    have hr' : posI r := fun i hi => hr i (.tail _ hi)
    split
    · exact jg_pos (by omega) hr'
    · intro i hi
      rcases List.mem_cons.mp hi with rfl | hi
      · exact hc
      · exact jg_pos hd hr' i hi
theorem J_pos {l : List It} (h : posI l) : posI (J l) := by
  unfold J
  have h2 : posI (sortI l) := fun i hi => h i ((sortI_perm l).mem_iff.mp hi)
  generalize sortI l = m at *
  cases m with
  | nil => exact fun i hi => nomatch hi
  | cons a r => exact jg_pos (h2 a (.head _)) fun i hi => h2 i (.tail _ hi)
theorem szL_perm {a b : List It} (h : a.Perm b) : szL a = szL b := by
  unfold szL
  exact (h.map _).sum_nat
theorem jg_sz : ∀ (r : List It) (c : Nat) (p : Pa), szL (jg c p r) = c * p.size + szL r
  | [], c, p => by simp [jg, szL]
  | (d, q) :: r, c, p => by
    unfold jg
    split
    · rename_i e
      subst e
      rw [jg_sz r, szL_cons]
      simp only [Nat.add_mul]
      omega
    · rw [szL_cons, jg_sz r, szL_cons]
theorem J_sz (l : List It) : szL (J l) = szL l := by
  unfold J
  rw [← szL_perm (sortI_perm l)]
  generalize sortI l = m
  cases m with
  | nil => rfl
  | cons a r => exact (jg_sz r a.1 a.2).trans (szL_cons a r).symm
theorem wiL_perm {a b : List It} (h : a.Perm b) : wiL a = wiL b := by
  unfold wiL
  exact (h.map _).sum_nat
theorem jg_wi : ∀ (r : List It) (c : Nat) (p : Pa), wiL (jg c p r) ≤ 1 + p.within.length + wiL r
  | [], c, p => by simp [jg, wiL]
  | (d, q) :: r, c, p => by
    unfold jg
    split
    · have := jg_wi r (c + d) p
      rw [wiL_cons]
      omega
    · have := jg_wi r d q
      rw [wiL_cons, wiL_cons]
      simp only
      omega
theorem J_wi (l : List It) : wiL (J l) ≤ wiL l := by
  unfold J
  rw [← wiL_perm (sortI_perm l)]
  generalize sortI l = m
  cases m with
  | nil => exact Nat.le_refl _
  | cons a r => exact Nat.le_trans (jg_wi r a.1 a.2) (Nat.le_of_eq (wiL_cons a r).symm)
theorem J_okI {k : Nat} {l : List It} (h : l.all (okI k) = true) : (J l).all (okI k) = true := by
  rw [List.all_eq_true] at *
  have hp : posI l := fun i hi => by have := h i hi; unfold okI at this; simp at this; exact this.1
  intro i hi
  obtain ⟨j, hj, e⟩ := J_mem hi
  have h1 := h j hj
  have h2 := J_pos hp i hi
  unfold okI at *
  simp only [Bool.and_eq_true, decide_eq_true_eq] at *
  exact ⟨h2, by rw [← e]; exact h1.2⟩
end Dl
namespace Dl
open PySem PySem.Spec PyProof.Rows L2 NdefX
def foldL (x : Str) (l : List It) : Nat × Pa := match l.getLast? with
  | some (m, p) => if p = .wait x (ofL l.dropLast).up then (m + 1, .wait x (ofL l.dropLast)) else (1, .wait x (ofL l))
  | none => (1, .wait x (ofL l))
mutual
def Pa.N : Pa → Nat × Pa
  | .letter x b => (1, .letter x (ofL (J b.NI)))
  | .wait x b => foldL x (J b.NI)
  | .name x => (1, .name x)
  | .mark n => (1, .mark n)
  | .got n => (1, .got n)
def Pl.NI : Pl → List It
  | .nil => []
  | .cons c p r => (c * p.N.1, p.N.2) :: r.NI
end
def Pl.N (p : Pl) : Pl := ofL (J p.NI)
theorem foldL_last {x : Str} {r : List It} {M : Nat} : foldL x (r ++ [(M, .wait x (ofL r).up)]) = (M + 1, .wait x (ofL r)) := by
  simp [foldL]
theorem foldL_cases (x : Str) (l : List It) : foldL x l = (1, .wait x (ofL l)) ∨ ∃ r M, l = r ++ [(M, .wait x (ofL r).up)] ∧ foldL x l = (M + 1, .wait x (ofL r)) := by
  rcases List.eq_nil_or_concat l with h | ⟨r, ⟨M, p⟩, h⟩
  · subst h
    exact .inl rfl
  · rw [List.concat_eq_append] at h
    subst h
    by_cases e : p = .wait x (ofL r).up
    · subst e
      exact .inr ⟨r, M, rfl, foldL_last⟩
    · left
      simp [foldL, e]
mutual
theorem Pa.rs (a l : Nat) : ∀ (p : Pa) (k : Nat), p.raised a l k = p.raised a 0 (k + l)
  | .name y, k => rfl
  | .mark n, k => rfl
  | .got n, k => rfl
  | .letter d b, k => by simp only [Pa.raised]; rw [Pl.rs a l b k]
  | .wait d b, k => by simp only [Pa.raised]; rw [Pl.rs a l b (k + 1), show k + 1 + l = k + l + 1 by omega]
theorem Pl.rs (a l : Nat) : ∀ (p : Pl) (k : Nat), p.raised a l k = p.raised a 0 (k + l)
  | .nil, k => rfl
  | .cons c p r, k => by simp only [Pl.raised]; rw [Pa.rs a l p k, Pl.rs a l r k]
end
theorem N_pos (p : Pa) : 1 ≤ p.N.1 := by
  cases p with
  | wait x b =>
    rcases foldL_cases x (J b.NI) with h | ⟨r, M, _, h⟩ <;> simp only [Pa.N, h] <;> omega
  | _ => exact Nat.le_refl _
mutual
theorem Pa.N_size : ∀ p : Pa, p.N.1 * p.N.2.size = p.size
  | .name y => rfl
  | .mark n => rfl
  | .got n => rfl
  | .letter d b => by
    have e := Pl.NI_size b
    simp only [Pa.N, Pa.size, size_ofL, J_sz, e, Nat.one_mul]
  | .wait d b => by
    have e := Pl.NI_size b
    have e2 := J_sz b.NI
    simp only [Pa.N, Pa.size]
    rcases foldL_cases d (J b.NI) with h | ⟨r, M, hl, h⟩
    · rw [h]
      simp only [Pa.size, size_ofL, e2, e, Nat.one_mul]
    · rw [h]
      rw [hl] at e2
      simp only [szL_app, szL_cons, szL_nil, Pa.size, Pl.raised_size, size_ofL] at e2 ⊢
      rw [← e, ← e2]
      simp only [Nat.add_mul, Nat.mul_add, Nat.mul_one, Nat.one_mul]
      omega
theorem Pl.NI_size : ∀ p : Pl, szL p.NI = p.size
  | .nil => rfl
  | .cons c p r => by
    have h1 := Pa.N_size p
    have h2 := Pl.NI_size r
    simp only [Pl.NI, szL_cons, Pl.size, h2, Nat.mul_assoc, h1]
end
theorem Pl.N_size (p : Pl) : p.N.size = p.size := by unfold Pl.N; rw [size_ofL, J_sz, Pl.NI_size]
mutual
theorem Pa.N_ok : ∀ (p : Pa) (k : Nat), p.ok k = true → p.N.2.ok k = true
  | .name y, k, h => h
  | .mark n, k, h => h
  | .got n, k, h => h
  | .letter d b, k, h => by
    simp only [Pa.ok, Bool.and_eq_true] at h
    have e := Pl.NI_ok b k h.2
    simp only [Pa.N, Pa.ok, Bool.and_eq_true, ok_ofL]
    exact ⟨h.1, J_okI e⟩
  | .wait d b, k, h => by
    simp only [Pa.ok, Bool.and_eq_true] at h
    have e := J_okI (Pl.NI_ok b (k + 1) h.2)
    simp only [Pa.N]
    rcases foldL_cases d (J b.NI) with g | ⟨r, M, hl, g⟩
    · rw [g]
      simp only [Pa.ok, Bool.and_eq_true, ok_ofL]
      exact ⟨h.1, e⟩
    · rw [g]
      rw [hl, List.all_append, Bool.and_eq_true] at e
      simp only [Pa.ok, Bool.and_eq_true, ok_ofL]
      exact ⟨h.1, e.1⟩
theorem Pl.NI_ok : ∀ (p : Pl) (k : Nat), p.ok k = true → p.NI.all (okI k) = true
  | .nil, k, h => rfl
  | .cons c p r, k, h => by
    simp only [Pl.ok, Bool.and_eq_true, decide_eq_true_eq] at h
    have h1 := Pa.N_ok p k h.1.2
    have h2 := Pl.NI_ok r k h.2
    have := N_pos p
    simp only [Pl.NI, List.all_cons, Bool.and_eq_true, h2, and_true, okI, h1, decide_eq_true_eq]
    exact Nat.mul_pos h.1.1 this
end
theorem Pl.N_ok {p : Pl} {k : Nat} (h : p.ok k = true) : p.N.ok k = true := by unfold Pl.N; rw [ok_ofL]; exact J_okI (Pl.NI_ok p k h)
mutual
theorem Pa.N_wi : ∀ p : Pa, p.N.2.within.length ≤ p.within.length
  | .name y => Nat.le_refl _
  | .mark n => Nat.le_refl _
  | .got n => Nat.le_refl _
  | .letter d b => by
    have e := Pl.NI_wi b
    have := J_wi b.NI
    simp only [Pa.N, Pa.within, within_ofL]
    omega
  | .wait d b => by
    have e := Pl.NI_wi b
    have e2 := J_wi b.NI
    simp only [Pa.N]
    rcases foldL_cases d (J b.NI) with g | ⟨r, M, hl, g⟩
    · rw [g]
      simp only [Pa.within, within_ofL]
      omega
    · rw [g]
      rw [hl, wiL_app] at e2
      simp only [Pa.within, within_ofL]
      omega
theorem Pl.NI_wi : ∀ p : Pl, wiL p.NI ≤ p.within.length
  | .nil => Nat.le_refl _
  | .cons c p r => by
    have h1 := Pa.N_wi p
    have h2 := Pl.NI_wi r
    simp only [Pl.NI, wiL_cons, Pl.within, List.length_cons, List.length_append]
    omega
end
theorem Pl.N_wi (p : Pl) : p.N.within.length ≤ p.within.length := by unfold Pl.N; rw [within_ofL]; exact Nat.le_trans (J_wi _) (Pl.NI_wi p)
end Dl
namespace Dl
open PySem PySem.Spec PyProof.Rows L2 NdefX
mutual
def Pa.nf : Pa → Prop
  | .letter _ b => SS b.L ∧ b.nfp
  | .wait x b => SS b.L ∧ b.nfp ∧ foldL x b.L = (1, .wait x b)
  | _ => True
def Pl.nfp : Pl → Prop
  | .nil => True
  | .cons c p r => 1 ≤ c ∧ p.nf ∧ r.nfp
end
def Eqv (l m : List It) : Prop := ∀ t, cnt t (ofL l).NI = cnt t (ofL m).NI
theorem Eqv.trans {a b c : List It} (h1 : Eqv a b) (h2 : Eqv b c) : Eqv a c := fun t => (h1 t).trans (h2 t)
theorem Eqv.refl {a : List It} : Eqv a a := fun _ => rfl
end Dl
namespace Dl
open PySem PySem.Spec PyProof.Rows L2 NdefX
structure HasKy (tbl : Nat → Option DefB) : Prop extends HasLS tbl where
  t101 : tbl 101 = some ⟨1, 3, b_plan_key⟩
  t102 : tbl 102 = some ⟨1, 5, b_part_key⟩
  t108 : tbl 108 = some ⟨1, 5, b__law_key⟩
  t103 : tbl 103 = some ⟨1, 1, fun C => sRet (b_sorted_items'clo C)⟩
  t104 : tbl 104 = some ⟨1, 1, bLow 103⟩
  t105 : tbl 105 = some ⟨1, 4, b_sorted_items⟩
  t109 : tbl 109 = some ⟨1, 1, fun C => sRet (b__law_joined'clo C)⟩
  t110 : tbl 110 = some ⟨1, 1, bLow 109⟩
  t111 : tbl 111 = some ⟨1, 4, b__law_joined⟩
section
variable {tbl : Nat → Option DefB} (T : HasKy tbl)
include T
end
end Dl
namespace Dl
open PySem PySem.Spec PyProof.Rows L2 NdefX
section
variable {tbl : Nat → Option DefB} (T : HasKy tbl)
include T
end
end Dl
namespace Dl
open PySem PySem.Spec PyProof.Rows L2 NdefX
section
variable {α : Type} {A B : List α} {x : α} {i : Nat}
end
structure Fit (k : Nat) (p : Pl) : Prop where
  ok : p.ok k = true
  sz : p.size < limN
  wi : p.within.length < 16777216
theorem Fit.N {k : Nat} {p : Pl} (h : Fit k p) : Fit k p.N := ⟨Pl.N_ok h.ok, by rw [Pl.N_size]; exact h.sz, Nat.lt_of_le_of_lt (Pl.N_wi p) h.wi⟩
theorem Fit.cls {k : Nat} {p : Pl} (h : Fit k p) : p.cls := (Pl.lim_size p k h.ok h.sz).2
theorem Fit.lim {k : Nat} {p : Pl} (h : Fit k p) : p.lim := (Pl.lim_size p k h.ok h.sz).1
theorem Fit.sub {k : Nat} {l m : List It} (h : Fit k (ofL l)) (s : m.Sublist l) : Fit k (ofL m) := by
  refine ⟨?_, ?_, ?_⟩
  · have := h.ok
    rw [ok_ofL] at *
    exact List.all_eq_true.mpr fun i hi => List.all_eq_true.mp this i (s.subset hi)
  · have := h.sz
    rw [size_ofL] at *
    have e : szL m ≤ szL l := by
      clear h this
      induction s with
      | slnil => exact Nat.le_refl _
      | cons a _ ih => rw [szL_cons]; omega
      | cons_cons a _ ih => rw [szL_cons, szL_cons]; omega
    omega
  · have := h.wi
    rw [within_ofL] at *
    have e : wiL m ≤ wiL l := by
      clear h this
      induction s with
      | slnil => exact Nat.le_refl _
      | cons a _ ih => rw [wiL_cons]; omega
      | cons_cons a _ ih => rw [wiL_cons, wiL_cons]; omega
    omega
structure HasRz (tbl : Nat → Option DefB) : Prop extends HasM tbl where
  t55 : tbl 55 = some ⟨4, 4, b_raised'clo⟩
  t57 : tbl 57 = some ⟨3, 4, b_raised⟩
section
variable {tbl : Nat → Option DefB} (T : HasRz tbl)
include T
end
structure HasF (tbl : Nat → Option DefB) : Prop extends HasKy tbl, HasRz tbl where
  t106 : tbl 106 = some ⟨1, 6, b_plain_of⟩
  t107 : tbl 107 = some ⟨2, 6, b_folded⟩
instance : DecidableEq Pl := fun p q => decidable_of_iff ((D.tup p.ds).eq (.tup q.ds) = true) (Pl.eq_iff p q)
section
variable {tbl : Nat → Option DefB} (T : HasF tbl) {w : World}
include T
end
end Dl
namespace Dl
open PySem PySem.Spec PyProof.Rows L2 NdefX
mutual
def Pa.copies (old : D) : Pa → Nat
  | .letter _ b => b.copies old
  | .wait _ b => b.copies old
  | .name x => if (Pa.name x).d.eq old = true then 1 else 0
  | .mark x => if (Pa.mark x).d.eq old = true then 1 else 0
  | .got x => if (Pa.got x).d.eq old = true then 1 else 0
def Pl.copies (old : D) : Pl → Nat
  | .nil => 0
  | .cons c p r => c * p.copies old + r.copies old
end
theorem times_size {c : Nat} : ∀ p : Pl, (p.times c).size = c * p.size
  | .nil => rfl
  | .cons n p r => by simp only [Pl.times, Pl.size, times_size r, Nat.mul_add, Nat.mul_assoc]
mutual
theorem Pa.put_size (old : D) (o : Pl) : ∀ (p : Pa) (c j : Nat), (p.mapA (putF old o) j c).size + c * p.copies old = c * p.size + c * (p.copies old * o.size)
  | .name y, c, j => by
    simp only [Pa.mapA, times_size, putF, Pa.copies, Pa.size]
    split <;> simp [Pl.size, Pa.size]
    omega
  | .mark n, c, j => by
    simp only [Pa.mapA, times_size, putF, Pa.copies, Pa.size]
    split <;> simp [Pl.size, Pa.size]
    omega
  | .got n, c, j => by
    simp only [Pa.mapA, times_size, putF, Pa.copies, Pa.size]
    split <;> simp [Pl.size, Pa.size]
    omega
  | .letter d b, c, j => by
    have h := Pl.put_size old o b j
    simp only [Pa.mapA, Pl.size, Pa.size, Pa.copies, Nat.add_zero]
    rw [← Nat.mul_add, ← Nat.mul_add]
    congr 1
    omega
  | .wait d b, c, j => by
    have h := Pl.put_size old o b (j + 1)
    simp only [Pa.mapA, Pl.size, Pa.size, Pa.copies, Nat.add_zero]
    rw [← Nat.mul_add, ← Nat.mul_add]
    congr 1
    omega
theorem Pl.put_size (old : D) (o : Pl) : ∀ (p : Pl) (j : Nat), (p.mapA (putF old o) j).size + p.copies old = p.size + p.copies old * o.size
  | .nil, j => by simp [Pl.mapA, Pl.size, Pl.copies]
  | .cons c p r, j => by
    have h1 := Pa.put_size old o p c j
    have h2 := Pl.put_size old o r j
    simp only [Pl.mapA, app_size, Pl.size, Pl.copies, Nat.add_mul, Nat.mul_assoc]
    omega
end
mutual
theorem Pa.copies_le (old : D) : ∀ p : Pa, p.copies old ≤ p.size
  | .name y => by simp only [Pa.copies, Pa.size]; split <;> omega
  | .mark y => by simp only [Pa.copies, Pa.size]; split <;> omega
  | .got y => by simp only [Pa.copies, Pa.size]; split <;> omega
  | .letter d b => by have := Pl.copies_le old b; simp only [Pa.copies, Pa.size]; omega
  | .wait d b => by have := Pl.copies_le old b; simp only [Pa.copies, Pa.size]; omega
theorem Pl.copies_le (old : D) : ∀ p : Pl, p.copies old ≤ p.size
  | .nil => Nat.le_refl _
  | .cons c p r => by
    have h1 := Nat.mul_le_mul_left c (Pa.copies_le old p)
    have h2 := Pl.copies_le old r
    simp only [Pl.copies, Pl.size]; omega
end
mutual
def Pa.has (old : D) : Pa → Bool
  | .letter _ b => b.has old
  | .wait _ b => b.has old
  | .name x => (Pa.name x).d.eq old
  | .mark x => (Pa.mark x).d.eq old
  | .got x => (Pa.got x).d.eq old
def Pl.has (old : D) : Pl → Bool
  | .nil => false
  | .cons _ p r => p.has old || r.has old
end
mutual
theorem Pa.put_none (old : D) (o : Pl) : ∀ (p : Pa) (c j : Nat), p.has old = false → p.mapA (putF old o) j c = .cons c p .nil
  | .name y, c, j, h => by
    simp only [Pa.has] at h
    simp [Pa.mapA, putF, h, Pl.times]
  | .mark y, c, j, h => by
    simp only [Pa.has] at h
    simp [Pa.mapA, putF, h, Pl.times]
  | .got y, c, j, h => by
    simp only [Pa.has] at h
    simp [Pa.mapA, putF, h, Pl.times]
  | .letter d b, c, j, h => by
    simp only [Pa.has] at h
    simp [Pa.mapA, Pl.put_none old o b j h]
  | .wait d b, c, j, h => by
    simp only [Pa.has] at h
    simp [Pa.mapA, Pl.put_none old o b (j + 1) h]
theorem Pl.put_none (old : D) (o : Pl) : ∀ (p : Pl) (j : Nat), p.has old = false → p.mapA (putF old o) j = p
  | .nil, j, h => rfl
  | .cons c p r, j, h => by
    simp only [Pl.has, Bool.or_eq_false_iff] at h
    simp [Pl.mapA, Pa.put_none old o p c j h.1, Pl.put_none old o r j h.2, Pl.app]
end
theorem app_has (old : D) : ∀ p q : Pl, (p.app q).has old = (p.has old || q.has old)
  | .nil, q => by simp [Pl.app, Pl.has]
  | .cons c p r, q => by simp [Pl.app, Pl.has, app_has old r q, Bool.or_assoc]
theorem times_has (old : D) {c : Nat} : ∀ p : Pl, (p.times c).has old = p.has old
  | .nil => rfl
  | .cons n p r => by simp [Pl.times, Pl.has, times_has old r]
mutual
theorem Pa.put_has (old z : D) (o : Pl) (ho : o.has z = false) : ∀ (p : Pa) (c j : Nat), (p.has z = true → z = old) → (p.mapA (putF old o) j c).has z = false
  | .name y, c, j, h => by
    simp only [Pa.has] at h
    simp only [Pa.mapA, times_has, putF]
    split
    · exact ho
    · rename_i hn
      simp only [Pl.has, Pa.has, Bool.or_false]
      cases q : (Pa.name y).d.eq z with
      | false => rfl
      | true => have := h q; subst this; exact absurd q hn
  | .mark y, c, j, h => by
    simp only [Pa.has] at h
    simp only [Pa.mapA, times_has, putF]
    split
    · exact ho
    · rename_i hn
      simp only [Pl.has, Pa.has, Bool.or_false]
      cases q : (Pa.mark y).d.eq z with
      | false => rfl
      | true => have := h q; subst this; exact absurd q hn
  | .got y, c, j, h => by
    simp only [Pa.has] at h
    simp only [Pa.mapA, times_has, putF]
    split
    · exact ho
    · rename_i hn
      simp only [Pl.has, Pa.has, Bool.or_false]
      cases q : (Pa.got y).d.eq z with
      | false => rfl
      | true => have := h q; subst this; exact absurd q hn
  | .letter d b, c, j, h => by
    simp only [Pa.has] at h
    simp [Pa.mapA, Pl.has, Pa.has, Pl.put_has old z o ho b j h]
  | .wait d b, c, j, h => by
    simp only [Pa.has] at h
    simp [Pa.mapA, Pl.has, Pa.has, Pl.put_has old z o ho b (j + 1) h]
theorem Pl.put_has (old z : D) (o : Pl) (ho : o.has z = false) : ∀ (p : Pl) (j : Nat), (p.has z = true → z = old) → (p.mapA (putF old o) j).has z = false
  | .nil, j, h => rfl
  | .cons c p r, j, h => by
    have h1 : p.has z = true → z = old := fun q => h (by simp [Pl.has, q])
    have h2 : r.has z = true → z = old := fun q => h (by simp [Pl.has, q])
    simp [Pl.mapA, app_has, Pa.put_has old z o ho p c j h1, Pl.put_has old z o ho r j h2]
end
end Dl
namespace Dl
open PySem PySem.Spec PyProof.Rows L2 NdefX
structure HasLR (tbl : Nat → Option DefB) : Prop where
  t75 : tbl 75 = some ⟨3, 8, b__law_replaced⟩
  t76 : tbl 76 = some ⟨2, 5, b__law_copies⟩
theorem node_ne {old a b c : D} (h : Old old) : (D.tup [a, b, c]).eq old = false := by
  obtain ⟨x, y, rfl, _, _⟩ := h
  simp
section
variable {tbl : Nat → Option DefB} (T : HasLR tbl) {w : World} {old : D} {o : Pl} (hold : Old old) (hoc : o.cl)
include T hold hoc
omit hoc
end
end Dl
namespace Dl
open PySem PySem.Spec PyProof.Rows L2 NdefX
def plc (old : D) (l : List Pa) : Nat := (l.filter fun q => q.d.eq old).length
theorem plc_nil (old : D) : plc old [] = 0 := rfl
theorem plc_cons (old : D) (q : Pa) (l : List Pa) : plc old (q :: l) = (if q.d.eq old = true then 1 else 0) + plc old l := by
  unfold plc
  rw [List.filter_cons]
  split <;> simp <;> omega
theorem plc_app (old : D) (a b : List Pa) : plc old (a ++ b) = plc old a + plc old b := by
  unfold plc
  rw [List.filter_append, List.length_append]
theorem node_eq {old : D} (h : Old old) (x : Str) (b : Pl) : (Pa.letter x b).d.eq old = false ∧ (Pa.wait x b).d.eq old = false := ⟨node_ne h, node_ne h⟩
mutual
theorem Pa.put_cnt {old : D} {o : Pl} (h : Old old) : ∀ (p : Pa) (c k : Nat), (p.mapA (putF old o) k c).within.length + plc old (p :: p.within) = p.within.length + 1 + plc old (p :: p.within) * o.within.length
  | .name y, c, k => by
    rw [plc_cons]
    simp only [Pa.mapA, times_within, putF, Pa.within, plc_nil]
    split <;> simp [Pl.within, Pa.within] <;> omega
  | .mark y, c, k => by
    rw [plc_cons]
    simp only [Pa.mapA, times_within, putF, Pa.within, plc_nil]
    split <;> simp [Pl.within, Pa.within] <;> omega
  | .got y, c, k => by
    rw [plc_cons]
    simp only [Pa.mapA, times_within, putF, Pa.within, plc_nil]
    split <;> simp [Pl.within, Pa.within] <;> omega
  | .letter x b, c, k => by
    have i := Pl.put_cnt (o := o) h b k
    rw [plc_cons, (node_eq h x b).1]
    simp only [Pa.mapA, Pl.within, Pa.within, List.length_cons, List.length_append, List.length_nil, Bool.false_eq_true, if_false, Nat.zero_add]
    omega
  | .wait x b, c, k => by
    have i := Pl.put_cnt (o := o) h b (k + 1)
    rw [plc_cons, (node_eq h x b).2]
    simp only [Pa.mapA, Pl.within, Pa.within, List.length_cons, List.length_append, List.length_nil, Bool.false_eq_true, if_false, Nat.zero_add]
    omega
theorem Pl.put_cnt {old : D} {o : Pl} (h : Old old) : ∀ (p : Pl) (k : Nat), (p.mapA (putF old o) k).within.length + plc old p.within = p.within.length + plc old p.within * o.within.length
  | .nil, k => by simp [Pl.mapA, Pl.within, plc_nil]
  | .cons c p r, k => by
    have i1 := Pa.put_cnt (o := o) h p c k
    have i2 := Pl.put_cnt (o := o) h r k
    have e : (Pl.cons c p r).within = (p :: p.within) ++ r.within := by simp [Pl.within]
    rw [e, plc_app, Nat.add_mul, List.length_append, List.length_cons]
    simp only [Pl.mapA, app_within, List.length_append]
    omega
end
theorem put_wi {old : D} {o p : Pl} (h : Old old) : (p.put old o).within.length + plc old p.within = p.within.length + plc old p.within * o.within.length := Pl.put_cnt h p 0
structure HasL6 (tbl : Nat → Option DefB) : Prop where
  t71 : tbl 71 = some ⟨1, 3, b__law_deep⟩
  t320 : tbl 320 = some ⟨1, 4, b__law_items⟩
  t321 : tbl 321 = some ⟨3, 9, b__law_at⟩
section
variable {tbl : Nat → Option DefB} (T : HasL6 tbl)
include T
end
end Dl
namespace Dl
open PySem PySem.Spec PyProof.Rows L2 NdefX
def Pa.dk : Pa → Option Str
  | .letter x _ => some x
  | .wait x _ => some x
  | _ => none
def Pa.mk : Pa → Option Int
  | .mark n => some n
  | _ => none
def Pl.drs (p : Pl) : List Str := p.within.filterMap Pa.dk
def Pl.mks (p : Pl) : List Int := p.within.filterMap Pa.mk
def addZ (es : List Int) (k : Int) : List Int := if k ∈ es then es else es ++ [k]
def dedupZ (l : List Int) : List Int := l.foldl addZ []
theorem lenZ : ∀ (l acc : List Int), (l.foldl addZ acc).length ≤ acc.length + l.length
  | [], acc => by simp
  | x :: l, acc => by
    have := lenZ l (addZ acc x)
    rw [List.foldl_cons]
    have h : (addZ acc x).length ≤ acc.length + 1 := by
      unfold addZ
      split <;> simp
    simp only [List.length_cons]
    omega
theorem keysOf_s (l : List Str) : keysOf (l.map .str) = some (l.map Sum.inr) := by
  induction l with
  | nil => rfl
  | cons x l ih => simp [keysOf, ih]
theorem keysOf_i (l : List Int) : keysOf (l.map .int) = some (l.map Sum.inl) := by
  induction l with
  | nil => rfl
  | cons x l ih => simp [keysOf, ih]
theorem foldK_s : ∀ (l acc : List Str), (l.map Sum.inr).foldl keysPut (acc.map Sum.inr) = (l.foldl keysAdd acc).map (Sum.inr : Str → Key)
  | [], acc => rfl
  | x :: l, acc => by
    have e : keysPut (acc.map Sum.inr) (Sum.inr x) = (keysAdd acc x).map Sum.inr := by
      unfold keysPut keysAdd
      by_cases h : x ∈ acc
      · rw [if_pos h, if_pos (List.mem_map.mpr ⟨x, h, rfl⟩)]
      · rw [if_neg h, if_neg fun z => by
          obtain ⟨y, hy, e⟩ := List.mem_map.mp z
          cases e
          exact h hy]
        simp
    rw [List.map_cons, List.foldl_cons, List.foldl_cons, e, foldK_s l]
theorem foldK_i : ∀ (l acc : List Int), (l.map Sum.inl).foldl keysPut (acc.map Sum.inl) = (l.foldl addZ acc).map (Sum.inl : Int → Key)
  | [], acc => rfl
  | x :: l, acc => by
    have e : keysPut (acc.map Sum.inl) (Sum.inl x) = (addZ acc x).map Sum.inl := by
      unfold keysPut addZ
      by_cases h : x ∈ acc
      · rw [if_pos h, if_pos (List.mem_map.mpr ⟨x, h, rfl⟩)]
      · rw [if_neg h, if_neg fun z => by
          obtain ⟨y, hy, e⟩ := List.mem_map.mp z
          cases e
          exact h hy]
        simp
    rw [List.map_cons, List.foldl_cons, List.foldl_cons, e, foldK_i l]
theorem ne_lm : ¬ (Str.ofString "letter" = Str.ofString "mark") := by decide +kernel
theorem ne_wm : ¬ (Str.ofString "wait" = Str.ofString "mark") := by decide +kernel
theorem ne_nmk : ¬ (Str.ofString "name" = Str.ofString "mark") := by decide +kernel
theorem ne_gm : ¬ (Str.ofString "got" = Str.ofString "mark") := by decide +kernel
theorem labelsN_go {rm : Nat} {P : D} {w : World} : ∀ l : List Pa, compGo (gN 2) (dTst (dBin (gEq rm) (dBin gIx (dName 2) (dC (.int 0))) (dName 1))) (dBin gIx (dName 2) (dC (.int 1))) [.dat P, .dat (.str "mark"), .un] (l.map Pa.d) w = .ok ((l.filterMap Pa.mk).map .int) w
  | [] => rfl
  | p :: l => by
    have ih := labelsN_go (rm := rm) (P := P) (w := w) l
    cases p <;> simp [go_cons, Pa.d, at_0, at_1, ih, List.filterMap_cons, Pa.mk, ne_lm, ne_wm, ne_nmk, ne_gm]
theorem doors_go {rm : Nat} {P : D} {w : World} : ∀ l : List Pa, compGo (gN 1) (dTst (dBin (gEq rm) (dBlt cLen (rCons (dName 1) rNil)) (dC (.int 3)))) (dBin gIx (dName 1) (dC (.int 1))) [.dat P, .un] (l.map Pa.d) w = .ok ((l.filterMap Pa.dk).map .str) w
  | [] => rfl
  | p :: l => by
    have ih := doors_go (rm := rm) (P := P) (w := w) l
    cases p <;> simp [go_cons, Pa.d, at_0, at_1, ih, List.filterMap_cons, Pa.dk]
structure HasLb (tbl : Nat → Option DefB) : Prop extends HasK tbl, HasW tbl, HasZ0 tbl where
  t124 : tbl 124 = some ⟨2, 3, b_labels_of_124⟩
  t128 : tbl 128 = some ⟨1, 1, b_names_128⟩
  t127 : tbl 127 = some ⟨1, 1, b_marks_127⟩
  t54 : tbl 54 = some ⟨1, 2, b_doors_of⟩
  t68 : tbl 68 = some ⟨1, 1, b_doors⟩
theorem sortA_s {l : List Str} (h : l.length < 64) : cSortA [.lst (l.map .str)] = some (.fresh ((sortS l).map .str)) := by
  simp only [cSortA, strs_map]
  rw [if_pos h]
theorem ints_map (l : List Int) : intsOf (l.map .int) = some l := by
  induction l with
  | nil => rfl
  | cons x l ih => simp [intsOf, ih]
theorem sortA_i {l : List Int} (h : l.length < 64) : cSortA [.lst (l.map .int)] = some (.fresh ((sortZ l).map .int)) := by
  cases l with
  | nil => simp [cSortA, strsOf, sortS, sortZ]
  | cons x l =>
    have e : strsOf ((x :: l).map D.int) = none := rfl
    simp only [cSortA, e, ints_map]
    rw [if_pos h]
section
variable {tbl : Nat → Option DefB} (T : HasLb tbl)
include T
theorem c_labelsN {p : Pl} {n : Nat} {w : World} (hn : p.dep + 2 ≤ n) (hz : p.within.length < 64) : (Den tbl n).call 124 [.dat p.d, .dat (.str "name")] w = .ok (.fresh ((sortS (dedup p.nms)).map .str)) w := by
  obtain ⟨m, rfl, hm⟩ := succ_of (k := p.dep + 1) hn
  rw [den_succ T.t124]
  have e := c_within' T.toHasW p m w (by omega) (by omega)
  have g := labels_go (rm := (Den tbl m).room) (P := p.d) (w := w) p.within
  simp only [Pl.d] at e g
  have hs := keysOf_s p.nms
  have hl : (dedup p.nms).length < 64 := by
    have h1 := dedup_len p.nms
    have h2 : p.nms.length ≤ p.within.length := by unfold Pl.nms; exact List.length_filterMap_le _ _
    omega
  have hk := foldK_s p.nms []
  have hc := sortA_s hl
  have hm : (dedup p.nms).map D.str = ((dedup p.nms).map Sum.inr).map kD := by rw [List.map_map]; rfl
  rw [hm] at hc
  unfold Pl.nms at *
  unfold dedup at *
  rw [List.map_nil] at hk
  simp [runB, initE, toSl, b_labels_of_124, -List.map_map, e, g, hs, hk, hc]
theorem c_labelsM {p : Pl} {n : Nat} {w : World} (hn : p.dep + 2 ≤ n) (hz : p.within.length < 64) : (Den tbl n).call 124 [.dat p.d, .dat (.str "mark")] w = .ok (.fresh ((sortZ (dedupZ p.mks)).map .int)) w := by
  obtain ⟨m, rfl, hm⟩ := succ_of (k := p.dep + 1) hn
  rw [den_succ T.t124]
  have e := c_within' T.toHasW p m w (by omega) (by omega)
  have g := labelsN_go (rm := (Den tbl m).room) (P := p.d) (w := w) p.within
  simp only [Pl.d] at e g
  have hs := keysOf_i p.mks
  have hl : (dedupZ p.mks).length < 64 := by
    have h1 := lenZ p.mks []
    have h2 : p.mks.length ≤ p.within.length := by unfold Pl.mks; exact List.length_filterMap_le _ _
    unfold dedupZ
    simp only [List.length_nil] at h1
    omega
  have hk := foldK_i p.mks []
  have hc := sortA_i hl
  have hm : (dedupZ p.mks).map D.int = ((dedupZ p.mks).map Sum.inl).map kD := by rw [List.map_map]; rfl
  rw [hm] at hc
  unfold Pl.mks at *
  unfold dedupZ at *
  rw [List.map_nil] at hk
  simp [runB, initE, toSl, b_labels_of_124, -List.map_map, e, g, hs, hk, hc]
theorem c_doorsOf {p : Pl} {n : Nat} {w : World} (hn : p.dep + 2 ≤ n) (hz : p.within.length < 64) : (Den tbl n).call 54 [.dat p.d] w = .ok (.fresh ((sortS (dedup p.drs)).map .str)) w := by
  obtain ⟨m, rfl, hm⟩ := succ_of (k := p.dep + 1) hn
  rw [den_succ T.t54]
  have e := c_within' T.toHasW p m w (by omega) (by omega)
  have g := doors_go (rm := (Den tbl m).room) (P := p.d) (w := w) p.within
  simp only [Pl.d] at e g
  have hs := strs_map p.drs
  have hl : (dedup p.drs).length < 64 := by
    have h1 := dedup_len p.drs
    have h2 : p.drs.length ≤ p.within.length := by unfold Pl.drs; exact List.length_filterMap_le _ _
    omega
  have hk := strs_map (dedup p.drs)
  have hc : cSortS [.lst ((dedup p.drs).map .str)] = some (.fresh ((sortS (dedup p.drs)).map .str)) := by
    simp only [cSortS, hk]
    rw [if_pos hl]
  unfold Pl.drs at *
  unfold dedup at *
  simp [runB, initE, toSl, b_doors_of, dKeys, e, g, hs, hc]
theorem c_namesA {p : Pl} {n : Nat} {w : World} (hn : 2 * p.dep + 6 ≤ n) (h : p.ok 0 = true) (hz : p.within.length < 64) : (Den tbl n).call 128 [.dat p.d] w = .ok (.fresh ((sortS (dedup p.nms)).map .str)) w := by
  obtain ⟨m, rfl, hm⟩ := succ_of (k := 2 * p.dep + 5) hn
  rw [den_succ T.t128]
  have e1 := c_checkPlan T.toHasK (w := w) hm h
  have e2 := c_labelsN T (p := p) (n := m) (w := w) (by omega) hz
  simp only [Pl.d] at e1 e2
  simp [runB, initE, toSl, b_names_128, e1, e2]
theorem c_marksA {p : Pl} {n : Nat} {w : World} (hn : 2 * p.dep + 6 ≤ n) (h : p.ok 0 = true) (hz : p.within.length < 64) : (Den tbl n).call 127 [.dat p.d] w = .ok (.fresh ((sortZ (dedupZ p.mks)).map .int)) w := by
  obtain ⟨m, rfl, hm⟩ := succ_of (k := 2 * p.dep + 5) hn
  rw [den_succ T.t127]
  have e1 := c_checkPlan T.toHasK (w := w) hm h
  have e2 := c_labelsM T (p := p) (n := m) (w := w) (by omega) hz
  simp only [Pl.d] at e1 e2
  simp [runB, initE, toSl, b_marks_127, e1, e2]
theorem c_doors {p : Pl} {n : Nat} {w : World} (hn : 2 * p.dep + 6 ≤ n) (h : p.ok 0 = true) (hz : p.within.length < 64) : (Den tbl n).call 68 [.dat p.d] w = .ok (.fresh ((sortS (dedup p.drs)).map .str)) w := by
  obtain ⟨m, rfl, hm⟩ := succ_of (k := 2 * p.dep + 5) hn
  rw [den_succ T.t68]
  have e1 := c_checkPlan T.toHasK (w := w) hm h
  have e2 := c_doorsOf T (p := p) (n := m) (w := w) (by omega) hz
  simp only [Pl.d] at e1 e2
  simp [runB, initE, toSl, b_doors, e1, e2]
end
end Dl
namespace Dl
open PySem PySem.Spec PyProof.Rows L2 NdefX
def sL (l : List Nat) : Str := ⟨l.toArray⟩
@[simp] theorem sL_cs (l : List Nat) : (sL l).cps.toList = l := by simp [sL]
@[simp] theorem sL_len (l : List Nat) : (sL l).length = l.length := by simp [sL, Str.length]
end Dl
namespace Dl
open PySem PySem.Spec PyProof.Rows L2 NdefX
end Dl
namespace Dl
open PySem PySem.Spec PyProof.Rows L2 NdefX
theorem in_strs {neg : Bool} {rm : Nat} {x : Str} {l : List Str} (h : 1 ≤ rm) : inD neg rm (.str x) (.lst (l.map .str)) = some (.dat (.bl (neg ^^ decide (x ∈ l)))) := by
  show (if 1 + min (depAll (l.map D.str)) (D.str x).dep ≤ rm then some (RV.dat (.bl (neg ^^ (l.map D.str).any fun y => y.eq (.str x)))) else none) = _
  rw [if_pos (by show 1 + min _ 0 ≤ rm; omega)]
  have : ((l.map D.str).any fun y => y.eq (.str x)) = decide (x ∈ l) := by
    rw [List.any_map, Bool.eq_iff_iff, List.any_eq_true, decide_eq_true_eq]
    constructor
    · rintro ⟨y, hy, e⟩
      have : y = x := by simpa using e
      exact this ▸ hy
    · exact fun h => ⟨x, h, by simp⟩
  rw [this]
def Pl.sumC : Pl → Nat
  | .nil => 0
  | .cons c _ r => c + r.sumC
def brk (b : Pl) : Bool := decide (1 < b.ds.length) || decide (1 < b.sumC)
end Dl
namespace Dl
open PySem PySem.Spec PyProof.Rows L2 NdefX
theorem in_ints02 {neg : Bool} {rm : Nat} {x : Int} {l : List Int} (h : 1 ≤ rm) : inD neg rm (.int x) (.lst (l.map .int)) = some (.dat (.bl (neg ^^ decide (x ∈ l)))) := by
  show (if 1 + min (depAll (l.map D.int)) (D.int x).dep ≤ rm then some (RV.dat (.bl (neg ^^ (l.map D.int).any fun y => y.eq (.int x)))) else none) = _
  rw [if_pos (by show 1 + min _ 0 ≤ rm; omega)]
  have : ((l.map D.int).any fun y => y.eq (.int x)) = decide (x ∈ l) := by
    rw [List.any_map, Bool.eq_iff_iff, List.any_eq_true, decide_eq_true_eq]
    constructor
    · rintro ⟨y, hy, e⟩
      have : y = x := by simpa using e
      exact this ▸ hy
    · exact fun h => ⟨x, h, by simp⟩
  rw [this]
structure HasLpt (tbl : Nat → Option DefB) : Prop where
  t63 : tbl 63 = some ⟨1, 4, b__law_parts⟩
structure HasAll (tbl : Nat → Option DefB) : Prop extends HasLpt tbl where
  t69 : tbl 69 = some ⟨2, 4, b__law_all⟩
abbrev lptB (C : Cs) : Sd := (sSeq (sAppend 1 (dName 3))
  (sIf (dTst (dBin (gEq C.room) (dBlt cLen (rCons (dName 3) rNil)) (dC (.int 3)))) (sSet 1 (dBin gAdd (dName 1) (dCall C 63 (aCons (dBin gIx (dName 3) (dC (.int 2))) aNil)))) sNil))
section
variable {tbl : Nat → Option DefB} (T : HasLpt tbl)
include T
theorem lpt_loop : ∀ (r : Pl) (P : D) (m : Nat) (w : World) (acc : List D) (s2 s3 : Sl), r.dep ≤ m → acc.length + r.within.length < 16000000 →
    ∃ s2' s3', forGo (gT 2 (gsCons (gN 2) (gsCons (gN 3) gsNil))) (lptB (Den tbl m)) r.ds [.dat P, .own acc, s2, s3] w = .ok (.nx [.dat P, .own (acc ++ r.within.map Pa.d), s2', s3']) w
  | .nil, P, m, w, acc, s2, s3, hm, hz => ⟨s2, s3, by simp [Pl.ds, Pl.within]⟩
  | .cons c p r, P, m, w, acc, s2, s3, hm, hz => by
    simp only [Pl.dep] at hm
    simp only [Pl.within, List.length_cons, List.length_append] at hz
    have leaf : p.within = [] → p.l.length = 2 → ∃ s2' s3', forGo (gT 2 (gsCons (gN 2) (gsCons (gN 3) gsNil))) (lptB (Den tbl m)) (Pl.cons c p r).ds [.dat P, .own acc, s2, s3] w = .ok (.nx [.dat P, .own (acc ++ (Pl.cons c p r).within.map Pa.d), s2', s3']) w := fun e0 e1 => by
      obtain ⟨s2', s3', e⟩ := lpt_loop r P m w (acc ++ [p.d]) (.dat (.int c)) (.dat p.d) (by omega) (by simp; omega)
      refine ⟨s2', s3', ?_⟩
      have h1 : acc.length < 16777216 := by omega
      simp only [Pa.d_l] at e ⊢
      simp [Pl.ds, for_cons, Pa.d_l, h1, e1, e, Pl.within, e0]
    have node : ∀ b : Pl, b.dep + 1 ≤ m → p.within = b.within → p.l.length = 3 → atI p.l 2 = some (.tup b.ds) → (∃ s2' s3', forGo (gT 2 (gsCons (gN 2) (gsCons (gN 3) gsNil))) (lptB (Den tbl (m - 1))) b.ds [.dat (.tup b.ds), .own [], .un, .un] w = .ok (.nx [.dat (.tup b.ds), .own ([] ++ b.within.map Pa.d), s2', s3']) w) →
        ∃ s2' s3', forGo (gT 2 (gsCons (gN 2) (gsCons (gN 3) gsNil))) (lptB (Den tbl m)) (Pl.cons c p r).ds [.dat P, .own acc, s2, s3] w = .ok (.nx [.dat P, .own (acc ++ (Pl.cons c p r).within.map Pa.d), s2', s3']) w := fun b hb e0 e1 e2 hl => by
      obtain ⟨m', rfl, hm'⟩ := succ_of (k := b.dep) (n := m) (by omega)
      obtain ⟨t2, t3, hl⟩ := hl
      have hc : (Den tbl (m' + 1)).call 63 [.dat (.tup b.ds)] w = .ok (.fresh (b.within.map Pa.d)) w := by
        rw [den_succ T.t63]
        simp only [Nat.add_sub_cancel, List.nil_append] at hl
        simp [runB, initE, toSl, b__law_parts, hl]
      obtain ⟨s2', s3', e⟩ := lpt_loop r P (m' + 1) w (acc ++ [p.d] ++ b.within.map Pa.d) (.dat (.int c)) (.dat p.d) (by omega) (by simp [← e0]; omega)
      refine ⟨s2', s3', ?_⟩
      have h1 : acc.length < 16777216 := by omega
      have h2 : acc.length + 1 + b.within.length ≤ sizeLine := by rw [← e0, sizeLine_eq]; omega
      simp only [Pa.d_l, List.append_assoc, List.singleton_append, List.cons_append, List.nil_append] at e ⊢
      simp [Pl.ds, for_cons, Pa.d_l, h1, e1, e2, hc, gAdd, h2, e, Pl.within, e0]
    cases p with
    | name x => exact leaf rfl rfl
    | mark x => exact leaf rfl rfl
    | got x => exact leaf rfl rfl
    | letter x b => exact node b (by simp only [Pa.dep] at hm; omega) rfl rfl at_2 (lpt_loop b (.tup b.ds) (m - 1) w [] .un .un (by simp only [Pa.dep] at hm; omega) (by simp only [Pa.within] at hz; simp; omega))
    | wait x b => exact node b (by simp only [Pa.dep] at hm; omega) rfl rfl at_2 (lpt_loop b (.tup b.ds) (m - 1) w [] .un .un (by simp only [Pa.dep] at hm; omega) (by simp only [Pa.within] at hz; simp; omega))
theorem c_lparts (p : Pl) (n : Nat) (w : World) (hn : p.dep + 1 ≤ n) (hz : p.within.length < 16000000) : (Den tbl n).call 63 [.dat p.d] w = .ok (.fresh (p.within.map Pa.d)) w := by
  obtain ⟨m, rfl, hm⟩ := succ_of (k := p.dep) hn
  rw [den_succ T.t63]
  obtain ⟨t2, t3, hl⟩ := lpt_loop T p (.tup p.ds) m w [] .un .un (by omega) (by simpa using hz)
  simp only [List.nil_append] at hl
  simp [runB, initE, toSl, b__law_parts, hl]
end
abbrev allB (C : Cs) : Sd := (sIf (tAnd' (dTst (dBin (inD false C.room) (dBin gIx (dName 3) (dC (.int 0))) (dName 1))) (dTst (dBin (inD true C.room) (dBin gIx (dName 3) (dC (.int 1))) (dName 2)))) (sAppend 2 (dBin gIx (dName 3) (dC (.int 1)))) sNil)
def addA {α : Type} [DecidableEq α] (es : List α) (k : α) : List α := if k ∈ es then es else es ++ [k]
section
variable {C : Cs} {w : World} {P : D}
theorem all_loop {α : Type} [DecidableEq α] {t : α → D} {f : Pa → Option α} {ks : List D} (hin : ∀ (x : α) (l : List α), inD true C.room (t x) (.lst (l.map t)) = some (.dat (.bl (!decide (x ∈ l)))))
    (hf : ∀ p : Pa, ∃ z, atI p.l 0 = some (.str z) ∧ (f p = none ∧ inD false C.room (.str z) (.lst ks) = some (.dat (.bl false)) ∨ ∃ v, f p = some v ∧ inD false C.room (.str z) (.lst ks) = some (.dat (.bl true)) ∧ atI p.l 1 = some (t v))) :
    ∀ (l : List Pa) (acc : List α) (s3 : Sl), acc.length + l.length < 16000000 →
      ∃ s3', forGo (gN 3) (allB C) (l.map Pa.d) [.dat P, .dat (.lst ks), .own (acc.map t), s3] w = .ok (.nx [.dat P, .dat (.lst ks), .own (((l.filterMap f).foldl addA acc).map t), s3']) w
  | [], acc, s3, hz => ⟨s3, by simp⟩
  | p :: l, acc, s3, hz => by
    simp only [List.length_cons] at hz
    obtain ⟨z, h0, h⟩ := hf p
    rcases h with ⟨hn, hk⟩ | ⟨v, hv, hk, h1⟩
    · obtain ⟨s3', e⟩ := all_loop hin hf l acc (.dat p.d) (by omega)
      refine ⟨s3', ?_⟩
      rw [List.filterMap_cons, hn]
      simp only [Pa.d_l] at e ⊢
      simp [for_cons, Pa.d_l, h0, hk, e]
    · have hi := hin v acc
      rw [List.filterMap_cons, hv]
      by_cases hm : v ∈ acc
      · obtain ⟨s3', e⟩ := all_loop hin hf l acc (.dat p.d) (by omega)
        refine ⟨s3', ?_⟩
        have ea : addA acc v = acc := if_pos hm
        simp only [Pa.d_l] at e ⊢
        simp only [hm, decide_true, Bool.not_true] at hi
        simp [for_cons, Pa.d_l, h0, h1, hk, hi, e, ea]
      · obtain ⟨s3', e⟩ := all_loop hin hf l (acc ++ [v]) (.dat p.d) (by simp; omega)
        refine ⟨s3', ?_⟩
        have ea : addA acc v = acc ++ [v] := if_neg hm
        have hl : acc.length < 16777216 := by omega
        simp only [Pa.d_l, List.map_append, List.map_cons, List.map_nil] at e ⊢
        simp only [hm, decide_false, Bool.not_false] at hi
        simp [for_cons, Pa.d_l, h0, h1, hk, hi, hl, e, ea]
end
theorem in1 {rm : Nat} (h : 1 ≤ rm) (z y : Str) : inD false rm (.str z) (.lst [.str y]) = some (.dat (.bl (decide (z = y)))) := by
  have := in_strs (neg := false) (rm := rm) (x := z) (l := [y]) h
  simpa using this
theorem in2 {rm : Nat} (h : 1 ≤ rm) (z y y2 : Str) : inD false rm (.str z) (.lst [.str y, .str y2]) = some (.dat (.bl (decide (z = y ∨ z = y2)))) := by
  have := in_strs (neg := false) (rm := rm) (x := z) (l := [y, y2]) h
  simpa using this
theorem hin_s {rm : Nat} (h : 1 ≤ rm) (x : Str) (l : List Str) : inD true rm (.str x) (.lst (l.map .str)) = some (.dat (.bl (!decide (x ∈ l)))) := by
  rw [in_strs h]; simp
theorem hin_i {rm : Nat} (h : 1 ≤ rm) (x : Int) (l : List Int) : inD true rm (.int x) (.lst (l.map .int)) = some (.dat (.bl (!decide (x ∈ l)))) := by
  rw [in_ints02 h]; simp
theorem kn_nm {rm : Nat} (h : 1 ≤ rm) (p : Pa) : ∃ z, atI p.l 0 = some (.str z) ∧ (p.nm = none ∧ inD false rm (.str z) (.lst [.str "name"]) = some (.dat (.bl false)) ∨ ∃ v, p.nm = some v ∧ inD false rm (.str z) (.lst [.str "name"]) = some (.dat (.bl true)) ∧ atI p.l 1 = some (.str v)) := by
  cases p with
  | name x => exact ⟨_, rfl, .inr ⟨x, rfl, by rw [in1 h]; simp, rfl⟩⟩
  | mark x => exact ⟨_, rfl, .inl ⟨rfl, by rw [in1 h]; simp only [show ¬ (Str.ofString "mark" = Str.ofString "name") by decide +kernel, decide_false]⟩⟩
  | got x => exact ⟨_, rfl, .inl ⟨rfl, by rw [in1 h]; simp only [show ¬ (Str.ofString "got" = Str.ofString "name") by decide +kernel, decide_false]⟩⟩
  | letter x b => exact ⟨_, rfl, .inl ⟨rfl, by rw [in1 h]; simp only [show ¬ (Str.ofString "letter" = Str.ofString "name") by decide +kernel, decide_false]⟩⟩
  | wait x b => exact ⟨_, rfl, .inl ⟨rfl, by rw [in1 h]; simp only [show ¬ (Str.ofString "wait" = Str.ofString "name") by decide +kernel, decide_false]⟩⟩
theorem kn_mk {rm : Nat} (h : 1 ≤ rm) (p : Pa) : ∃ z, atI p.l 0 = some (.str z) ∧ (p.mk = none ∧ inD false rm (.str z) (.lst [.str "mark"]) = some (.dat (.bl false)) ∨ ∃ v, p.mk = some v ∧ inD false rm (.str z) (.lst [.str "mark"]) = some (.dat (.bl true)) ∧ atI p.l 1 = some (.int v)) := by
  cases p with
  | name x => exact ⟨_, rfl, .inl ⟨rfl, by rw [in1 h]; simp only [show ¬ (Str.ofString "name" = Str.ofString "mark") by decide +kernel, decide_false]⟩⟩
  | mark x => exact ⟨_, rfl, .inr ⟨x, rfl, by rw [in1 h]; simp, rfl⟩⟩
  | got x => exact ⟨_, rfl, .inl ⟨rfl, by rw [in1 h]; simp only [show ¬ (Str.ofString "got" = Str.ofString "mark") by decide +kernel, decide_false]⟩⟩
  | letter x b => exact ⟨_, rfl, .inl ⟨rfl, by rw [in1 h]; simp only [show ¬ (Str.ofString "letter" = Str.ofString "mark") by decide +kernel, decide_false]⟩⟩
  | wait x b => exact ⟨_, rfl, .inl ⟨rfl, by rw [in1 h]; simp only [show ¬ (Str.ofString "wait" = Str.ofString "mark") by decide +kernel, decide_false]⟩⟩
theorem kn_dk {rm : Nat} (h : 1 ≤ rm) (p : Pa) : ∃ z, atI p.l 0 = some (.str z) ∧ (p.dk = none ∧ inD false rm (.str z) (.lst [.str "letter", .str "wait"]) = some (.dat (.bl false)) ∨ ∃ v, p.dk = some v ∧ inD false rm (.str z) (.lst [.str "letter", .str "wait"]) = some (.dat (.bl true)) ∧ atI p.l 1 = some (.str v)) := by
  cases p with
  | name x => exact ⟨_, rfl, .inl ⟨rfl, by rw [in2 h]; simp only [show ¬ (Str.ofString "name" = Str.ofString "letter" ∨ Str.ofString "name" = Str.ofString "wait") by decide +kernel, decide_false]⟩⟩
  | mark x => exact ⟨_, rfl, .inl ⟨rfl, by rw [in2 h]; simp only [show ¬ (Str.ofString "mark" = Str.ofString "letter" ∨ Str.ofString "mark" = Str.ofString "wait") by decide +kernel, decide_false]⟩⟩
  | got x => exact ⟨_, rfl, .inl ⟨rfl, by rw [in2 h]; simp only [show ¬ (Str.ofString "got" = Str.ofString "letter" ∨ Str.ofString "got" = Str.ofString "wait") by decide +kernel, decide_false]⟩⟩
  | letter x b => exact ⟨_, rfl, .inr ⟨x, rfl, by rw [in2 h]; simp, rfl⟩⟩
  | wait x b => exact ⟨_, rfl, .inr ⟨x, rfl, by rw [in2 h]; simp, rfl⟩⟩
section
variable {tbl : Nat → Option DefB} (T : HasAll tbl)
include T
theorem all_of {α : Type} [DecidableEq α] {t : α → D} {f : Pa → Option α} {ks : List D} {ls : List α} {p : Pl} {n m : Nat} {w : World} (hm : p.dep + 1 ≤ m) (hz : p.within.length < 64) (e : n = m + 1)
    (hin : ∀ (x : α) (l : List α), inD true (Den tbl m).room (t x) (.lst (l.map t)) = some (.dat (.bl (!decide (x ∈ l)))))
    (hf : ∀ p : Pa, ∃ z, atI p.l 0 = some (.str z) ∧ (f p = none ∧ inD false (Den tbl m).room (.str z) (.lst ks) = some (.dat (.bl false)) ∨ ∃ v, f p = some v ∧ inD false (Den tbl m).room (.str z) (.lst ks) = some (.dat (.bl true)) ∧ atI p.l 1 = some (t v)))
    (hs : cSortA [.lst (((p.within.filterMap f).foldl addA []).map t)] = some (.fresh (ls.map t))) : (Den tbl n).call 69 [.dat p.d, .dat (.lst ks)] w = .ok (.fresh (ls.map t)) w := by
  subst e
  rw [den_succ T.t69]
  obtain ⟨s3', e1⟩ := all_loop (C := Den tbl m) (w := w) (P := p.d) hin hf p.within [] .un (by simp; omega)
  have e2 := c_lparts T.toHasLpt p m w hm (by omega)
  simp only [List.map_nil, Pl.d] at e1 e2
  simp [runB, initE, toSl, b__law_all, e1, e2, hs, Pl.d]
end
end Dl
namespace Dl
open PySem PySem.Spec PyProof.Rows L2 NdefX
structure HasGt (tbl : Nat → Option DefB) : Prop extends HasPk tbl where
  t64 : tbl 64 = some ⟨2, 5, b__law_great_64⟩
def gtB : Nat := 10 ^ 30
theorem gt5 : ∃ G : Int, gPow (.int 10) (.int 30) = some (.dat (.int G)) ∧ ∀ r : Nat, (r : Int) < 5 → ∃ c : Nat, atI [D.int 1, .int 1, .int 1, .int G, .int 7] (r : Int) = some (.int c) ∧ 1 ≤ c ∧ c ≤ gtB := by
  refine ⟨((10 ^ 30 : Nat) : Int), ?_, fun r h => ?_⟩
  · rw [gPow_i, if_pos (by decide)]
    rfl
  have : r = 0 ∨ r = 1 ∨ r = 2 ∨ r = 3 ∨ r = 4 := by omega
  rcases this with rfl | rfl | rfl | rfl | rfl
  · exact ⟨1, rfl, by decide, by decide⟩
  · exact ⟨1, rfl, by decide, by decide⟩
  · exact ⟨1, rfl, by decide, by decide⟩
  · exact ⟨10 ^ 30, rfl, by decide, by decide⟩
  · exact ⟨7, rfl, by decide, by decide⟩
theorem sq02 {a b : Sd} {env e1 : Ev} {w w1 : World} (h : a env w = .ok (.nx e1) w1) : sSeq a b env w = b e1 w1 := by
  show (a env w).bind _ = _
  rw [h]
  rfl
theorem gtB_pos : 1 ≤ gtB := by decide
theorem gtB_lim : gtB < limN := Nat.lt_of_lt_of_le (show gtB < 2 ^ 100 by decide) (by unfold limN; exact Nat.pow_le_pow_right (by decide) (by decide))
theorem th_lim : 1000 < limN := Nat.lt_of_lt_of_le (show 1000 < 2 ^ 10 by decide) (by unfold limN; exact Nat.pow_le_pow_right (by decide) (by decide))
structure GtP (r q : Pl) (k : Nat) : Prop where
  ok : q.ok k = true
  sz : q.size ≤ r.size * gtB ^ (r.dep + 1)
  wi : q.within.length = r.within.length
  dp : q.dep = r.dep
  hs : ∀ z, q.has z = r.has z
structure GtA (p q : Pa) (k : Nat) : Prop where
  ok : q.ok k = true
  sz : q.size ≤ p.size * gtB ^ p.dep
  wi : q.within.length = p.within.length
  dp : q.dep = p.dep
  hs : ∀ z, q.has z = p.has z
abbrev gt1 (C : Cs) : Sd := (sIf (dTst (dBin (gEq C.room) (dBlt cLen (rCons (dName 4) rNil)) (dC (.int 3)))) (sSet 4 (dTup (aCons (dBin gIx (dName 4) (dC (.int 0))) (aCons (dBin gIx (dName 4) (dC (.int 1))) (aCons (dCall C 64 (aCons (dName 0) (aCons (dBin gIx (dName 4) (dC (.int 2))) aNil))) aNil))))) sNil)
abbrev gt2 (C : Cs) : Sd := (sAppend 2 (dTup (aCons (dBin gMul (dName 3) (dBin gIx (dLst (aCons (dC (.int 1)) (aCons (dC (.int 1)) (aCons (dC (.int 1)) (aCons (dBin gPow (dC (.int 10)) (dC (.int 30))) (aCons (dC (.int 7)) aNil)))))) (dCall C 11 (aCons (dName 0) (aCons (dC (.int 5)) aNil))))) (aCons (dName 4) aNil))))
abbrev gtBd (C : Cs) : Sd := sSeq (gt1 C) (gt2 C)
theorem great_eq (C : Cs) : b__law_great_64 C = (sSeq (sSet 2 (dLst aNil)) (sSeq (sFor (iSeq (dName 1)) (gT 2 (gsCons (gN 3) (gsCons (gN 4) gsNil))) (gtBd C)) (sRet (dBlt cTuple (rCons (dName 2) rNil))))) := rfl
theorem GtP.cons {c g : Nat} {p q : Pa} {r s : Pl} {k : Nat} (hc : 1 ≤ c) (hg : 1 ≤ g) (hgb : g ≤ gtB) (a : GtA p q k) (b : GtP r s k) : GtP (.cons c p r) (.cons (c * g) q s) k where
  ok := by
    simp only [Pl.ok, a.ok, b.ok, Bool.and_true, decide_eq_true_eq]
    exact Nat.mul_pos hc hg
  sz := by
    simp only [Pl.size, Pl.dep]
    have h1 : c * g * q.size ≤ c * p.size * gtB ^ (max p.dep r.dep + 1) := by
      calc c * g * q.size ≤ c * gtB * (p.size * gtB ^ p.dep) := Nat.mul_le_mul (Nat.mul_le_mul_left c hgb) a.sz
        _ = c * p.size * gtB ^ (p.dep + 1) := by rw [Nat.pow_succ]; simp only [Nat.mul_assoc, Nat.mul_left_comm, Nat.mul_comm]
        _ ≤ _ := Nat.mul_le_mul_left _ (Nat.pow_le_pow_right gtB_pos (by omega))
    have h2 : s.size ≤ r.size * gtB ^ (max p.dep r.dep + 1) := Nat.le_trans b.sz (Nat.mul_le_mul_left _ (Nat.pow_le_pow_right gtB_pos (by omega)))
    rw [Nat.add_mul]
    omega
  wi := by simp only [Pl.within, List.length_cons, List.length_append, a.wi, b.wi]
  dp := by simp only [Pl.dep, a.dp, b.dp]
  hs := fun z => by simp only [Pl.has, a.hs, b.hs]
def Pa.isW : Pa → Bool
  | .wait _ _ => true
  | _ => false
section
variable {tbl : Nat → Option DefB} (T : HasGt tbl)
include T
theorem great_loop : ∀ (r : Pl) (m k : Nat) (rest w : World) (P : D) (acc : List D) (s3 s4 : Sl), r.dep + 1 ≤ m → r.ok k = true → r.size ≤ 1000 → acc.length + r.within.length < 16000000 → TapeOk rest w →
    ∃ q w' s3' s4', forGo (gT 2 (gsCons (gN 3) (gsCons (gN 4) gsNil))) (gtBd (Den tbl m)) r.ds [.wref 0, .dat P, .own acc, s3, s4] w = .ok (.nx [.wref 0, .dat P, .own (acc ++ q.ds), s3', s4']) w' ∧ TapeOk rest w' ∧ GtP r q k
  | .nil, m, k, rest, w, P, acc, s3, s4, hm, hk, hs, hz, ht => ⟨.nil, w, s3, s4, by simp [Pl.ds], ht, ⟨rfl, by simp [Pl.size], rfl, rfl, fun _ => rfl⟩⟩
  | .cons c p r, m, k, rest, w, P, acc, s3, s4, hm, hk, hs, hz, ht => by
    simp only [Pl.dep] at hm
    simp only [Pl.ok, Bool.and_eq_true, decide_eq_true_eq] at hk
    simp only [Pl.size] at hs
    simp only [Pl.within, List.length_cons, List.length_append] at hz
    obtain ⟨⟨hc, hp⟩, hr⟩ := hk
    have psz : 1 ≤ p.size := psize_pos p
    have hcs : c ≤ c * p.size := Nat.le_mul_of_pos_right c psz
    -- the part, perhaps made great
    have leaf : p.l.length = 2 → ∃ q w1, gt1 (Den tbl m) [.wref 0, .dat P, .own acc, .dat (.int c), .dat p.d] w = .ok (.nx [.wref 0, .dat P, .own acc, .dat (.int c), .dat q.d]) w1 ∧ TapeOk rest w1 ∧ GtA p q k := fun e1 => by
      refine ⟨p, w, ?_, ht, hp, Nat.le_mul_of_pos_right _ (Nat.pow_pos gtB_pos), rfl, rfl, fun _ => rfl⟩
      simp [Pa.d_l, e1]
    have node : ∀ (b : Pl), b.dep + 2 ≤ m → (∃ q w' s3' s4', forGo (gT 2 (gsCons (gN 3) (gsCons (gN 4) gsNil))) (gtBd (Den tbl (m - 1))) b.ds [.wref 0, .dat (.tup b.ds), .own [], .un, .un] w = .ok (.nx [.wref 0, .dat (.tup b.ds), .own ([] ++ q.ds), s3', s4']) w' ∧ TapeOk rest w' ∧ GtP b q (k + if p.isW = true then 1 else 0)) →
        ∃ q w1, (Den tbl m).call 64 [.wref 0, .dat (.tup b.ds)] w = .ok (.dat (.tup (Pl.ds q))) w1 ∧ TapeOk rest w1 ∧ GtP b q (k + if p.isW = true then 1 else 0) := fun b hb hl => by
      obtain ⟨m', rfl, hm'⟩ := succ_of (k := b.dep + 1) (n := m) hb
      obtain ⟨q, w1, t3, t4, e, t1, g⟩ := hl
      refine ⟨q, w1, ?_, t1, g⟩
      rw [den_succ T.t64]
      simp only [Nat.add_sub_cancel, List.nil_append] at e
      simp [runB, initE, toSl, great_eq, e]
    have part : ∃ q w1, gt1 (Den tbl m) [.wref 0, .dat P, .own acc, .dat (.int c), .dat p.d] w = .ok (.nx [.wref 0, .dat P, .own acc, .dat (.int c), .dat q.d]) w1 ∧ TapeOk rest w1 ∧ GtA p q k := by
      cases p with
      | name x => exact leaf rfl
      | mark x => exact leaf rfl
      | got x => exact leaf rfl
      | letter x b =>
        simp only [Pa.dep] at hm
        simp only [Pa.ok, Bool.and_eq_true] at hp
        simp only [Pa.size] at hs hcs
        simp only [Pa.within] at hz
        have hbs : b.size ≤ 1000 := by
          have : 1 * (b.size + 1) ≤ c * (b.size + 1) := Nat.mul_le_mul_right _ hc
          omega
        obtain ⟨q, w1, e, t1, g⟩ := node b (by omega) (great_loop b (m - 1) (k + 0) rest w (.tup b.ds) [] .un .un (by omega) hp.2 hbs (by simp; omega) ht)
        refine ⟨.letter x q, w1, ?_, t1, ?_, ?_, ?_, ?_, g.hs⟩
        · simp [Pa.d, at_0, at_1, at_2, e]
        · simp only [Pa.ok, hp.1, Bool.true_and]; exact g.ok
        · simp only [Pa.size, Pa.dep]
          have := g.sz
          have h1 : 1 ≤ gtB ^ (b.dep + 1) := Nat.pow_pos gtB_pos
          rw [Nat.add_mul]
          omega
        · exact g.wi
        · simp only [Pa.dep, g.dp]
      | wait x b =>
        simp only [Pa.dep] at hm
        simp only [Pa.ok, Bool.and_eq_true] at hp
        simp only [Pa.size] at hs hcs
        simp only [Pa.within] at hz
        have hbs : b.size ≤ 1000 := by
          have : 1 * (b.size + 1) ≤ c * (b.size + 1) := Nat.mul_le_mul_right _ hc
          omega
        obtain ⟨q, w1, e, t1, g⟩ := node b (by omega) (great_loop b (m - 1) (k + 1) rest w (.tup b.ds) [] .un .un (by omega) hp.2 hbs (by simp; omega) ht)
        refine ⟨.wait x q, w1, ?_, t1, ?_, ?_, ?_, ?_, g.hs⟩
        · simp [Pa.d, at_0, at_1, at_2, e]
        · simp only [Pa.ok, hp.1, Bool.true_and]; exact g.ok
        · simp only [Pa.size, Pa.dep]
          have := g.sz
          have h1 : 1 ≤ gtB ^ (b.dep + 1) := Nat.pow_pos gtB_pos
          rw [Nat.add_mul]
          omega
        · exact g.wi
        · simp only [Pa.dep, g.dp]
    obtain ⟨q, w1, e1, t1, ga⟩ := part
    obtain ⟨j, w2, e2, t2, hj⟩ := c_pick T.toHasPk (n := m) (by omega) t1 (m := 5) (by decide) (by decide)
    obtain ⟨G, eG, h5⟩ := gt5
    obtain ⟨g, eg, g1, g2⟩ := h5 j hj
    have mo : mulOk (c : Int) (g : Int) = true := mulOk_nat (by have := th_lim; omega) (by have := gtB_lim; omega)
    have hl : acc.length < 16777216 := by omega
    have ec : ((c : Int) * (g : Int)) = ((c * g : Nat) : Int) := by rw [Int.natCast_mul]
    have e3 : gt2 (Den tbl m) [.wref 0, .dat P, .own acc, .dat (.int c), .dat q.d] w1 = .ok (.nx [.wref 0, .dat P, .own (acc ++ [.tup [.int ((c : Int) * (g : Int)), q.d]]), .dat (.int c), .dat q.d]) w2 := by
      simp [e2, -gPow_i, eG, eg, mo, hl]
    rw [ec] at e3
    obtain ⟨s, w3, s3', s4', e4, t4, gp⟩ := great_loop r m k rest w2 P (acc ++ [.tup [.int ((c * g : Nat) : Int), q.d]]) (.dat (.int c)) (.dat q.d) (by omega) hr (by omega) (by simp; omega) t2
    refine ⟨.cons (c * g) q s, w3, s3', s4', ?_, t4, GtP.cons hc g1 g2 ga gp⟩
    have eb : gtBd (Den tbl m) [.wref 0, .dat P, .own acc, .dat (.int c), .dat p.d] w = .ok (.nx [.wref 0, .dat P, .own (acc ++ [.tup [.int ((c * g : Nat) : Int), q.d]]), .dat (.int c), .dat q.d]) w2 := by
      show sSeq (gt1 (Den tbl m)) (gt2 (Den tbl m)) _ _ = _
      rw [sq02 e1, e3]
    rw [List.append_assoc, List.singleton_append] at e4
    have et : gT 2 (gsCons (gN 3) (gsCons (gN 4) gsNil)) (.tup [.int c, p.d]) [.wref 0, .dat P, .own acc, s3, s4] = some [.wref 0, .dat P, .own acc, .dat (.int c), .dat p.d] := rfl
    rw [show (Pl.cons c p r).ds = .tup [.int c, p.d] :: r.ds from rfl, for_cons, et]
    simp only [eb, bind_ok]
    rw [e4]
    rfl
theorem c_great64 {p : Pl} {n : Nat} {rest w : World} (hn : p.dep + 2 ≤ n) (ok : p.ok 0 = true) (hs : p.size ≤ 1000) (hz : p.within.length ≤ 1000) (ht : TapeOk rest w) :
    ∃ q w', (Den tbl n).call 64 [.wref 0, .dat p.d] w = .ok (.dat (Pl.d q)) w' ∧ TapeOk rest w' ∧ GtP p q 0 := by
  obtain ⟨m, rfl, hm⟩ := succ_of (k := p.dep + 1) hn
  obtain ⟨q, w1, t3, t4, e, t1, g⟩ := great_loop T p m 0 rest w p.d [] .un .un hm ok hs (by simp; omega) ht
  refine ⟨q, w1, ?_, t1, g⟩
  rw [den_succ T.t64]
  simp only [List.nil_append] at e
  simp [runB, initE, toSl, great_eq, e]
end
end Dl
namespace Dl
open PySem PySem.Spec PyProof.Rows L2 NdefX
structure HasLd2 (tbl : Nat → Option DefB) : Prop where
  t71 : tbl 71 = some ⟨1, 3, b__law_deep⟩
structure HasSm2 (tbl : Nat → Option DefB) : Prop extends HasK tbl, HasI tbl where
  t72 : tbl 72 = some ⟨1, 1, b_all_items⟩
  t70 : tbl 70 = some ⟨1, 1, b_nested⟩
  t60 : tbl 60 = some ⟨2, 2, b_check_two⟩
  t66 : tbl 66 = some ⟨2, 2, b_beside⟩
section
variable {tbl : Nat → Option DefB} (T : HasLd2 tbl)
include T
theorem c_ldeep2 : ∀ (n : Nat) (p : Pl) (w : World), p.dep + 1 ≤ n → p.within.length < 16777215 → (Den tbl n).call 71 [.dat p.d] w = .ok (.dat (.int p.dep)) w
  | 0, p, w, h, hz => by omega
  | n + 1, p, w, h, hz => by
    rw [den_succ T.t71]
    have bz : ∀ b : Pl, b.dep < p.dep → True := fun _ _ => trivial
    have g : ∀ r : Pl, r.dep ≤ n → r.within.length < 16777215 → compGo (gT 2 (gsCons (gN 1) (gsCons (gN 2) gsNil))) (dTst (dBin (gEq (Den tbl n).room) (dBlt cLen (rCons (dName 2) rNil)) (dC (.int 3)))) (dBin gAdd (dC (.int 1)) (dCall (Den tbl n) 71 (aCons (dBin gIx (dName 2) (dC (.int 2))) aNil))) [.dat (.tup p.ds), .un, .un] r.ds w = .ok (r.nst.map .int) w := by
      intro r
      induction r using Pl.rec (motive_1 := fun _ => True) with
      | nil => intro _ _; rfl
      | cons c q r _ ih =>
        intro hd hw
        simp only [Pl.dep] at hd
        simp only [Pl.within, List.length_cons, List.length_append] at hw
        have ih := ih (by omega) (by omega)
        cases q with
        | name y => simp [Pl.ds, Pa.d, go_cons, ih, Pl.nst]
        | mark y => simp [Pl.ds, Pa.d, go_cons, ih, Pl.nst]
        | got y => simp [Pl.ds, Pa.d, go_cons, ih, Pl.nst]
        | letter y b =>
          simp only [Pa.dep] at hd
          simp only [Pa.within] at hw
          have hb := c_ldeep2 n b w (by omega) (by omega)
          simp only [Pl.d] at hb
          simp [Pl.ds, Pa.d, go_cons, at_2, hb, ih, Pl.nst]
          omega
        | wait y b =>
          simp only [Pa.dep] at hd
          simp only [Pa.within] at hw
          have hb := c_ldeep2 n b w (by omega) (by omega)
          simp only [Pl.d] at hb
          simp [Pl.ds, Pa.d, go_cons, at_2, hb, ih, Pl.nst]
          omega
      | _ => trivial
    have g := g p (by omega) hz
    have hl : 1 + p.nst.length ≤ sizeLine := by have := within_dep p; rw [sizeLine_eq]; omega
    have hm : cMax1 [.lst (.int 0 :: p.nst.map .int)] = some (.dat (.int p.dep)) := by
      have e := nst_max p 0
      have ei : intsOf (D.int 0 :: p.nst.map .int) = some (0 :: p.nst) := by simp [intsOf]
      simp only [cMax1, ei]
      rw [show maxI 0 p.nst = ((max 0 p.dep : Nat) : Int) from e]
      simp
    simp [runB, initE, toSl, b__law_deep, g, hl, hm]
end
section
variable {tbl : Nat → Option DefB} (T : HasSm2 tbl)
include T
theorem c_all72 {p : Pl} {n : Nat} {w : World} (hn : 2 * p.dep + 6 ≤ n) (h : p.ok 0 = true) (hz : p.within.length < 16777216) : (Den tbl n).call 72 [.dat p.d] w = .ok (.dat (.int p.within.length)) w := by
  obtain ⟨m, rfl, hm⟩ := succ_of (k := 2 * p.dep + 5) hn
  rw [den_succ T.t72]
  have e1 := c_checkPlan T.toHasK (w := w) hm h
  have e2 := c_items T.toHasI (p := p) (n := m) (w := w) (by omega) hz
  simp only [Pl.d] at e1 e2
  simp [runB, initE, toSl, b_all_items, e1, e2]
theorem c_nested70 {p : Pl} {n : Nat} {w : World} (hn : 2 * p.dep + 6 ≤ n) (h : p.ok 0 = true) (hz : p.within.length < 16777215) : (Den tbl n).call 70 [.dat p.d] w = .ok (.dat (.int p.dep)) w := by
  obtain ⟨m, rfl, hm⟩ := succ_of (k := 2 * p.dep + 5) hn
  rw [den_succ T.t70]
  have e1 := c_checkPlan T.toHasK (w := w) hm h
  have e2 := c_nesting T.toHasI m p w (by omega) hz
  simp only [Pl.d] at e1 e2
  simp [runB, initE, toSl, b_nested, e1, e2]
theorem c_two02 {n : Nat} {p q : Pl} {w : World} (hp : p.ok 0 = true) (hq : q.ok 0 = true) (h1 : 2 * p.dep + 6 ≤ n) (h2 : 2 * q.dep + 6 ≤ n) : (Den tbl n).call 60 [.dat p.d, .dat q.d] w = .ok (.dat .non) w := by
  obtain ⟨m, rfl, hm⟩ := succ_of (k := 2 * p.dep + 5) h1
  rw [den_succ T.t60]
  have e1 := c_checkPlan T.toHasK (w := w) hm hp
  have e2 := c_checkPlan T.toHasK (p := q) (n := m) (w := w) (by omega) hq
  simp only [Pl.d] at e1 e2
  simp [runB, initE, toSl, b_check_two, e1, e2]
theorem c_beside02 {n : Nat} {p q : Pl} {w : World} (hp : p.ok 0 = true) (hq : q.ok 0 = true) (h1 : 2 * p.dep + 7 ≤ n) (h2 : 2 * q.dep + 7 ≤ n) (hz : p.within.length + q.within.length ≤ 1000000) : (Den tbl n).call 66 [.dat p.d, .dat q.d] w = .ok (.dat (p.app q).d) w := by
  obtain ⟨m, rfl, hm⟩ := succ_of (k := 2 * p.dep + 6) (n := n) (by omega)
  rw [den_succ T.t66]
  have e := c_two02 T (w := w) (n := m) hp hq (by omega) (by omega)
  have l1 := len_within p
  have l2 := len_within q
  have hl : p.ds.length + q.ds.length ≤ sizeLine := by rw [sizeLine_eq]; omega
  have ed := app_ds p q
  simp only [Pl.d] at e
  simp [runB, initE, toSl, b_beside, e, hl, ed]
end
theorem c_lsize02 {tbl : Nat → Option DefB} (T : HasLS tbl) {p : Pl} {n : Nat} {w : World} (hn : 2 * p.dep + 2 ≤ n) (hl : p.lim) : (Den tbl n).call 41 [.dat p.d] w = .ok (.dat (.int p.size)) w := by
  obtain ⟨m, rfl, hm⟩ := succ_of (k := 2 * p.dep + 1) hn
  rw [den_succ T.t41]
  have g := c_lszLoop T p (.tup p.ds) m w (by omega) hl
  have hs := sum_szs p
  simp [runB, initE, toSl, b__law_size, g, -cSum_l, hs]
abbrev k21 (C : Cs) : Sd := (sSetW 1 (dCall C 22 (aCons (dName 0) aNil)))
abbrev k22 (C : Cs) : Sd := (sSet 2 (dBin (gEq C.room) (dCall C 11 (aCons (dName 1) (aCons (dC (.int 3)) aNil))) (dC (.int 0))))
abbrev k23 (C : Cs) : Sd := (sSet 3 (dCall C 40 (aCons (dName 1) (aCons (dBin gAdd (dC (.int 1)) (dCall C 11 (aCons (dName 1) (aCons (dC (.int 20)) aNil)))) (aCons (dC (.int 0)) (aCons (dC (.str "abcz")) (aCons (dLst (aCons (dC (.str "x")) (aCons (dC (.str "yy")) (aCons (dC (.str "z")) aNil)))) aNil)))))))
abbrev k24 (C : Cs) : Sd := (sSet 4 (dCall C 40 (aCons (dName 1) (aCons (dBin gAdd (dC (.int 1)) (dCall C 11 (aCons (dName 1) (aCons (dC (.int 6)) aNil)))) (aCons (dC (.int 0)) (aCons (dC (.str "adz")) (aCons (dLst (aCons (dC (.str "x")) (aCons (dC (.str "w")) aNil))) aNil)))))))
abbrev k25 (C : Cs) : Sd := (sIf (dTru (dName 2)) (sSet 3 (dCall C 64 (aCons (dName 1) (aCons (dName 3) aNil)))) sNil)
abbrev k26 (C : Cs) : Sd := (sSet 3 (dCall C 73 (aCons (dName 3) (aCons (dC (.str "z")) (aCons (dTup (aCons (dTup (aCons (dC (.int 1)) (aCons (dTup (aCons (dC (.str "mark")) (aCons (dCall C 11 (aCons (dName 1) (aCons (dC (.int 5)) aNil))) aNil))) aNil))) (aCons (dTup (aCons (dC (.int 1)) (aCons (dTup (aCons (dC (.str "mark")) (aCons (dBin gPow (dC (.int 10)) (dC (.int 30))) aNil))) aNil))) aNil))) aNil)))))
abbrev k27 (C : Cs) : Sd := (sFor (iSeq (dLst (aCons (dName 3) (aCons (dName 4) (aCons (dCall C 66 (aCons (dName 3) (aCons (dName 4) aNil))) aNil))))) (gN 5) (sSeq (sIf (tOr' (dTst (dBin (gNe C.room) (dCall C 47 (aCons (dName 5) aNil)) (dCall C 41 (aCons (dName 5) aNil)))) (dTru (dIsi .bool (dCall C 47 (aCons (dName 5) aNil))))) (sRet (dC (.bl false))) sNil)
  (sSeq (sIf (tOr' (dTst (dBin (gNe C.room) (dCall C 72 (aCons (dName 5) aNil)) (dBlt cLen (rCons (dCall C 63 (aCons (dName 5) aNil)) rNil)))) (dTst (dBin (gNe C.room) (dCall C 70 (aCons (dName 5) aNil)) (dCall C 71 (aCons (dName 5) aNil))))) (sRet (dC (.bl false))) sNil)
  (sSeq (sSetO 6 (dNewFl (rCons (dAsW (dCall C 68 (aCons (dName 5) aNil))) (rCons (dAsW (dCall C 128 (aCons (dName 5) aNil))) (rCons (dAsW (dCall C 127 (aCons (dName 5) aNil))) rNil)))))
  (sSeq (sSet 7 (dLst (aCons (dCall C 69 (aCons (dName 5) (aCons (dLst (aCons (dC (.str "letter")) (aCons (dC (.str "wait")) aNil))) aNil))) (aCons (dCall C 69 (aCons (dName 5) (aCons (dLst (aCons (dC (.str "name")) aNil)) aNil))) (aCons (dCall C 69 (aCons (dName 5) (aCons (dLst (aCons (dC (.str "mark")) aNil)) aNil))) aNil)))))
  (sSeq (sIf (tOr' (dTst (dNeFl C.room (dName 6) (dName 7))) (dTst (dBin (gGt C.room) (dBlt cLen (rCons (dCompF (iRefF (dName 6)) [8] 8 (tNot' (dTru (dIsiW .list (dName 8)))) (dName 8)) rNil)) (dC (.int 0))))) (sRet (dC (.bl false))) sNil)
  (sSeq (sForF (iRefF (dName 6)) 8 (sAppF (dName 8) (dC .non)))
  (sIf (dTst (dBin (gNe C.room) (dLst (aCons (dCall C 68 (aCons (dName 5) aNil)) (aCons (dCall C 128 (aCons (dName 5) aNil)) (aCons (dCall C 127 (aCons (dName 5) aNil)) aNil)))) (dName 7))) (sRet (dC (.bl false))) sNil))))))))
abbrev k28 (C : Cs) : Sd := (sIf (tOr' (dTst (dBin (gNe C.room) (dCall C 47 (aCons (dCall C 66 (aCons (dName 3) (aCons (dName 4) aNil))) aNil)) (dBin gAdd (dCall C 47 (aCons (dName 3) aNil)) (dCall C 47 (aCons (dName 4) aNil))))) (dTst (dBin (gNe C.room) (dCall C 66 (aCons (dName 3) (aCons (dName 4) aNil))) (dBin gAdd (dName 3) (dName 4))))) (sRet (dC (.bl false))) sNil)
abbrev k29 (C : Cs) : Sd := (sRet (dAnd (dBin (gEq C.room) (dCall C 65 (aCons (dName 3) (aCons (dC (.int 7)) (aCons (dName 4) aNil)))) (dName 3)) (dBin (gEq C.room) (dCall C 47 (aCons (dTup aNil) aNil)) (dC (.int 0)))))
structure Has02 (tbl : Nat → Option DefB) : Prop extends HasLb tbl, HasGt tbl, HasAll tbl, HasLP tbl, HasMz tbl, HasSm2 tbl, HasLd2 tbl where
  t22 : tbl 22 = some ⟨1, 1, b__law_tape⟩
def blk (w : World) (a b c : List D) : World := w ++ [.lst a, .lst b, .lst c, .fls [.ref w.length, .ref (w.length + 1), .ref (w.length + 2)]]
theorem blk_0 {w : World} {a b c : List D} : (blk w a b c)[w.length]? = some (.lst a) := by unfold blk; simp
theorem blk_1 {w : World} {a b c : List D} : (blk w a b c)[w.length + 1]? = some (.lst b) := by unfold blk; simp
theorem blk_2 {w : World} {a b c : List D} : (blk w a b c)[w.length + 2]? = some (.lst c) := by unfold blk; simp
theorem blk_3 {w : World} {a b c : List D} : (blk w a b c)[w.length + 3]? = some (.fls [.ref w.length, .ref (w.length + 1), .ref (w.length + 2)]) := by unfold blk; simp
theorem blk_s0 {w : World} {a b c z : List D} : (blk w a b c).set w.length (.lst z) = blk w z b c := by unfold blk; simp
theorem blk_s1 {w : World} {a b c z : List D} : (blk w a b c).set (w.length + 1) (.lst z) = blk w a z c := by unfold blk; simp [List.set_append]
theorem blk_s2 {w : World} {a b c z : List D} : (blk w a b c).set (w.length + 2) (.lst z) = blk w a b z := by unfold blk; simp [List.set_append]
theorem okN_mono {n m : Nat} (h : n ≤ m) : ∀ {o : WO}, o.okN n = true → o.okN m = true := by
  have lw : ∀ {f : FV}, f.low n = true → f.low m = true := fun {f} => by cases f <;> simp [FV.low]; omega
  intro o
  cases o with
  | lst l => exact id
  | clo i c => exact id
  | obj x fs =>
    unfold WO.okN
    rw [List.all_eq_true, List.all_eq_true]
    exact fun z q hq => lw (z q hq)
  | dic kvs =>
    unfold WO.okN
    rw [List.all_eq_true, List.all_eq_true]
    exact fun z q hq => lw (z q hq)
  | fls es =>
    unfold WO.okN
    rw [List.all_eq_true, List.all_eq_true]
    exact fun z q hq => lw (z q hq)
theorem blk_L {w : World} {a b c : List D} (h : allL w = true) : allL (blk w a b c) = true := by
  unfold allL allN at *
  rw [List.all_eq_true] at *
  have hl : (blk w a b c).length = w.length + 4 := by unfold blk; simp
  rw [hl]
  intro o ho
  unfold blk at ho
  rcases List.mem_append.mp ho with z | z
  · exact okN_mono (by omega) (h o z)
  · simp only [List.mem_cons, List.not_mem_nil, or_false] at z
    rcases z with rfl | rfl | rfl | rfl
    · rfl
    · rfl
    · rfl
    · simp [WO.okN, FV.low]
end Dl
namespace Dl
open PySem PySem.Spec PyProof.Rows L2 NdefX
namespace Q2x
abbrev tb1 (C : Cs) : Sd := (sIf (tOr' (dTst (dBin (gNe C.room) (dCall C 47 (aCons (dName 5) aNil)) (dCall C 41 (aCons (dName 5) aNil)))) (dTru (dIsi .bool (dCall C 47 (aCons (dName 5) aNil))))) (sRet (dC (.bl false))) sNil)
abbrev tb2 (C : Cs) : Sd := (sIf (tOr' (dTst (dBin (gNe C.room) (dCall C 72 (aCons (dName 5) aNil)) (dBlt cLen (rCons (dCall C 63 (aCons (dName 5) aNil)) rNil)))) (dTst (dBin (gNe C.room) (dCall C 70 (aCons (dName 5) aNil)) (dCall C 71 (aCons (dName 5) aNil))))) (sRet (dC (.bl false))) sNil)
abbrev tb3 (C : Cs) : Sd := (sSetO 6 (dNewFl (rCons (dAsW (dCall C 68 (aCons (dName 5) aNil))) (rCons (dAsW (dCall C 128 (aCons (dName 5) aNil))) (rCons (dAsW (dCall C 127 (aCons (dName 5) aNil))) rNil)))))
abbrev tb4 (C : Cs) : Sd := (sSet 7 (dLst (aCons (dCall C 69 (aCons (dName 5) (aCons (dLst (aCons (dC (.str "letter")) (aCons (dC (.str "wait")) aNil))) aNil))) (aCons (dCall C 69 (aCons (dName 5) (aCons (dLst (aCons (dC (.str "name")) aNil)) aNil))) (aCons (dCall C 69 (aCons (dName 5) (aCons (dLst (aCons (dC (.str "mark")) aNil)) aNil))) aNil)))))
abbrev tb5 (C : Cs) : Sd := (sIf (tOr' (dTst (dNeFl C.room (dName 6) (dName 7))) (dTst (dBin (gGt C.room) (dBlt cLen (rCons (dCompF (iRefF (dName 6)) [8] 8 (tNot' (dTru (dIsiW .list (dName 8)))) (dName 8)) rNil)) (dC (.int 0))))) (sRet (dC (.bl false))) sNil)
abbrev tb6 (C : Cs) : Sd := (sForF (iRefF (dName 6)) 8 (sAppF (dName 8) (dC .non)))
abbrev tb7 (C : Cs) : Sd := (sIf (dTst (dBin (gNe C.room) (dLst (aCons (dCall C 68 (aCons (dName 5) aNil)) (aCons (dCall C 128 (aCons (dName 5) aNil)) (aCons (dCall C 127 (aCons (dName 5) aNil)) aNil)))) (dName 7))) (sRet (dC (.bl false))) sNil)
abbrev tbd (C : Cs) : Sd := sSeq (tb1 C) (sSeq (tb2 C) (sSeq (tb3 C) (sSeq (tb4 C) (sSeq (tb5 C) (sSeq (tb6 C) (tb7 C))))))
theorem k27_eq (C : Cs) : k27 C = sFor (iSeq (dLst (aCons (dName 3) (aCons (dName 4) (aCons (dCall C 66 (aCons (dName 3) (aCons (dName 4) aNil))) aNil))))) (gN 5) (tbd C) := rfl
structure Q2 (p : Pl) : Prop where
  ok : p.ok 0 = true
  sz : p.size < limN
  wi : p.within.length < 64
  dp : p.dep ≤ 60
def dr2 (p : Pl) : List D := (sortS (dedup p.drs)).map .str
def nm2 (p : Pl) : List D := (sortS (dedup p.nms)).map .str
def mk2 (p : Pl) : List D := (sortZ (dedupZ p.mks)).map .int
theorem depL_s : ∀ l : List Str, D.depL (l.map .str) = 0
  | [] => rfl
  | x :: l => by
    show max 0 (D.depL (l.map .str)) = 0
    rw [depL_s l]; rfl
theorem depL_i : ∀ l : List Int, D.depL (l.map .int) = 0
  | [] => rfl
  | x :: l => by
    show max 0 (D.depL (l.map .int)) = 0
    rw [depL_i l]; rfl
theorem due_dep (p : Pl) : (D.lst [.lst (dr2 p), .lst (nm2 p), .lst (mk2 p)]).dep ≤ 2 := by
  show max (D.depL (dr2 p) + 1) (max (D.depL (nm2 p) + 1) (max (D.depL (mk2 p) + 1) 0)) + 1 ≤ 2
  unfold dr2 nm2 mk2
  rw [depL_s, depL_s, depL_i]
  decide
theorem addA_s : (addA : List Str → Str → List Str) = keysAdd := rfl
theorem addA_i : (addA : List Int → Int → List Int) = addZ := rfl
section
variable {tbl : Nat → Option DefB} (T : Has02 tbl)
include T
theorem a_dr {p : Pl} {n : Nat} {w : World} (h : Q2 p) (hn : 100 ≤ n) : (Den tbl n).call 69 [.dat p.d, .dat (.lst [.str "letter", .str "wait"])] w = .ok (.fresh (dr2 p)) w := by
  obtain ⟨m, rfl, hm⟩ := succ_of (k := 99) hn
  have hr : 1 ≤ (Den tbl m).room := by rw [den_room]; omega
  have hd := h.dp
  have hw := h.wi
  refine all_of T.toHasAll (t := .str) (f := Pa.dk) (by omega) h.wi rfl (hin_s hr) (kn_dk hr) ?_
  rw [addA_s]
  refine sortA_s (l := dedup p.drs) ?_
  have h1 := dedup_len p.drs
  have h2 : p.drs.length ≤ p.within.length := by unfold Pl.drs; exact List.length_filterMap_le _ _
  omega
theorem a_nm {p : Pl} {n : Nat} {w : World} (h : Q2 p) (hn : 100 ≤ n) : (Den tbl n).call 69 [.dat p.d, .dat (.lst [.str "name"])] w = .ok (.fresh (nm2 p)) w := by
  obtain ⟨m, rfl, hm⟩ := succ_of (k := 99) hn
  have hr : 1 ≤ (Den tbl m).room := by rw [den_room]; omega
  have hd := h.dp
  have hw := h.wi
  refine all_of T.toHasAll (t := .str) (f := Pa.nm) (by omega) h.wi rfl (hin_s hr) (kn_nm hr) ?_
  rw [addA_s]
  refine sortA_s (l := dedup p.nms) ?_
  have h1 := dedup_len p.nms
  have h2 : p.nms.length ≤ p.within.length := by unfold Pl.nms; exact List.length_filterMap_le _ _
  omega
theorem a_mk {p : Pl} {n : Nat} {w : World} (h : Q2 p) (hn : 100 ≤ n) : (Den tbl n).call 69 [.dat p.d, .dat (.lst [.str "mark"])] w = .ok (.fresh (mk2 p)) w := by
  obtain ⟨m, rfl, hm⟩ := succ_of (k := 99) hn
  have hr : 1 ≤ (Den tbl m).room := by rw [den_room]; omega
  have hd := h.dp
  have hw := h.wi
  refine all_of T.toHasAll (t := .int) (f := Pa.mk) (by omega) h.wi rfl (hin_i hr) (kn_mk hr) ?_
  rw [addA_i]
  refine sortA_i (l := dedupZ p.mks) ?_
  have h1 := lenZ p.mks []
  have h2 : p.mks.length ≤ p.within.length := by unfold Pl.mks; exact List.length_filterMap_le _ _
  unfold dedupZ
  simp only [List.length_nil] at h1
  omega
theorem turn02 {p : Pl} {n : Nat} {w : World} {S b2 d3 d4 : D} {s6 s7 s8 : Sl} (h : Q2 p) (hn : 200 ≤ n) :
    ∃ s6' s7' s8', tbd (Den tbl n) [.dat S, .wref 0, .dat b2, .dat d3, .dat d4, .dat p.d, s6, s7, s8] w = .ok (.nx [.dat S, .wref 0, .dat b2, .dat d3, .dat d4, .dat p.d, s6', s7', s8']) (blk w (dr2 p ++ [.non]) (nm2 p ++ [.non]) (mk2 p ++ [.non])) := by
  have hd := h.dp
  have hw := h.wi
  have hr : 4 ≤ (Den tbl n).room := by rw [den_room]; omega
  have dd := due_dep p
  have lA : (dr2 p).length < 16777216 := by
    have h1 := dedup_len p.drs
    have h2 : p.drs.length ≤ p.within.length := by unfold Pl.drs; exact List.length_filterMap_le _ _
    have h3 : (dr2 p).length = (dedup p.drs).length := by unfold dr2 sortS; rw [List.length_map, List.length_mergeSort]
    omega
  have lB : (nm2 p).length < 16777216 := by
    have h1 := dedup_len p.nms
    have h2 : p.nms.length ≤ p.within.length := by unfold Pl.nms; exact List.length_filterMap_le _ _
    have h3 : (nm2 p).length = (dedup p.nms).length := by unfold nm2 sortS; rw [List.length_map, List.length_mergeSort]
    omega
  have lC : (mk2 p).length < 16777216 := by
    have h1 := lenZ p.mks []
    have h2 : p.mks.length ≤ p.within.length := by unfold Pl.mks; exact List.length_filterMap_le _ _
    have h3 : (mk2 p).length = (dedupZ p.mks).length := by unfold mk2 sortZ; rw [List.length_map, List.length_mergeSort]
    unfold dedupZ at h3
    simp only [List.length_nil] at h1
    omega
  have eA : ∀ w, (Den tbl n).call 68 [.dat p.d] w = .ok (.fresh (dr2 p)) w := fun w => c_doors T.toHasLb (by omega) h.ok hw
  have eB : ∀ w, (Den tbl n).call 128 [.dat p.d] w = .ok (.fresh (nm2 p)) w := fun w => c_namesA T.toHasLb (by omega) h.ok hw
  have eC : ∀ w, (Den tbl n).call 127 [.dat p.d] w = .ok (.fresh (mk2 p)) w := fun w => c_marksA T.toHasLb (by omega) h.ok hw
  have fA : ∀ w, (Den tbl n).call 69 [.dat p.d, .dat (.lst [.str "letter", .str "wait"])] w = .ok (.fresh (dr2 p)) w := fun w => a_dr T h (by omega)
  have fB : ∀ w, (Den tbl n).call 69 [.dat p.d, .dat (.lst [.str "name"])] w = .ok (.fresh (nm2 p)) w := fun w => a_nm T h (by omega)
  have fC : ∀ w, (Den tbl n).call 69 [.dat p.d, .dat (.lst [.str "mark"])] w = .ok (.fresh (mk2 p)) w := fun w => a_mk T h (by omega)
  have g1 : ∀ w, (Den tbl n).call 47 [.dat p.d] w = .ok (.dat (.int p.size)) w := fun w => c_size T.toHasZ0 (by omega) h.ok h.sz
  have g2 : ∀ w, (Den tbl n).call 41 [.dat p.d] w = .ok (.dat (.int p.size)) w := fun w => c_lsize02 T.toHasLS (by omega) (Pl.lim_size p 0 h.ok h.sz).1
  have g3 : ∀ w, (Den tbl n).call 72 [.dat p.d] w = .ok (.dat (.int p.within.length)) w := fun w => c_all72 T.toHasSm2 (by omega) h.ok (by omega)
  have g4 : ∀ w, (Den tbl n).call 63 [.dat p.d] w = .ok (.fresh (p.within.map Pa.d)) w := fun w => c_lparts T.toHasLpt p n w (by omega) (by omega)
  have g5 : ∀ w, (Den tbl n).call 70 [.dat p.d] w = .ok (.dat (.int p.dep)) w := fun w => c_nested70 T.toHasSm2 (by omega) h.ok (by omega)
  have g6 : ∀ w, (Den tbl n).call 71 [.dat p.d] w = .ok (.dat (.int p.dep)) w := fun w => c_ldeep2 T.toHasLd2 n p w (by omega) (by omega)
  have q1 : ∀ z : Nat, gNe (Den tbl n).room (.int z) (.int z) = some (.dat (.bl false)) := fun z => gNe_self (by show 0 ≤ _; omega)
  have q2 : gNe (Den tbl n).room (.lst [.lst (dr2 p), .lst (nm2 p), .lst (mk2 p)]) (.lst [.lst (dr2 p), .lst (nm2 p), .lst (mk2 p)]) = some (.dat (.bl false)) := gNe_self (by omega)
  have q3 : (D.lst [.lst (dr2 p), .lst (nm2 p), .lst (mk2 p)]).eq (.lst [.lst (dr2 p), .lst (nm2 p), .lst (mk2 p)]) = true := D.eq_refl _
  generalize hP : p.d = P at *
  generalize dr2 p = A at *
  generalize nm2 p = B at *
  generalize mk2 p = C3 at *
  have t1 : ∀ s6 s7 s8 w, tb1 (Den tbl n) [.dat S, .wref 0, .dat b2, .dat d3, .dat d4, .dat P, s6, s7, s8] w = .ok (.nx [.dat S, .wref 0, .dat b2, .dat d3, .dat d4, .dat P, s6, s7, s8]) w := fun s6 s7 s8 w => by
    simp [g1, g2, q1, isiK, vals1, gIsi, D.isTy]
  have t2 : ∀ s6 s7 s8 w, tb2 (Den tbl n) [.dat S, .wref 0, .dat b2, .dat d3, .dat d4, .dat P, s6, s7, s8] w = .ok (.nx [.dat S, .wref 0, .dat b2, .dat d3, .dat d4, .dat P, s6, s7, s8]) w := fun s6 s7 s8 w => by
    simp [g3, g4, g5, g6, q1]
  have t3 : tb3 (Den tbl n) [.dat S, .wref 0, .dat b2, .dat d3, .dat d4, .dat P, s6, s7, s8] w = .ok (.nx [.dat S, .wref 0, .dat b2, .dat d3, .dat d4, .dat P, .wref (w.length + 3), s7, s8]) (blk w A B C3) := by
    simp [eA, eB, eC, fvsOf, fvOf, blk]
  have t4 : tb4 (Den tbl n) [.dat S, .wref 0, .dat b2, .dat d3, .dat d4, .dat P, .wref (w.length + 3), s7, s8] (blk w A B C3) = .ok (.nx [.dat S, .wref 0, .dat b2, .dat d3, .dat d4, .dat P, .wref (w.length + 3), .own [.lst A, .lst B, .lst C3], s8]) (blk w A B C3) := by
    simp [fA, fB, fC]
  have fl : flsD (blk w A B C3) [.ref w.length, .ref (w.length + 1), .ref (w.length + 2)] = some [.lst A, .lst B, .lst C3] := by
    unfold flsD
    rw [blk_0]
    unfold flsD
    simp only
    rw [blk_1]
    unfold flsD
    simp only
    rw [blk_2]
    rfl
  have hz : min (D.lst [.lst A, .lst B, .lst C3]).dep (D.lst [.lst A, .lst B, .lst C3]).dep ≤ (Den tbl n).room := by omega
  have hz2 : (D.lst [.lst A, .lst B, .lst C3]).dep ≤ (Den tbl n).room := by omega
  have b3 := blk_3 (w := w) (a := A) (b := B) (c := C3)
  have c0 : curF (w.length + 3) (blk w A B C3) = some [.ref w.length, .ref (w.length + 1), .ref (w.length + 2)] := curF_ap blk_3
  have cg : ∀ e, compGoF 8 (tNot' (dTru (dIsiW .list (dName 8)))) (dName 8) [.dat S, .wref 0, .dat b2, .dat d3, .dat d4, .dat P, .wref (w.length + 3), e, .un] (curF (w.length + 3)) 4 0 (blk w A B C3) = .ok [] (blk w A B C3) := fun e => by
    simp [compGoF, c0, gR, isiW, blk_0, blk_1, blk_2, D.isTy]
  have t5 : tb5 (Den tbl n) [.dat S, .wref 0, .dat b2, .dat d3, .dat d4, .dat P, .wref (w.length + 3), .own [.lst A, .lst B, .lst C3], s8] (blk w A B C3) = .ok (.nx [.dat S, .wref 0, .dat b2, .dat d3, .dat d4, .dat P, .wref (w.length + 3), .own [.lst A, .lst B, .lst C3], s8]) (blk w A B C3) := by
    simp [b3, fl, hz2, q3, c0, cg, wipeE]
  have c1 : ∀ A' B' C', curF (w.length + 3) (blk w A' B' C') = some [.ref w.length, .ref (w.length + 1), .ref (w.length + 2)] := fun _ _ _ => curF_ap blk_3
  have t6 : tb6 (Den tbl n) [.dat S, .wref 0, .dat b2, .dat d3, .dat d4, .dat P, .wref (w.length + 3), .own [.lst A, .lst B, .lst C3], s8] (blk w A B C3) = .ok (.nx [.dat S, .wref 0, .dat b2, .dat d3, .dat d4, .dat P, .wref (w.length + 3), .own [.lst A, .lst B, .lst C3], .wref (w.length + 2)]) (blk w (A ++ [.non]) (B ++ [.non]) (C3 ++ [.non])) := by
    simp [b3, c1, forGoF, gR, blk_0, blk_1, blk_2, blk_s0, blk_s1, blk_s2, lA, lB, lC]
  have t7 : tb7 (Den tbl n) [.dat S, .wref 0, .dat b2, .dat d3, .dat d4, .dat P, .wref (w.length + 3), .own [.lst A, .lst B, .lst C3], .wref (w.length + 2)] (blk w (A ++ [.non]) (B ++ [.non]) (C3 ++ [.non])) = .ok (.nx [.dat S, .wref 0, .dat b2, .dat d3, .dat d4, .dat P, .wref (w.length + 3), .own [.lst A, .lst B, .lst C3], .wref (w.length + 2)]) (blk w (A ++ [.non]) (B ++ [.non]) (C3 ++ [.non])) := by
    simp [eA, eB, eC, q2]
  refine ⟨.wref (w.length + 3), .own [.lst A, .lst B, .lst C3], .wref (w.length + 2), ?_⟩
  show sSeq (tb1 (Den tbl n)) _ _ _ = _
  rw [sq02 (t1 _ _ _ _), sq02 (t2 _ _ _ _), sq02 t3, sq02 t4, sq02 t5, sq02 t6]
  exact t7
end
end Q2x
end Dl
namespace Dl
open PySem PySem.Spec PyProof.Rows L2 NdefX
namespace Q2x
abbrev rest02 (C : Cs) : Sd := sSeq (k22 C) (sSeq (k23 C) (sSeq (k24 C) (sSeq (k25 C) (sSeq (k26 C) (sSeq (k27 C) (sSeq (k28 C) (k29 C)))))))
theorem law02S (C : Cs) : b_law_700 C = sSeq (k21 C) (rest02 C) := rfl
mutual
theorem dr_no {ds ws : List Str} (j : Nat) : ∀ p : Pa, p.dr ds ws = true → p.has (.tup [.str "mark", .int j]) = false
  | .name y, h => by
    show (D.tup [.str "name", .str y]).eq (.tup [.str "mark", .int j]) = false
    simp [show ¬ (Str.ofString "name" = Str.ofString "mark") by decide +kernel]
  | .mark y, h => by cases h
  | .got y, h => by
    show (D.tup [.str "got", .int y]).eq (.tup [.str "mark", .int j]) = false
    simp [show ¬ (Str.ofString "got" = Str.ofString "mark") by decide +kernel]
  | .letter d b, h => by
    simp only [Pa.dr, Bool.and_eq_true] at h
    exact dr_noP j b h.2
  | .wait d b, h => by
    simp only [Pa.dr, Bool.and_eq_true] at h
    exact dr_noP j b h.2
theorem dr_noP {ds ws : List Str} (j : Nat) : ∀ p : Pl, p.dr ds ws = true → p.has (.tup [.str "mark", .int j]) = false
  | .nil, h => rfl
  | .cons c p r, h => by
    simp only [Pl.dr, Bool.and_eq_true] at h
    simp only [Pl.has, dr_no j p h.1, dr_noP j r h.2, Bool.or_false]
end
theorem doors_abcz : DoorsOf "abcz" := ⟨by decide +kernel, by decide +kernel, by decide +kernel⟩
theorem doors_adz : DoorsOf "adz" := ⟨by decide +kernel, by decide +kernel, by decide +kernel⟩
theorem words_xyyz : WordsOf ["x", "yy", "z"] := by
  refine ⟨by decide, fun x hx => ?_⟩
  simp only [List.mem_cons, List.not_mem_nil, or_false] at hx
  rcases hx with rfl | rfl | rfl <;> decide +kernel
theorem words_xw : WordsOf ["x", "w"] := by
  refine ⟨by decide, fun x hx => ?_⟩
  simp only [List.mem_cons, List.not_mem_nil, or_false] at hx
  rcases hx with rfl | rfl <;> decide +kernel
theorem wz02 : wordB "z" = true := by decide +kernel
theorem allL_t02 {w : World} (h : TapeOk [] w) : allL w = true := by
  obtain ⟨ns, pos, c2, c3, c4, rfl, _⟩ := h
  rfl
theorem pow30 : ∃ G : Nat, gPow (.int 10) (.int 30) = some (.dat (.int (G : Int))) ∧ G ≠ 7 := by
  refine ⟨10 ^ 30, ?_, by decide⟩
  rw [gPow_i, if_pos (by decide)]
  rfl
theorem fnx02 {g : Tgt} {b : Sd} {d : D} {ds : List D} {env env1 e : Ev} {w w1 : World} (hg : g d env = some env1) (hb : b env1 w = .ok (.nx e) w1) : forGo g b (d :: ds) env w = forGo g b ds e w1 := by
  rw [for_cons, hg]
  simp only [hb, bind_ok]
def mkO (j G : Nat) : Pl := .cons 1 (.mark j) (.cons 1 (.mark G) .nil)
theorem mkO_has {j G : Nat} (hj : j < 5) (hG : G ≠ 7) : (mkO j G).has (.tup [.str "mark", .int (7 : Nat)]) = false := by
  have h1 : ¬ ((j : Int) = 7) := by omega
  have h2 : ¬ ((G : Int) = 7) := by omega
  show ((D.tup [.str "mark", .int j]).eq (.tup [.str "mark", .int 7]) || ((D.tup [.str "mark", .int G]).eq (.tup [.str "mark", .int 7]) || false)) = false
  simp [h1, h2]
theorem big02 : 40 * gtB ^ 21 + 10 < limN := Nat.lt_of_lt_of_le (show 40 * gtB ^ 21 + 10 < 2 ^ 2200 by decide +kernel) (by unfold limN; exact Nat.pow_le_pow_right (by decide) (by decide))
section
variable {tbl : Nat → Option DefB} (T : Has02 tbl)
include T
theorem law02 {n : Nat} (hn : 300 ≤ n) {S : D} {w : World} (ht : TapeOk [] w) :
    ∃ w', rest02 (Den tbl n) [.dat S, .wref 0, .un, .un, .un, .un, .un, .un, .un] w = .ok (.rt (.dat (.bl true))) w' := by
  have big := big02
  -- drawn
  obtain ⟨r, w1, e1, t1, h1⟩ := c_pick T.toHasPk (n := n) (by omega) ht (m := 3) (by decide) (by decide)
  obtain ⟨r2, w2, e2, t2, h2⟩ := c_pick T.toHasPk (n := n) (by omega) t1 (m := 20) (by decide) (by decide)
  obtain ⟨p, w3, e3, t3, p1, p2, p3⟩ := c_lplan T.toHasLP doors_abcz words_xyyz (1 + r2) n (by omega) (by omega) 0 [] w2 (by omega) t2
  obtain ⟨r3, w4, e4, t4, h4⟩ := c_pick T.toHasPk (n := n) (by omega) t3 (m := 6) (by decide) (by decide)
  obtain ⟨q, w5, e5, t5, q1, q2, q3⟩ := c_lplan T.toHasLP doors_adz words_xw (1 + r3) n (by omega) (by omega) 0 [] w4 (by omega) t4
  have pw := Pl.within_size p 0 p1
  have pd := Pl.dep_size p 0 p1
  have qw := Pl.within_size q 0 q1
  have qd := Pl.dep_size q 0 q1
  have c1 : ((1 + r2 : Nat) : Int) = 1 + (r2 : Int) := by omega
  have c2 : ((1 + r3 : Nat) : Int) = 1 + (r3 : Int) := by omega
  rw [c1] at e3
  rw [c2] at e5
  simp only [List.map_cons, List.map_nil, show ((0 : Nat) : Int) = 0 from rfl] at e3 e5
  have s2 : k22 (Den tbl n) [.dat S, .wref 0, .un, .un, .un, .un, .un, .un, .un] w = .ok (.nx [.dat S, .wref 0, .dat (.bl (decide ((r : Int) = 0))), .un, .un, .un, .un, .un, .un]) w1 := by
    simp [e1]
  have s3 : ∀ b, k23 (Den tbl n) [.dat S, .wref 0, .dat (.bl b), .un, .un, .un, .un, .un, .un] w1 = .ok (.nx [.dat S, .wref 0, .dat (.bl b), .dat p.d, .un, .un, .un, .un, .un]) w3 := fun b => by
    simp [e2, e3]
  have s4 : ∀ b, k24 (Den tbl n) [.dat S, .wref 0, .dat (.bl b), .dat p.d, .un, .un, .un, .un, .un] w3 = .ok (.nx [.dat S, .wref 0, .dat (.bl b), .dat p.d, .dat q.d, .un, .un, .un, .un]) w5 := fun b => by
    simp [e4, e5]
  -- made great, perhaps
  have great : ∀ b, ∃ P w6, k25 (Den tbl n) [.dat S, .wref 0, .dat (.bl b), .dat p.d, .dat q.d, .un, .un, .un, .un] w5 = .ok (.nx [.dat S, .wref 0, .dat (.bl b), .dat (Pl.d P), .dat q.d, .un, .un, .un, .un]) w6 ∧ TapeOk [] w6 ∧ P.ok 0 = true ∧ P.size ≤ 20 * gtB ^ 21 ∧ P.within.length ≤ 20 ∧ P.dep ≤ 20 ∧ P.has (.tup [.str "mark", .int (7 : Nat)]) = false := fun b => by
    have one : 1 ≤ gtB ^ 21 := Nat.pow_pos gtB_pos
    cases b with
    | false => exact ⟨p, w5, by simp, t5, p1, by omega, by omega, by omega, dr_noP 7 p p3⟩
    | true =>
      obtain ⟨P, w6, e6, t6, g⟩ := c_great64 T.toHasGt (p := p) (n := n) (by omega) p1 (by omega) (by omega) t5
      refine ⟨P, w6, by simp [e6], t6, g.ok, ?_, by rw [g.wi]; omega, by rw [g.dp]; omega, by rw [g.hs]; exact dr_noP 7 p p3⟩
      refine Nat.le_trans g.sz (Nat.mul_le_mul (by omega) (Nat.pow_le_pow_right gtB_pos (by omega)))
  obtain ⟨P, w6, s5, t6, P1, P2, P3, P4, P5⟩ := great (decide ((r : Int) = 0))
  obtain ⟨j, w7, e7, t7, h7⟩ := c_pick T.toHasPk (n := n) (by omega) t6 (m := 5) (by decide) (by decide)
  obtain ⟨G, hG, hG7⟩ := pow30
  have o1 : (mkO j G).ok 0 = true := rfl
  have po : PutOk (mkO j G) P := ⟨P1, o1, by omega, by show 1 * 1 + (1 * 1 + 0) < limN; omega, by show P.within.length * (2 + 1) ≤ 5000; omega, by show P.dep + 0 ≤ 60; omega⟩
  have e8 := c_putZ T.toHasPz (x := "z") (o := mkO j G) (p := P) (n := n) (w := w7) wz02 (allL_t02 t7) po (by omega) (by show 2 ≤ 5000; decide) (by omega)
  obtain ⟨Z, hZ⟩ : ∃ Z, Z = P.put (.tup [.str "name", .str "z"]) (mkO j G) := ⟨_, rfl⟩
  rw [← hZ] at e8
  have Z1 : Z.ok 0 = true := by rw [hZ]; exact Pl.put_ok _ _ o1 P 0 0 P1
  have Z2 : Z.within.length ≤ 40 := by
    have a := put_wi (p := P) (o := mkO j G) (old_name "z")
    have b : plc (.tup [.str "name", .str "z"]) P.within ≤ P.within.length := List.length_filter_le _ _
    have c : (mkO j G).within.length = 2 := rfl
    rw [← hZ, c] at a
    omega
  have Z3 : Z.dep ≤ 20 := by
    have a : (P.put (.tup [.str "name", .str "z"]) (mkO j G)).dep ≤ P.dep + (mkO j G).dep := Pl.put_dep _ _ P 0
    have c : (mkO j G).dep = 0 := rfl
    rw [← hZ] at a
    omega
  have Z4 : Z.size ≤ 40 * gtB ^ 21 := by
    have a : (P.put (.tup [.str "name", .str "z"]) (mkO j G)).size + P.copies (.tup [.str "name", .str "z"]) = P.size + P.copies (.tup [.str "name", .str "z"]) * (mkO j G).size := Pl.put_size _ _ P 0
    have b := Pl.copies_le (.tup [.str "name", .str "z"]) P
    have c : (mkO j G).size = 2 := rfl
    rw [← hZ, c] at a
    omega
  have Z5 : Z.has (.tup [.str "mark", .int (7 : Nat)]) = false := by
    rw [hZ]
    exact Pl.put_has _ _ _ (mkO_has (by omega) hG7) P 0 fun z => by rw [P5] at z; cases z
  have s6 : ∀ b, k26 (Den tbl n) [.dat S, .wref 0, .dat (.bl b), .dat P.d, .dat q.d, .un, .un, .un, .un] w6 = .ok (.nx [.dat S, .wref 0, .dat (.bl b), .dat Z.d, .dat q.d, .un, .un, .un, .un]) w7 := fun b => by
    have e8' : (Den tbl n).call 73 [.dat (.tup P.ds), .dat (.str "z"), .dat (.tup [.tup [.int 1, .tup [.str "mark", .int j]], .tup [.int 1, .tup [.str "mark", .int G]]])] w7 = .ok (.dat (.tup Z.ds)) w7 := e8
    simp [-gPow_i, e7, hG, e8']
  -- the turns
  have QZ : Q2 Z := ⟨Z1, by omega, by omega, by omega⟩
  have Qq : Q2 q := ⟨q1, by omega, by omega, by omega⟩
  have QB : Q2 (Z.app q) := ⟨by rw [app_ok, Z1, q1]; rfl, by rw [app_size]; omega, by rw [app_within, List.length_append]; omega, by rw [app_dep]; omega⟩
  have eb : ∀ w, (Den tbl n).call 66 [.dat Z.d, .dat q.d] w = .ok (.dat (Z.app q).d) w := fun w => c_beside02 T.toHasSm2 Z1 q1 (by omega) (by omega) (by omega)
  have es : ∀ w, (Den tbl n).call 47 [.dat (Z.app q).d] w = .ok (.dat (.int (Z.app q).size)) w := fun w => c_size T.toHasZ0 (by have := QB.dp; omega) QB.ok QB.sz
  have es1 : ∀ w, (Den tbl n).call 47 [.dat Z.d] w = .ok (.dat (.int Z.size)) w := fun w => c_size T.toHasZ0 (by omega) Z1 QZ.sz
  have es2 : ∀ w, (Den tbl n).call 47 [.dat q.d] w = .ok (.dat (.int q.size)) w := fun w => c_size T.toHasZ0 (by omega) q1 Qq.sz
  have es3 : ∀ w, (Den tbl n).call 47 [.dat (.tup [])] w = .ok (.dat (.int 0)) w := fun w => c_size T.toHasZ0 (p := .nil) (by show 2 * 0 + 6 ≤ n; omega) rfl (by show 0 < limN; omega)
  have aL := allL_t02 t7
  have s7 : ∀ b, ∃ x5 x6 x7 x8 w8, k27 (Den tbl n) [.dat S, .wref 0, .dat (.bl b), .dat Z.d, .dat q.d, .un, .un, .un, .un] w7 = .ok (.nx [.dat S, .wref 0, .dat (.bl b), .dat Z.d, .dat q.d, x5, x6, x7, x8]) w8 ∧ allL w8 = true := fun b => by
    obtain ⟨a6, a7, a8, f1⟩ := turn02 T (w := w7) (S := S) (b2 := .bl b) (d3 := Z.d) (d4 := q.d) (s6 := .un) (s7 := .un) (s8 := .un) QZ (n := n) (by omega)
    obtain ⟨b6, b7, b8, f2⟩ := turn02 T (w := blk w7 (dr2 Z ++ [.non]) (nm2 Z ++ [.non]) (mk2 Z ++ [.non])) (S := S) (b2 := .bl b) (d3 := Z.d) (d4 := q.d) (s6 := a6) (s7 := a7) (s8 := a8) Qq (n := n) (by omega)
    obtain ⟨c6, c7, c8, f3⟩ := turn02 T (w := blk (blk w7 (dr2 Z ++ [.non]) (nm2 Z ++ [.non]) (mk2 Z ++ [.non])) (dr2 q ++ [.non]) (nm2 q ++ [.non]) (mk2 q ++ [.non])) (S := S) (b2 := .bl b) (d3 := Z.d) (d4 := q.d) (s6 := b6) (s7 := b7) (s8 := b8) QB (n := n) (by omega)
    refine ⟨.dat (Z.app q).d, c6, c7, c8, blk (blk (blk w7 (dr2 Z ++ [.non]) (nm2 Z ++ [.non]) (mk2 Z ++ [.non])) (dr2 q ++ [.non]) (nm2 q ++ [.non]) (mk2 q ++ [.non])) (dr2 (Z.app q) ++ [.non]) (nm2 (Z.app q) ++ [.non]) (mk2 (Z.app q) ++ [.non]), ?_, blk_L (blk_L (blk_L aL))⟩
    rw [k27_eq]
    have eb' := eb w7
    have src : ∀ env : Ev, env = [.dat S, .wref 0, .dat (.bl b), .dat Z.d, .dat q.d, .un, .un, .un, .un] → iSeq (dLst (aCons (dName 3) (aCons (dName 4) (aCons (dCall (Den tbl n) 66 (aCons (dName 3) (aCons (dName 4) aNil))) aNil)))) env w7 = .ok [Z.d, q.d, (Z.app q).d] w7 := fun env he => by
      subst he
      generalize Z.d = A at *
      generalize q.d = B at *
      generalize (Z.app q).d = C at *
      simp [eb']
    rw [sFor_ap, src _ rfl]
    simp only [bind_ok]
    rw [fnx02 rfl f1, fnx02 rfl f2, fnx02 rfl f3]
    rfl
  obtain ⟨x5, x6, x7, x8, w8, s7, a8⟩ := s7 (decide ((r : Int) = 0))
  -- the end
  have hr : 200 ≤ (Den tbl n).room := by rw [den_room]; omega
  have n1 : ∀ z : Int, gNe (Den tbl n).room (.int z) (.int z) = some (.dat (.bl false)) := fun z => gNe_self (by show 0 ≤ _; omega)
  have n2 : gNe (Den tbl n).room (Z.app q).d (Z.app q).d = some (.dat (.bl false)) := gNe_self (by have := Pl.dep_le (Z.app q); have := QB.dp; omega)
  have n3 : gEq (Den tbl n).room Z.d Z.d = some (.dat (.bl true)) := gEq_self (by have := Pl.dep_le Z; omega)
  have l1 := len_within Z
  have l2 := len_within q
  have hl : Z.ds.length + q.ds.length ≤ sizeLine := by rw [sizeLine_eq]; omega
  have ga : gAdd Z.d q.d = some (.dat (Z.app q).d) := by
    show gAdd (.tup Z.ds) (.tup q.ds) = some (.dat (.tup (Z.app q).ds))
    rw [gAdd_t, if_pos hl, app_ds]
  have gs : ((Z.app q).size : Int) = (Z.size : Int) + (q.size : Int) := by rw [app_size]; omega
  have em : (Den tbl n).call 65 [.dat Z.d, .dat (.int 7), .dat q.d] w8 = .ok (.dat Z.d) w8 := by
    have := c_markPutZ T.toHasMz (j := 7) (o := q) (p := Z) (n := n) (w := w8) a8 ⟨Z1, q1, QZ.sz, Qq.sz, Nat.le_trans (Nat.mul_le_mul Z2 (show q.within.length + 1 ≤ 7 by omega)) (by decide), by omega⟩ (by omega) (by omega) (by omega)
    rw [show Z.put (.tup [.str "mark", .int (7 : Nat)]) q = Z from Pl.put_none _ q Z 0 Z5] at this
    exact this
  rw [gs] at es
  generalize Z.d = A at *
  generalize q.d = B at *
  generalize (Z.app q).d = C at *
  have s8 : ∀ b, k28 (Den tbl n) [.dat S, .wref 0, .dat (.bl b), .dat A, .dat B, x5, x6, x7, x8] w8 = .ok (.nx [.dat S, .wref 0, .dat (.bl b), .dat A, .dat B, x5, x6, x7, x8]) w8 := fun b => by
    simp [eb, es, es1, es2, n1, n2, ga]
  have s9 : ∀ b, k29 (Den tbl n) [.dat S, .wref 0, .dat (.bl b), .dat A, .dat B, x5, x6, x7, x8] w8 = .ok (.rt (.dat (.bl true))) w8 := fun b => by
    have n4 : gEq (Den tbl n).room (.int 0) (.int 0) = some (.dat (.bl true)) := gEq_self (by show 0 ≤ _; omega)
    simp [em, n3, es3, n4]
  refine ⟨w8, ?_⟩
  show sSeq (k22 (Den tbl n)) _ _ _ = _
  rw [sq02 s2, sq02 (s3 _), sq02 (s4 _), sq02 s5, sq02 (s6 _), sq02 s7, sq02 (s8 _)]
  exact s9 _
end
end Q2x
end Dl
namespace Dl
open PySem PySem.Spec PyProof.Rows L2 NdefX
namespace K02
abbrev FnP (K : PySem.W.Frag) (x : Str) (st : Stmt) (f : Addr) (fd : FuncData) : Prop := FunD K x x (defArgs st) (defBody st) (defScope st) [] [] f fd
def rowsD : List (Nat × DefB) := [(1, ⟨1, 1, b_is_integer⟩), (2, ⟨3, 3, b_is_within⟩), (4, ⟨1, 1, b_is_pair⟩), (27, ⟨1, 1, b_is_triple⟩), (24, ⟨1, 2, b_is_word⟩), (26, ⟨1, 1, b_is_door⟩), (28, ⟨2, 2, b_is_part⟩), (25, ⟨2, 3, b_is_plan_in⟩), (31, ⟨1, 1, b_check_plan⟩), (60, ⟨2, 2, b_check_two⟩), (37, ⟨1, 1, b_check_word⟩), (30, ⟨1, 1, b_part_size⟩), (29, ⟨1, 3, b_size_of⟩), (47, ⟨1, 1, b_size⟩), (32, ⟨1, 4, b_parts_within⟩), (52, ⟨1, 1, b_items_in⟩), (51, ⟨1, 3, b_nesting⟩), (53, ⟨1, 1, b_check_room⟩), (59, ⟨1, 1, b_roomy⟩), (72, ⟨1, 1, b_all_items⟩), (70, ⟨1, 1, b_nested⟩), (54, ⟨1, 2, b_doors_of⟩), (124, ⟨2, 3, b_labels_of_124⟩), (68, ⟨1, 1, b_doors⟩), (128, ⟨1, 1, b_names_128⟩), (127, ⟨1, 1, b_marks_127⟩), (34, ⟨3, 8, b_mapped⟩), (57, ⟨3, 4, b_raised⟩), (58, ⟨3, 3, b_replaced⟩), (61, ⟨3, 5, b_roomy_replaced⟩), (66, ⟨2, 2, b_beside⟩), (73, ⟨3, 3, b_put⟩), (62, ⟨1, 1, b_check_mark⟩), (65, ⟨3, 3, b_mark_put⟩), (22, ⟨1, 1, b__law_tape⟩), (11, ⟨2, 5, b__law_pick⟩), (40, ⟨5, 9, b__law_plan⟩), (39, ⟨5, 7, b__law_part⟩), (38, ⟨1, 1, b__law_part_size⟩), (41, ⟨1, 3, b__law_size⟩), (63, ⟨1, 4, b__law_parts⟩), (64, ⟨2, 5, b__law_great_64⟩), (69, ⟨2, 4, b__law_all⟩), (71, ⟨1, 3, b__law_deep⟩), (700, ⟨1, 9, b_law_700⟩), (55, ⟨4, 4, b_raised'clo⟩), (56, ⟨4, 4, fun C => sRet (b_replaced'clo C)⟩)]
def tbl (i : Nat) : Option DefB := rowsD.lookup i
def x_raised : ND := ⟨"lift", "raised.<locals>.lift", C8.fnArgs (stAt 0 (defBody (top 39))), .inl (C8.fnBody (stAt 0 (defBody (top 39)))), C8.fnScope (stAt 0 (defBody (top 39))), ["part", "depth"], ["least", "by"]⟩
def x_replaced : ND := ndLam (lamIn (defBody (top 40))) "replaced.<locals>.<lambda>" ["part", "depth"] ["old", "other"]
def ndT (i : Nat) : Option ND := if i = 55 then some x_raised else if i = 56 then some x_replaced else none
abbrev T0 (cts : Cts) : Tbs := TT ndT cts
structure Facts (K : PySem.W.Frag) (w : PySem.World) (mg : Str → Option Value) (cts : Cts) : Prop where
  f_is_integer : ∃ a fd, mg "is_integer" = some (.ref a) ∧ FnP K "is_integer" (top 9) a fd
  f_is_within : ∃ a fd, mg "is_within" = some (.ref a) ∧ FnP K "is_within" (top 10) a fd
  f_is_pair : ∃ a fd, mg "is_pair" = some (.ref a) ∧ FnP K "is_pair" (top 11) a fd
  f_is_triple : ∃ a fd, mg "is_triple" = some (.ref a) ∧ FnP K "is_triple" (top 12) a fd
  f_is_word : ∃ a fd, mg "is_word" = some (.ref a) ∧ FnP K "is_word" (top 13) a fd
  f_is_door : ∃ a fd, mg "is_door" = some (.ref a) ∧ FnP K "is_door" (top 14) a fd
  f_is_part : ∃ a fd, mg "is_part" = some (.ref a) ∧ FnP K "is_part" (top 15) a fd
  f_is_plan_in : ∃ a fd, mg "is_plan_in" = some (.ref a) ∧ FnP K "is_plan_in" (top 16) a fd
  f_check_plan : ∃ a fd, mg "check_plan" = some (.ref a) ∧ FnP K "check_plan" (top 17) a fd
  f_check_two : ∃ a fd, mg "check_two" = some (.ref a) ∧ FnP K "check_two" (top 18) a fd
  f_check_word : ∃ a fd, mg "check_word" = some (.ref a) ∧ FnP K "check_word" (top 19) a fd
  f_part_size : ∃ a fd, mg "part_size" = some (.ref a) ∧ FnP K "part_size" (top 23) a fd
  f_size_of : ∃ a fd, mg "size_of" = some (.ref a) ∧ FnP K "size_of" (top 24) a fd
  f_size : ∃ a fd, mg "size" = some (.ref a) ∧ FnP K "size" (top 25) a fd
  f_parts_within : ∃ a fd, mg "parts_within" = some (.ref a) ∧ FnP K "parts_within" (top 26) a fd
  f_items_in : ∃ a fd, mg "items_in" = some (.ref a) ∧ FnP K "items_in" (top 27) a fd
  f_nesting : ∃ a fd, mg "nesting" = some (.ref a) ∧ FnP K "nesting" (top 28) a fd
  f_check_room : ∃ a fd, mg "check_room" = some (.ref a) ∧ FnP K "check_room" (top 29) a fd
  f_roomy : ∃ a fd, mg "roomy" = some (.ref a) ∧ FnP K "roomy" (top 30) a fd
  f_all_items : ∃ a fd, mg "all_items" = some (.ref a) ∧ FnP K "all_items" (top 31) a fd
  f_nested : ∃ a fd, mg "nested" = some (.ref a) ∧ FnP K "nested" (top 32) a fd
  f_doors_of : ∃ a fd, mg "doors_of" = some (.ref a) ∧ FnP K "doors_of" (top 33) a fd
  f_labels_of : ∃ a fd, mg "labels_of" = some (.ref a) ∧ FnP K "labels_of" (top 34) a fd
  f_doors : ∃ a fd, mg "doors" = some (.ref a) ∧ FnP K "doors" (top 35) a fd
  f_names : ∃ a fd, mg "names" = some (.ref a) ∧ FnP K "names" (top 36) a fd
  f_marks : ∃ a fd, mg "marks" = some (.ref a) ∧ FnP K "marks" (top 37) a fd
  f_mapped : ∃ a fd, mg "mapped" = some (.ref a) ∧ FnP K "mapped" (top 38) a fd
  f_raised : ∃ a fd c Pt, mg "raised" = some (.ref a) ∧ FnP K "raised" (top 39) a fd ∧ fd.code = .ref c ∧ ((c, Pt, ("raised.<locals>.lift" : Str)) : Addr × Addr × Str) ∈ cts
  f_replaced : ∃ a fd c Pt, mg "replaced" = some (.ref a) ∧ FnP K "replaced" (top 40) a fd ∧ fd.code = .ref c ∧ ((c, Pt, ("replaced.<locals>.<lambda>" : Str)) : Addr × Addr × Str) ∈ cts
  f_roomy_replaced : ∃ a fd, mg "roomy_replaced" = some (.ref a) ∧ FnP K "roomy_replaced" (top 41) a fd
  f_beside : ∃ a fd, mg "beside" = some (.ref a) ∧ FnP K "beside" (top 42) a fd
  f_put : ∃ a fd, mg "put" = some (.ref a) ∧ FnP K "put" (top 43) a fd
  f_check_mark : ∃ a fd, mg "check_mark" = some (.ref a) ∧ FnP K "check_mark" (top 44) a fd
  f_mark_put : ∃ a fd, mg "mark_put" = some (.ref a) ∧ FnP K "mark_put" (top 45) a fd
  f__law_tape : ∃ a fd, mg "_law_tape" = some (.ref a) ∧ FnP K "_law_tape" (top 47) a fd
  f__law_pick : ∃ a fd, mg "_law_pick" = some (.ref a) ∧ FnP K "_law_pick" (top 48) a fd
  f__law_plan : ∃ a fd, mg "_law_plan" = some (.ref a) ∧ FnP K "_law_plan" (top 49) a fd
  f__law_part : ∃ a fd, mg "_law_part" = some (.ref a) ∧ FnP K "_law_part" (top 50) a fd
  f__law_part_size : ∃ a fd, mg "_law_part_size" = some (.ref a) ∧ FnP K "_law_part_size" (top 51) a fd
  f__law_size : ∃ a fd, mg "_law_size" = some (.ref a) ∧ FnP K "_law_size" (top 52) a fd
  f__law_parts : ∃ a fd, mg "_law_parts" = some (.ref a) ∧ FnP K "_law_parts" (top 53) a fd
  f__law_great : ∃ a fd, mg "_law_great" = some (.ref a) ∧ FnP K "_law_great" (top 54) a fd
  f__law_all : ∃ a fd, mg "_law_all" = some (.ref a) ∧ FnP K "_law_all" (top 55) a fd
  f__law_deep : ∃ a fd, mg "_law_deep" = some (.ref a) ∧ FnP K "_law_deep" (top 56) a fd
  f_law : ∃ a fd, mg "law" = some (.ref a) ∧ FnP K "law" (top 57) a fd
  h_all : mg "all" = none
  h_bool : mg "bool" = none
  h_int : mg "int" = none
  h_isinstance : mg "isinstance" = none
  h_len : mg "len" = none
  h_list : mg "list" = none
  h_max : mg "max" = none
  h_range : mg "range" = none
  h_sorted : mg "sorted" = none
  h_str : mg "str" = none
  h_sum : mg "sum" = none
  h_tuple : mg "tuple" = none
  k_SMALL : ∃ t, mg "SMALL" = some (.str "abcdefghijklmnopqrstuvwxyz" t)
  k_MOST_WORD : ∃ t, mg "MOST_WORD" = some (.int 8 t)
  k_MOST_ITEMS : ∃ t, mg "MOST_ITEMS" = some (.int 5000 t)
  k_MOST_NESTED : ∃ t, mg "MOST_NESTED" = some (.int 120 t)
  x_NoMark : XcF K mg "NoMark"
  x_NoPlan : XcF K mg "NoPlan"
  x_NoWord : XcF K mg "NoWord"
  x_TooMany : XoF K mg "TooMany" "most"
structure Defs (P : Program) (w : PySem.World) (K : PySem.W.Frag) (mg : Str → Option Value) (base : Heap) (cts : Cts) (n : Nat) : Prop where
  c_is_integer : Dfn P w K mg base (T0 cts) (Den tbl n) n "is_integer" 1
  c_is_within : Dfn P w K mg base (T0 cts) (Den tbl n) n "is_within" 2
  c_is_pair : Dfn P w K mg base (T0 cts) (Den tbl n) n "is_pair" 4
  c_is_triple : Dfn P w K mg base (T0 cts) (Den tbl n) n "is_triple" 27
  c_is_word : Dfn P w K mg base (T0 cts) (Den tbl n) n "is_word" 24
  c_is_door : Dfn P w K mg base (T0 cts) (Den tbl n) n "is_door" 26
  c_is_part : Dfn P w K mg base (T0 cts) (Den tbl n) n "is_part" 28
  c_is_plan_in : Dfn P w K mg base (T0 cts) (Den tbl n) n "is_plan_in" 25
  c_check_plan : Dfn P w K mg base (T0 cts) (Den tbl n) n "check_plan" 31
  c_check_two : Dfn P w K mg base (T0 cts) (Den tbl n) n "check_two" 60
  c_check_word : Dfn P w K mg base (T0 cts) (Den tbl n) n "check_word" 37
  c_part_size : Dfn P w K mg base (T0 cts) (Den tbl n) n "part_size" 30
  c_size_of : Dfn P w K mg base (T0 cts) (Den tbl n) n "size_of" 29
  c_size : Dfn P w K mg base (T0 cts) (Den tbl n) n "size" 47
  c_parts_within : Dfn P w K mg base (T0 cts) (Den tbl n) n "parts_within" 32
  c_items_in : Dfn P w K mg base (T0 cts) (Den tbl n) n "items_in" 52
  c_nesting : Dfn P w K mg base (T0 cts) (Den tbl n) n "nesting" 51
  c_check_room : Dfn P w K mg base (T0 cts) (Den tbl n) n "check_room" 53
  c_roomy : Dfn P w K mg base (T0 cts) (Den tbl n) n "roomy" 59
  c_all_items : Dfn P w K mg base (T0 cts) (Den tbl n) n "all_items" 72
  c_nested : Dfn P w K mg base (T0 cts) (Den tbl n) n "nested" 70
  c_doors_of : Dfn P w K mg base (T0 cts) (Den tbl n) n "doors_of" 54
  c_labels_of : Dfn P w K mg base (T0 cts) (Den tbl n) n "labels_of" 124
  c_doors : Dfn P w K mg base (T0 cts) (Den tbl n) n "doors" 68
  c_names : Dfn P w K mg base (T0 cts) (Den tbl n) n "names" 128
  c_marks : Dfn P w K mg base (T0 cts) (Den tbl n) n "marks" 127
  c_mapped : Dfn P w K mg base (T0 cts) (Den tbl n) n "mapped" 34
  c_raised : Dfn P w K mg base (T0 cts) (Den tbl n) n "raised" 57
  c_replaced : Dfn P w K mg base (T0 cts) (Den tbl n) n "replaced" 58
  c_roomy_replaced : Dfn P w K mg base (T0 cts) (Den tbl n) n "roomy_replaced" 61
  c_beside : Dfn P w K mg base (T0 cts) (Den tbl n) n "beside" 66
  c_put : Dfn P w K mg base (T0 cts) (Den tbl n) n "put" 73
  c_check_mark : Dfn P w K mg base (T0 cts) (Den tbl n) n "check_mark" 62
  c_mark_put : Dfn P w K mg base (T0 cts) (Den tbl n) n "mark_put" 65
  c__law_tape : Dfn P w K mg base (T0 cts) (Den tbl n) n "_law_tape" 22
  c__law_pick : Dfn P w K mg base (T0 cts) (Den tbl n) n "_law_pick" 11
  c__law_plan : Dfn P w K mg base (T0 cts) (Den tbl n) n "_law_plan" 40
  c__law_part : Dfn P w K mg base (T0 cts) (Den tbl n) n "_law_part" 39
  c__law_part_size : Dfn P w K mg base (T0 cts) (Den tbl n) n "_law_part_size" 38
  c__law_size : Dfn P w K mg base (T0 cts) (Den tbl n) n "_law_size" 41
  c__law_parts : Dfn P w K mg base (T0 cts) (Den tbl n) n "_law_parts" 63
  c__law_great : Dfn P w K mg base (T0 cts) (Den tbl n) n "_law_great" 64
  c__law_all : Dfn P w K mg base (T0 cts) (Den tbl n) n "_law_all" 69
  c__law_deep : Dfn P w K mg base (T0 cts) (Den tbl n) n "_law_deep" 71
  c_law : Dfn P w K mg base (T0 cts) (Den tbl n) n "law" 700
  clos : Clos P w K mg base (T0 cts) (Den tbl n) n
section
variable {P : Program} {w : PySem.World} {K : PySem.W.Frag} {mg : Str → Option Value} {base : Heap} {n : Nat} {cts : Cts}
theorem sc_x_raised : NScope ["part", "depth", "least", "by"] x_raised.ps x_raised.fr x_raised.scope := nscope_by (by decide +kernel)
theorem ck_raised {caps : List D} (E : Facts K w mg cts) (D : Defs P w K mg base cts n) (hc : caps.length = x_raised.fr.length) : COk P w K mg base (n + 1) x_raised (spC ⟨K, mg, (T0 cts)⟩ ((Den tbl (n + 1)).call 55) caps) := by
  refine clo_def (N := ["part", "depth", "least", "by"]) (nd := x_raised) (b := (C8.fnBody (stAt 0 (defBody (top 39))))) (bd := b_raised'clo) rfl sc_x_raised (fun cl c' doc pm ctv us hl => match us, hl with | [_, _], _ => rfl) rfl hc fun f cl c' A outer s H E0 hr => ?_
  have nd : (["part", "depth", "least", "by"] : List Str).Nodup := sc_x_raised.nd
  have hu : (A.deeper (envF ((x_raised).nf (C8.fnBody (stAt 0 (defBody (top 39)))) cl c') f s.heap.objs.size)).units + (Den tbl n).room < cLine := by rw [den_room]; have := hr.un; omega
  unfold b_raised'clo
  refine jss_cons ?_ ?_
  · refine js_if (jt_bool (jw_and (jt_cmp (os_eq hu) (je_ix (je_name (pv 0)) je_int) je_str) (jw_and1 (jt_cmp (os_ge hu) (je_ix (je_name (pv 0)) je_int) (je_bin os_add (je_name (pv 1)) (je_name (pv 2))))))) ?_ ?_
    · refine jss_one ?_
      exact (js_ret (je_tup (ja_cons (je_tup (ja_cons je_int (ja_cons (je_tup (ja_cons je_str (ja_cons (je_bin os_add (je_ix (je_name (pv 0)) je_int) (je_name (pv 3))) ja_nil))) ja_nil))) ja_nil)))
    exact jss_nil
  refine jss_one ?_
  exact (js_ret (je_tup (ja_cons (je_tup (ja_cons je_int (ja_cons (je_name (pv 0)) ja_nil))) ja_nil)))
theorem sc_x_replaced : NScope ["part", "depth", "old", "other"] x_replaced.ps x_replaced.fr x_replaced.scope := nscope_by (by decide +kernel)
theorem ck_replaced {caps : List D} (E : Facts K w mg cts) (D : Defs P w K mg base cts n) (hc : caps.length = x_replaced.fr.length) : COk P w K mg base (n + 1) x_replaced (spC ⟨K, mg, (T0 cts)⟩ ((Den tbl (n + 1)).call 56) caps) := by
  refine clo_lam (N := ["part", "depth", "old", "other"]) (nd := x_replaced) (ed := b_replaced'clo) rfl sc_x_replaced (fun cl c' pm ctv us hl => match us, hl with | [_, _], _ => rfl) rfl hc fun f cl c' A outer s H E0 hr => ?_
  have nd : (["part", "depth", "old", "other"] : List Str).Nodup := sc_x_replaced.nd
  have hu : (A.deeper (envF ((x_replaced).nf [] cl c') f s.heap.objs.size)).units + (Den tbl n).room < cLine := by rw [den_room]; have := hr.un; omega
  unfold b_replaced'clo
  exact (je_if (jt_cmp (os_eq hu) (je_name (pv 0)) (je_name (pv 2))) (je_call D.c_raised.cal hr takesN rfl (ja_cons (je_name (pv 3)) (ja_cons (je_name (pv 1)) (ja_cons je_int ja_nil)))) (je_tup (ja_cons (je_tup (ja_cons je_int (ja_cons (je_name (pv 0)) ja_nil))) ja_nil)))
theorem cls_succ (E : Facts K w mg cts) (D : Defs P w K mg base cts n) : Clos P w K mg base (T0 cts) (Den tbl (n + 1)) (n + 1) := by
  intro i nd caps hi hc
  have hi : ndT i = some nd := hi
  unfold ndT at hi
  split at hi
  · rename_i ei; cases hi; subst ei; exact ck_raised E D hc
  split at hi
  · rename_i ei; cases hi; subst ei; exact ck_replaced E D hc
  · cases hi
theorem sc_is_integer : FnScope ["thing"] ["thing"] (defScope (top 9)) := ⟨rfl, rfl, rfl, by decide +kernel, rfl, by decide +kernel, by decide +kernel⟩
theorem fo_is_integer (E : Facts K w mg cts) (D : Defs P w K mg base cts n) {f : Addr} {fd : FuncData} (F : FnP K "is_integer" (top 9) f fd) : FnG P w K mg base (L2N.CX P w) (n + 1) f fd ["thing"] (spD ⟨K, mg, (T0 cts)⟩ ((Den tbl (n + 1)).call 1)) := by
  refine def_ok F sc_is_integer (bd := b_is_integer) rfl fun cdv A outer s H E0 hr => ?_
  have nd := (sc_is_integer).nd
  have hu : (A.deeper (envOfC "is_integer" (defScope (top 9)) s.heap.objs.size f cdv)).units + (Den tbl n).room < cLine := by rw [den_room]; have := hr.un; omega
  have tk : L2N.Takes (cxOf (L2N.CX P w) P w K mg base ["thing"] "is_integer" (defScope (top 9)) f cdv A outer s H E0) (fun cls d _ H => E0 cls d H) := L2N.takes_of rfl rfl rfl rfl
  unfold b_is_integer
  refine jss_one ?_
  exact (js_ret (je_and (je_isi rfl E.h_isinstance rfl E.h_int (by decide +kernel) (je_name (pv 0))) (je_one (je_not (je_isi rfl E.h_isinstance rfl E.h_bool (by decide +kernel) (je_name (pv 0)))))))
theorem ok_is_integer (E : Facts K w mg cts) (B : Makes base mg cts) (D : Defs P w K mg base cts n) : Dfn P w K mg base (T0 cts) (Den tbl (n + 1)) (n + 1) "is_integer" 1 := by
  obtain ⟨f, fd, hf, F⟩ := E.f_is_integer
  exact ⟨f, fd, ["thing"], hf, F.kp, F.bindsN fun _ _ _ _ _ _ us hl => (match us, hl with | [_], _ => rfl), fo_is_integer E D F⟩
theorem sc_is_within : FnScope ["thing", "least", "most"] ["thing", "least", "most"] (defScope (top 10)) := ⟨rfl, rfl, rfl, by decide +kernel, rfl, by decide +kernel, by decide +kernel⟩
theorem fo_is_within (E : Facts K w mg cts) (D : Defs P w K mg base cts n) {f : Addr} {fd : FuncData} (F : FnP K "is_within" (top 10) f fd) : FnG P w K mg base (L2N.CX P w) (n + 1) f fd ["thing", "least", "most"] (spD ⟨K, mg, (T0 cts)⟩ ((Den tbl (n + 1)).call 2)) := by
  refine def_ok F sc_is_within (bd := b_is_within) rfl fun cdv A outer s H E0 hr => ?_
  have nd := (sc_is_within).nd
  have hu : (A.deeper (envOfC "is_within" (defScope (top 10)) s.heap.objs.size f cdv)).units + (Den tbl n).room < cLine := by rw [den_room]; have := hr.un; omega
  have tk : L2N.Takes (cxOf (L2N.CX P w) P w K mg base ["thing", "least", "most"] "is_within" (defScope (top 10)) f cdv A outer s H E0) (fun cls d _ H => E0 cls d H) := L2N.takes_of rfl rfl rfl rfl
  unfold b_is_within
  refine jss_one ?_
  exact (js_ret (je_and (je_call D.c_is_integer.cal hr tk rfl (ja_cons (je_name (pv 0)) ja_nil)) (je_one (je_chain (os_le hu) (os_le hu) (je_name (pv 1)) (je_name (pv 0)) (je_name (pv 2))))))
theorem ok_is_within (E : Facts K w mg cts) (B : Makes base mg cts) (D : Defs P w K mg base cts n) : Dfn P w K mg base (T0 cts) (Den tbl (n + 1)) (n + 1) "is_within" 2 := by
  obtain ⟨f, fd, hf, F⟩ := E.f_is_within
  exact ⟨f, fd, ["thing", "least", "most"], hf, F.kp, F.bindsN fun _ _ _ _ _ _ us hl => (match us, hl with | [_, _, _], _ => rfl), fo_is_within E D F⟩
theorem sc_is_pair : FnScope ["thing"] ["thing"] (defScope (top 11)) := ⟨rfl, rfl, rfl, by decide +kernel, rfl, by decide +kernel, by decide +kernel⟩
theorem fo_is_pair (E : Facts K w mg cts) (D : Defs P w K mg base cts n) {f : Addr} {fd : FuncData} (F : FnP K "is_pair" (top 11) f fd) : FnG P w K mg base (L2N.CX P w) (n + 1) f fd ["thing"] (spD ⟨K, mg, (T0 cts)⟩ ((Den tbl (n + 1)).call 4)) := by
  refine def_ok F sc_is_pair (bd := b_is_pair) rfl fun cdv A outer s H E0 hr => ?_
  have nd := (sc_is_pair).nd
  have hu : (A.deeper (envOfC "is_pair" (defScope (top 11)) s.heap.objs.size f cdv)).units + (Den tbl n).room < cLine := by rw [den_room]; have := hr.un; omega
  have tk : L2N.Takes (cxOf (L2N.CX P w) P w K mg base ["thing"] "is_pair" (defScope (top 11)) f cdv A outer s H E0) (fun cls d _ H => E0 cls d H) := L2N.takes_of rfl rfl rfl rfl
  unfold b_is_pair
  refine jss_one ?_
  exact (js_ret (je_and (je_isi rfl E.h_isinstance rfl E.h_tuple (by decide +kernel) (je_name (pv 0))) (je_one (je_cmp (os_eq hu) (je_blt cs_len rfl E.h_len boot_len (jr_cons (je_name (pv 0)) jr_nil)) je_int))))
theorem ok_is_pair (E : Facts K w mg cts) (B : Makes base mg cts) (D : Defs P w K mg base cts n) : Dfn P w K mg base (T0 cts) (Den tbl (n + 1)) (n + 1) "is_pair" 4 := by
  obtain ⟨f, fd, hf, F⟩ := E.f_is_pair
  exact ⟨f, fd, ["thing"], hf, F.kp, F.bindsN fun _ _ _ _ _ _ us hl => (match us, hl with | [_], _ => rfl), fo_is_pair E D F⟩
theorem sc_is_triple : FnScope ["thing"] ["thing"] (defScope (top 12)) := ⟨rfl, rfl, rfl, by decide +kernel, rfl, by decide +kernel, by decide +kernel⟩
theorem fo_is_triple (E : Facts K w mg cts) (D : Defs P w K mg base cts n) {f : Addr} {fd : FuncData} (F : FnP K "is_triple" (top 12) f fd) : FnG P w K mg base (L2N.CX P w) (n + 1) f fd ["thing"] (spD ⟨K, mg, (T0 cts)⟩ ((Den tbl (n + 1)).call 27)) := by
  refine def_ok F sc_is_triple (bd := b_is_triple) rfl fun cdv A outer s H E0 hr => ?_
  have nd := (sc_is_triple).nd
  have hu : (A.deeper (envOfC "is_triple" (defScope (top 12)) s.heap.objs.size f cdv)).units + (Den tbl n).room < cLine := by rw [den_room]; have := hr.un; omega
  have tk : L2N.Takes (cxOf (L2N.CX P w) P w K mg base ["thing"] "is_triple" (defScope (top 12)) f cdv A outer s H E0) (fun cls d _ H => E0 cls d H) := L2N.takes_of rfl rfl rfl rfl
  unfold b_is_triple
  refine jss_one ?_
  exact (js_ret (je_and (je_isi rfl E.h_isinstance rfl E.h_tuple (by decide +kernel) (je_name (pv 0))) (je_one (je_cmp (os_eq hu) (je_blt cs_len rfl E.h_len boot_len (jr_cons (je_name (pv 0)) jr_nil)) je_int))))
theorem ok_is_triple (E : Facts K w mg cts) (B : Makes base mg cts) (D : Defs P w K mg base cts n) : Dfn P w K mg base (T0 cts) (Den tbl (n + 1)) (n + 1) "is_triple" 27 := by
  obtain ⟨f, fd, hf, F⟩ := E.f_is_triple
  exact ⟨f, fd, ["thing"], hf, F.kp, F.bindsN fun _ _ _ _ _ _ us hl => (match us, hl with | [_], _ => rfl), fo_is_triple E D F⟩
theorem sc_is_word : FnScope ["thing", "sign"] ["thing"] (defScope (top 13)) := ⟨rfl, rfl, rfl, by decide +kernel, rfl, by decide +kernel, by decide +kernel⟩
theorem fo_is_word (E : Facts K w mg cts) (D : Defs P w K mg base cts n) {f : Addr} {fd : FuncData} (F : FnP K "is_word" (top 13) f fd) : FnG P w K mg base (L2N.CX P w) (n + 1) f fd ["thing"] (spD ⟨K, mg, (T0 cts)⟩ ((Den tbl (n + 1)).call 24)) := by
  refine def_ok F sc_is_word (bd := b_is_word) rfl fun cdv A outer s H E0 hr => ?_
  have nd := (sc_is_word).nd
  have hu : (A.deeper (envOfC "is_word" (defScope (top 13)) s.heap.objs.size f cdv)).units + (Den tbl n).room < cLine := by rw [den_room]; have := hr.un; omega
  have tk : L2N.Takes (cxOf (L2N.CX P w) P w K mg base ["thing", "sign"] "is_word" (defScope (top 13)) f cdv A outer s H E0) (fun cls d _ H => E0 cls d H) := L2N.takes_of rfl rfl rfl rfl
  unfold b_is_word
  refine jss_cons ?_ ?_
  · refine js_if (jt_bool (jw_or (jt_not (jt_truth (je_isi rfl E.h_isinstance rfl E.h_str (by decide +kernel) (je_name (pv 0))))) (jw_or1 (jt_not (jt_chain (os_le hu) (os_le hu) je_int (je_blt cs_len rfl E.h_len boot_len (jr_cons (je_name (pv 0)) jr_nil)) (je_const (pe_globI rfl E.k_MOST_WORD) (fun _ => .int _))))))) ?_ ?_
    · refine jss_one ?_
      exact (js_ret je_bl)
    exact jss_nil
  refine jss_one ?_
  exact (js_ret (je_blt (cs_all rfl) rfl E.h_all (by decide +kernel) (jr_cons (je_comp rfl nd (ji_txt (je_name (pv 0))) (blkOk_by (N := ["thing", "sign"]) (sc := defScope (top 13)) (own := [("sign", 1)]) (by decide +kernel)) (us := [1]) rfl (by decide) (fun _ _ _ _ _ => (jg_name (pg_name (i := 1) nd rfl (by first | exact .inl rfl | exact .inr rfl)))) (fun _ _ _ _ _ => jts_nil) (fun _ _ _ _ _ => (je_cmp (os_in hu) (je_name (pv 1)) (je_const (pe_globS rfl E.k_SMALL) (fun _ => .str _ ⟨by decide +kernel, by decide +kernel⟩))))) jr_nil)))
theorem ok_is_word (E : Facts K w mg cts) (B : Makes base mg cts) (D : Defs P w K mg base cts n) : Dfn P w K mg base (T0 cts) (Den tbl (n + 1)) (n + 1) "is_word" 24 := by
  obtain ⟨f, fd, hf, F⟩ := E.f_is_word
  exact ⟨f, fd, ["thing"], hf, F.kp, F.bindsN fun _ _ _ _ _ _ us hl => (match us, hl with | [_], _ => rfl), fo_is_word E D F⟩
theorem sc_is_door : FnScope ["thing"] ["thing"] (defScope (top 14)) := ⟨rfl, rfl, rfl, by decide +kernel, rfl, by decide +kernel, by decide +kernel⟩
theorem fo_is_door (E : Facts K w mg cts) (D : Defs P w K mg base cts n) {f : Addr} {fd : FuncData} (F : FnP K "is_door" (top 14) f fd) : FnG P w K mg base (L2N.CX P w) (n + 1) f fd ["thing"] (spD ⟨K, mg, (T0 cts)⟩ ((Den tbl (n + 1)).call 26)) := by
  refine def_ok F sc_is_door (bd := b_is_door) rfl fun cdv A outer s H E0 hr => ?_
  have nd := (sc_is_door).nd
  have hu : (A.deeper (envOfC "is_door" (defScope (top 14)) s.heap.objs.size f cdv)).units + (Den tbl n).room < cLine := by rw [den_room]; have := hr.un; omega
  have tk : L2N.Takes (cxOf (L2N.CX P w) P w K mg base ["thing"] "is_door" (defScope (top 14)) f cdv A outer s H E0) (fun cls d _ H => E0 cls d H) := L2N.takes_of rfl rfl rfl rfl
  unfold b_is_door
  refine jss_one ?_
  exact (js_ret (je_and (je_call D.c_is_word.cal hr tk rfl (ja_cons (je_name (pv 0)) ja_nil)) (je_one (je_cmp (os_eq hu) (je_blt cs_len rfl E.h_len boot_len (jr_cons (je_name (pv 0)) jr_nil)) je_int))))
theorem ok_is_door (E : Facts K w mg cts) (B : Makes base mg cts) (D : Defs P w K mg base cts n) : Dfn P w K mg base (T0 cts) (Den tbl (n + 1)) (n + 1) "is_door" 26 := by
  obtain ⟨f, fd, hf, F⟩ := E.f_is_door
  exact ⟨f, fd, ["thing"], hf, F.kp, F.bindsN fun _ _ _ _ _ _ us hl => (match us, hl with | [_], _ => rfl), fo_is_door E D F⟩
theorem sc_is_part : FnScope ["thing", "depth"] ["thing", "depth"] (defScope (top 15)) := ⟨rfl, rfl, rfl, by decide +kernel, rfl, by decide +kernel, by decide +kernel⟩
theorem fo_is_part (E : Facts K w mg cts) (D : Defs P w K mg base cts n) {f : Addr} {fd : FuncData} (F : FnP K "is_part" (top 15) f fd) : FnG P w K mg base (L2N.CX P w) (n + 1) f fd ["thing", "depth"] (spD ⟨K, mg, (T0 cts)⟩ ((Den tbl (n + 1)).call 28)) := by
  refine def_ok F sc_is_part (bd := b_is_part) rfl fun cdv A outer s H E0 hr => ?_
  have nd := (sc_is_part).nd
  have hu : (A.deeper (envOfC "is_part" (defScope (top 15)) s.heap.objs.size f cdv)).units + (Den tbl n).room < cLine := by rw [den_room]; have := hr.un; omega
  have tk : L2N.Takes (cxOf (L2N.CX P w) P w K mg base ["thing", "depth"] "is_part" (defScope (top 15)) f cdv A outer s H E0) (fun cls d _ H => E0 cls d H) := L2N.takes_of rfl rfl rfl rfl
  unfold b_is_part
  refine jss_cons ?_ ?_
  · refine js_if (jt_truth (je_call D.c_is_pair.cal hr tk rfl (ja_cons (je_name (pv 0)) ja_nil))) ?_ ?_
    · refine jss_cons ?_ ?_
      · refine js_if (jt_cmp (os_eq hu) (je_ix (je_name (pv 0)) je_int) je_str) ?_ ?_
        · refine jss_one ?_
          exact (js_ret (je_call D.c_is_word.cal hr tk rfl (ja_cons (je_ix (je_name (pv 0)) je_int) ja_nil)))
        exact jss_nil
      refine jss_cons ?_ ?_
      · refine js_if (jt_cmp (os_eq hu) (je_ix (je_name (pv 0)) je_int) je_str) ?_ ?_
        · refine jss_one ?_
          exact (js_ret (je_and (je_call D.c_is_integer.cal hr tk rfl (ja_cons (je_ix (je_name (pv 0)) je_int) ja_nil)) (je_one (je_cmp (os_ge hu) (je_ix (je_name (pv 0)) je_int) je_int))))
        exact jss_nil
      refine jss_one ?_
      exact (js_ret (je_and (je_cmp (os_eq hu) (je_ix (je_name (pv 0)) je_int) je_str) (je_one (je_call D.c_is_within.cal hr tk rfl (ja_cons (je_ix (je_name (pv 0)) je_int) (ja_cons je_int (ja_cons (je_bin os_sub (je_name (pv 1)) je_int) ja_nil)))))))
    exact jss_nil
  refine jss_cons ?_ ?_
  · refine js_if (jt_bool (jw_or (jt_not (jt_truth (je_call D.c_is_triple.cal hr tk rfl (ja_cons (je_name (pv 0)) ja_nil)))) (jw_or (jt_cmp (os_notin hu) (je_ix (je_name (pv 0)) je_int) (je_tup (ja_cons je_str (ja_cons je_str ja_nil)))) (jw_or1 (jt_not (jt_truth (je_call D.c_is_door.cal hr tk rfl (ja_cons (je_ix (je_name (pv 0)) je_int) ja_nil)))))))) ?_ ?_
    · refine jss_one ?_
      exact (js_ret je_bl)
    exact jss_nil
  refine jss_one ?_
  exact (js_ret (je_call D.c_is_plan_in.cal hr tk rfl (ja_cons (je_ix (je_name (pv 0)) je_int) (ja_cons (je_if (jt_cmp (os_eq hu) (je_ix (je_name (pv 0)) je_int) je_str) (je_bin os_add (je_name (pv 1)) je_int) (je_name (pv 1))) ja_nil))))
theorem ok_is_part (E : Facts K w mg cts) (B : Makes base mg cts) (D : Defs P w K mg base cts n) : Dfn P w K mg base (T0 cts) (Den tbl (n + 1)) (n + 1) "is_part" 28 := by
  obtain ⟨f, fd, hf, F⟩ := E.f_is_part
  exact ⟨f, fd, ["thing", "depth"], hf, F.kp, F.bindsN fun _ _ _ _ _ _ us hl => (match us, hl with | [_, _], _ => rfl), fo_is_part E D F⟩
theorem sc_is_plan_in : FnScope ["thing", "depth", "item"] ["thing", "depth"] (defScope (top 16)) := ⟨rfl, rfl, rfl, by decide +kernel, rfl, by decide +kernel, by decide +kernel⟩
theorem fo_is_plan_in (E : Facts K w mg cts) (D : Defs P w K mg base cts n) {f : Addr} {fd : FuncData} (F : FnP K "is_plan_in" (top 16) f fd) : FnG P w K mg base (L2N.CX P w) (n + 1) f fd ["thing", "depth"] (spD ⟨K, mg, (T0 cts)⟩ ((Den tbl (n + 1)).call 25)) := by
  refine def_ok F sc_is_plan_in (bd := b_is_plan_in) rfl fun cdv A outer s H E0 hr => ?_
  have nd := (sc_is_plan_in).nd
  have hu : (A.deeper (envOfC "is_plan_in" (defScope (top 16)) s.heap.objs.size f cdv)).units + (Den tbl n).room < cLine := by rw [den_room]; have := hr.un; omega
  have tk : L2N.Takes (cxOf (L2N.CX P w) P w K mg base ["thing", "depth", "item"] "is_plan_in" (defScope (top 16)) f cdv A outer s H E0) (fun cls d _ H => E0 cls d H) := L2N.takes_of rfl rfl rfl rfl
  unfold b_is_plan_in
  refine jss_cons ?_ ?_
  · refine js_if (jt_not (jt_truth (je_isi rfl E.h_isinstance rfl E.h_tuple (by decide +kernel) (je_name (pv 0))))) ?_ ?_
    · refine jss_one ?_
      exact (js_ret je_bl)
    exact jss_nil
  refine jss_cons ?_ ?_
  · refine js_for (passes_of rfl) rfl (ji_seq (je_name (pv 0))) (jg_name (pg_name (i := 2) nd rfl (by first | exact .inl rfl | exact .inr rfl))) ?_
    refine jss_one ?_
    refine js_if (jt_bool (jw_or (jt_not (jt_truth (je_call D.c_is_pair.cal hr tk rfl (ja_cons (je_name (pv 2)) ja_nil)))) (jw_or (jt_not (jt_truth (je_call D.c_is_integer.cal hr tk rfl (ja_cons (je_ix (je_name (pv 2)) je_int) ja_nil)))) (jw_or (jt_cmp (os_lt hu) (je_ix (je_name (pv 2)) je_int) je_int) (jw_or1 (jt_not (jt_truth (je_call D.c_is_part.cal hr tk rfl (ja_cons (je_ix (je_name (pv 2)) je_int) (ja_cons (je_name (pv 1)) ja_nil)))))))))) ?_ ?_
    · refine jss_one ?_
      exact (js_ret je_bl)
    exact jss_nil
  refine jss_one ?_
  exact (js_ret je_bl)
theorem ok_is_plan_in (E : Facts K w mg cts) (B : Makes base mg cts) (D : Defs P w K mg base cts n) : Dfn P w K mg base (T0 cts) (Den tbl (n + 1)) (n + 1) "is_plan_in" 25 := by
  obtain ⟨f, fd, hf, F⟩ := E.f_is_plan_in
  exact ⟨f, fd, ["thing", "depth"], hf, F.kp, F.bindsN fun _ _ _ _ _ _ us hl => (match us, hl with | [_, _], _ => rfl), fo_is_plan_in E D F⟩
theorem sc_check_plan : FnScope ["thing"] ["thing"] (defScope (top 17)) := ⟨rfl, rfl, rfl, by decide +kernel, rfl, by decide +kernel, by decide +kernel⟩
theorem fo_check_plan (E : Facts K w mg cts) (D : Defs P w K mg base cts n) {f : Addr} {fd : FuncData} (F : FnP K "check_plan" (top 17) f fd) : FnG P w K mg base (L2N.CX P w) (n + 1) f fd ["thing"] (spD ⟨K, mg, (T0 cts)⟩ ((Den tbl (n + 1)).call 31)) := by
  refine def_ok F sc_check_plan (bd := b_check_plan) rfl fun cdv A outer s H E0 hr => ?_
  have nd := (sc_check_plan).nd
  have hu : (A.deeper (envOfC "check_plan" (defScope (top 17)) s.heap.objs.size f cdv)).units + (Den tbl n).room < cLine := by rw [den_room]; have := hr.un; omega
  have tk : L2N.Takes (cxOf (L2N.CX P w) P w K mg base ["thing"] "check_plan" (defScope (top 17)) f cdv A outer s H E0) (fun cls d _ H => E0 cls d H) := L2N.takes_of rfl rfl rfl rfl
  unfold b_check_plan
  refine jss_one ?_
  refine js_if (jt_not (jt_truth (je_call D.c_is_plan_in.cal hr tk rfl (ja_cons (je_name (pv 0)) (ja_cons je_int ja_nil))))) ?_ ?_
  · refine jss_one ?_
    exact (js_raise E.x_NoPlan rfl tk rfl)
  exact jss_nil
theorem ok_check_plan (E : Facts K w mg cts) (B : Makes base mg cts) (D : Defs P w K mg base cts n) : Dfn P w K mg base (T0 cts) (Den tbl (n + 1)) (n + 1) "check_plan" 31 := by
  obtain ⟨f, fd, hf, F⟩ := E.f_check_plan
  exact ⟨f, fd, ["thing"], hf, F.kp, F.bindsN fun _ _ _ _ _ _ us hl => (match us, hl with | [_], _ => rfl), fo_check_plan E D F⟩
theorem sc_check_two : FnScope ["one", "other"] ["one", "other"] (defScope (top 18)) := ⟨rfl, rfl, rfl, by decide +kernel, rfl, by decide +kernel, by decide +kernel⟩
theorem fo_check_two (E : Facts K w mg cts) (D : Defs P w K mg base cts n) {f : Addr} {fd : FuncData} (F : FnP K "check_two" (top 18) f fd) : FnG P w K mg base (L2N.CX P w) (n + 1) f fd ["one", "other"] (spD ⟨K, mg, (T0 cts)⟩ ((Den tbl (n + 1)).call 60)) := by
  refine def_ok F sc_check_two (bd := b_check_two) rfl fun cdv A outer s H E0 hr => ?_
  have nd := (sc_check_two).nd
  have hu : (A.deeper (envOfC "check_two" (defScope (top 18)) s.heap.objs.size f cdv)).units + (Den tbl n).room < cLine := by rw [den_room]; have := hr.un; omega
  have tk : L2N.Takes (cxOf (L2N.CX P w) P w K mg base ["one", "other"] "check_two" (defScope (top 18)) f cdv A outer s H E0) (fun cls d _ H => E0 cls d H) := L2N.takes_of rfl rfl rfl rfl
  unfold b_check_two
  refine jss_cons ?_ ?_
  · exact (js_expr (je_call D.c_check_plan.cal hr tk rfl (ja_cons (je_name (pv 0)) ja_nil)))
  refine jss_one ?_
  exact (js_expr (je_call D.c_check_plan.cal hr tk rfl (ja_cons (je_name (pv 1)) ja_nil)))
theorem ok_check_two (E : Facts K w mg cts) (B : Makes base mg cts) (D : Defs P w K mg base cts n) : Dfn P w K mg base (T0 cts) (Den tbl (n + 1)) (n + 1) "check_two" 60 := by
  obtain ⟨f, fd, hf, F⟩ := E.f_check_two
  exact ⟨f, fd, ["one", "other"], hf, F.kp, F.bindsN fun _ _ _ _ _ _ us hl => (match us, hl with | [_, _], _ => rfl), fo_check_two E D F⟩
theorem sc_check_word : FnScope ["thing"] ["thing"] (defScope (top 19)) := ⟨rfl, rfl, rfl, by decide +kernel, rfl, by decide +kernel, by decide +kernel⟩
theorem fo_check_word (E : Facts K w mg cts) (D : Defs P w K mg base cts n) {f : Addr} {fd : FuncData} (F : FnP K "check_word" (top 19) f fd) : FnG P w K mg base (L2N.CX P w) (n + 1) f fd ["thing"] (spD ⟨K, mg, (T0 cts)⟩ ((Den tbl (n + 1)).call 37)) := by
  refine def_ok F sc_check_word (bd := b_check_word) rfl fun cdv A outer s H E0 hr => ?_
  have nd := (sc_check_word).nd
  have hu : (A.deeper (envOfC "check_word" (defScope (top 19)) s.heap.objs.size f cdv)).units + (Den tbl n).room < cLine := by rw [den_room]; have := hr.un; omega
  have tk : L2N.Takes (cxOf (L2N.CX P w) P w K mg base ["thing"] "check_word" (defScope (top 19)) f cdv A outer s H E0) (fun cls d _ H => E0 cls d H) := L2N.takes_of rfl rfl rfl rfl
  unfold b_check_word
  refine jss_one ?_
  refine js_if (jt_not (jt_truth (je_call D.c_is_word.cal hr tk rfl (ja_cons (je_name (pv 0)) ja_nil)))) ?_ ?_
  · refine jss_one ?_
    exact (js_raise E.x_NoWord rfl tk rfl)
  exact jss_nil
theorem ok_check_word (E : Facts K w mg cts) (B : Makes base mg cts) (D : Defs P w K mg base cts n) : Dfn P w K mg base (T0 cts) (Den tbl (n + 1)) (n + 1) "check_word" 37 := by
  obtain ⟨f, fd, hf, F⟩ := E.f_check_word
  exact ⟨f, fd, ["thing"], hf, F.kp, F.bindsN fun _ _ _ _ _ _ us hl => (match us, hl with | [_], _ => rfl), fo_check_word E D F⟩
theorem sc_part_size : FnScope ["part"] ["part"] (defScope (top 23)) := ⟨rfl, rfl, rfl, by decide +kernel, rfl, by decide +kernel, by decide +kernel⟩
theorem fo_part_size (E : Facts K w mg cts) (D : Defs P w K mg base cts n) {f : Addr} {fd : FuncData} (F : FnP K "part_size" (top 23) f fd) : FnG P w K mg base (L2N.CX P w) (n + 1) f fd ["part"] (spD ⟨K, mg, (T0 cts)⟩ ((Den tbl (n + 1)).call 30)) := by
  refine def_ok F sc_part_size (bd := b_part_size) rfl fun cdv A outer s H E0 hr => ?_
  have nd := (sc_part_size).nd
  have hu : (A.deeper (envOfC "part_size" (defScope (top 23)) s.heap.objs.size f cdv)).units + (Den tbl n).room < cLine := by rw [den_room]; have := hr.un; omega
  have tk : L2N.Takes (cxOf (L2N.CX P w) P w K mg base ["part"] "part_size" (defScope (top 23)) f cdv A outer s H E0) (fun cls d _ H => E0 cls d H) := L2N.takes_of rfl rfl rfl rfl
  unfold b_part_size
  refine jss_one ?_
  exact (js_ret (je_if (jt_cmp (os_eq hu) (je_blt cs_len rfl E.h_len boot_len (jr_cons (je_name (pv 0)) jr_nil)) je_int) (je_bin os_add je_int (je_call D.c_size_of.cal hr tk rfl (ja_cons (je_ix (je_name (pv 0)) je_int) ja_nil))) je_int))
theorem ok_part_size (E : Facts K w mg cts) (B : Makes base mg cts) (D : Defs P w K mg base cts n) : Dfn P w K mg base (T0 cts) (Den tbl (n + 1)) (n + 1) "part_size" 30 := by
  obtain ⟨f, fd, hf, F⟩ := E.f_part_size
  exact ⟨f, fd, ["part"], hf, F.kp, F.bindsN fun _ _ _ _ _ _ us hl => (match us, hl with | [_], _ => rfl), fo_part_size E D F⟩
theorem sc_size_of : FnScope ["plan", "count", "part"] ["plan"] (defScope (top 24)) := ⟨rfl, rfl, rfl, by decide +kernel, rfl, by decide +kernel, by decide +kernel⟩
theorem fo_size_of (E : Facts K w mg cts) (D : Defs P w K mg base cts n) {f : Addr} {fd : FuncData} (F : FnP K "size_of" (top 24) f fd) : FnG P w K mg base (L2N.CX P w) (n + 1) f fd ["plan"] (spD ⟨K, mg, (T0 cts)⟩ ((Den tbl (n + 1)).call 29)) := by
  refine def_ok F sc_size_of (bd := b_size_of) rfl fun cdv A outer s H E0 hr => ?_
  have nd := (sc_size_of).nd
  have hu : (A.deeper (envOfC "size_of" (defScope (top 24)) s.heap.objs.size f cdv)).units + (Den tbl n).room < cLine := by rw [den_room]; have := hr.un; omega
  have tk : L2N.Takes (cxOf (L2N.CX P w) P w K mg base ["plan", "count", "part"] "size_of" (defScope (top 24)) f cdv A outer s H E0) (fun cls d _ H => E0 cls d H) := L2N.takes_of rfl rfl rfl rfl
  unfold b_size_of
  refine jss_one ?_
  exact (js_ret (je_blt (cs_sum rfl) rfl E.h_sum (by decide +kernel) (jr_cons (je_comp rfl nd (ji_seq (je_name (pv 0))) (blkOk_by (N := ["plan", "count", "part"]) (sc := defScope (top 24)) (own := [("count", 1), ("part", 2)]) (by decide +kernel)) (us := [1, 2]) rfl (by decide) (fun _ _ _ _ _ => (jg_tup rfl (jgs_cons (jg_name (pg_name (i := 1) nd rfl (by first | exact .inl rfl | exact .inr rfl))) (jgs_cons (jg_name (pg_name (i := 2) nd rfl (by first | exact .inl rfl | exact .inr rfl))) jgs_nil)))) (fun _ _ _ _ _ => jts_nil) (fun _ _ _ _ _ => (je_bin os_mul (je_name (pv 1)) (je_call D.c_part_size.cal hr takesN rfl (ja_cons (je_name (pv 2)) ja_nil))))) jr_nil)))
theorem ok_size_of (E : Facts K w mg cts) (B : Makes base mg cts) (D : Defs P w K mg base cts n) : Dfn P w K mg base (T0 cts) (Den tbl (n + 1)) (n + 1) "size_of" 29 := by
  obtain ⟨f, fd, hf, F⟩ := E.f_size_of
  exact ⟨f, fd, ["plan"], hf, F.kp, F.bindsN fun _ _ _ _ _ _ us hl => (match us, hl with | [_], _ => rfl), fo_size_of E D F⟩
theorem sc_size : FnScope ["plan"] ["plan"] (defScope (top 25)) := ⟨rfl, rfl, rfl, by decide +kernel, rfl, by decide +kernel, by decide +kernel⟩
theorem fo_size (E : Facts K w mg cts) (D : Defs P w K mg base cts n) {f : Addr} {fd : FuncData} (F : FnP K "size" (top 25) f fd) : FnG P w K mg base (L2N.CX P w) (n + 1) f fd ["plan"] (spD ⟨K, mg, (T0 cts)⟩ ((Den tbl (n + 1)).call 47)) := by
  refine def_ok F sc_size (bd := b_size) rfl fun cdv A outer s H E0 hr => ?_
  have nd := (sc_size).nd
  have hu : (A.deeper (envOfC "size" (defScope (top 25)) s.heap.objs.size f cdv)).units + (Den tbl n).room < cLine := by rw [den_room]; have := hr.un; omega
  have tk : L2N.Takes (cxOf (L2N.CX P w) P w K mg base ["plan"] "size" (defScope (top 25)) f cdv A outer s H E0) (fun cls d _ H => E0 cls d H) := L2N.takes_of rfl rfl rfl rfl
  unfold b_size
  refine jss_cons ?_ ?_
  · exact (js_expr (je_call D.c_check_plan.cal hr tk rfl (ja_cons (je_name (pv 0)) ja_nil)))
  refine jss_one ?_
  exact (js_ret (je_call D.c_size_of.cal hr tk rfl (ja_cons (je_name (pv 0)) ja_nil)))
theorem ok_size (E : Facts K w mg cts) (B : Makes base mg cts) (D : Defs P w K mg base cts n) : Dfn P w K mg base (T0 cts) (Den tbl (n + 1)) (n + 1) "size" 47 := by
  obtain ⟨f, fd, hf, F⟩ := E.f_size
  exact ⟨f, fd, ["plan"], hf, F.kp, F.bindsN fun _ _ _ _ _ _ us hl => (match us, hl with | [_], _ => rfl), fo_size E D F⟩
theorem sc_parts_within : FnScope ["plan", "found", "count", "part"] ["plan"] (defScope (top 26)) := ⟨rfl, rfl, rfl, by decide +kernel, rfl, by decide +kernel, by decide +kernel⟩
theorem fo_parts_within (E : Facts K w mg cts) (D : Defs P w K mg base cts n) {f : Addr} {fd : FuncData} (F : FnP K "parts_within" (top 26) f fd) : FnG P w K mg base (L2N.CX P w) (n + 1) f fd ["plan"] (spD ⟨K, mg, (T0 cts)⟩ ((Den tbl (n + 1)).call 32)) := by
  refine def_ok F sc_parts_within (bd := b_parts_within) rfl fun cdv A outer s H E0 hr => ?_
  have nd := (sc_parts_within).nd
  have hu : (A.deeper (envOfC "parts_within" (defScope (top 26)) s.heap.objs.size f cdv)).units + (Den tbl n).room < cLine := by rw [den_room]; have := hr.un; omega
  have tk : L2N.Takes (cxOf (L2N.CX P w) P w K mg base ["plan", "found", "count", "part"] "parts_within" (defScope (top 26)) f cdv A outer s H E0) (fun cls d _ H => E0 cls d H) := L2N.takes_of rfl rfl rfl rfl
  unfold b_parts_within
  refine jss_cons ?_ ?_
  · exact (js_set (i := 1) nd rfl (by first | exact .inl rfl | exact .inr rfl) (je_lst ja_nil))
  refine jss_cons ?_ ?_
  · refine js_for (passes_of rfl) rfl (ji_seq (je_name (pv 0))) (jg_tup rfl (jgs_cons (jg_name (pg_name (i := 2) nd rfl (by first | exact .inl rfl | exact .inr rfl))) (jgs_cons (jg_name (pg_name (i := 3) nd rfl (by first | exact .inl rfl | exact .inr rfl))) jgs_nil))) ?_
    refine jss_cons ?_ ?_
    · exact (js_append (pv 1) (je_name (pv 3)))
    refine jss_one ?_
    refine js_if (jt_cmp (os_eq hu) (je_blt cs_len rfl E.h_len boot_len (jr_cons (je_name (pv 3)) jr_nil)) je_int) ?_ ?_
    · refine jss_one ?_
      exact (js_extend (pv 1) (je_call D.c_parts_within.cal hr tk rfl (ja_cons (je_ix (je_name (pv 3)) je_int) ja_nil)))
    exact jss_nil
  refine jss_one ?_
  exact (js_ret (je_name (pv 1)))
theorem ok_parts_within (E : Facts K w mg cts) (B : Makes base mg cts) (D : Defs P w K mg base cts n) : Dfn P w K mg base (T0 cts) (Den tbl (n + 1)) (n + 1) "parts_within" 32 := by
  obtain ⟨f, fd, hf, F⟩ := E.f_parts_within
  exact ⟨f, fd, ["plan"], hf, F.kp, F.bindsN fun _ _ _ _ _ _ us hl => (match us, hl with | [_], _ => rfl), fo_parts_within E D F⟩
theorem sc_items_in : FnScope ["plan"] ["plan"] (defScope (top 27)) := ⟨rfl, rfl, rfl, by decide +kernel, rfl, by decide +kernel, by decide +kernel⟩
theorem fo_items_in (E : Facts K w mg cts) (D : Defs P w K mg base cts n) {f : Addr} {fd : FuncData} (F : FnP K "items_in" (top 27) f fd) : FnG P w K mg base (L2N.CX P w) (n + 1) f fd ["plan"] (spD ⟨K, mg, (T0 cts)⟩ ((Den tbl (n + 1)).call 52)) := by
  refine def_ok F sc_items_in (bd := b_items_in) rfl fun cdv A outer s H E0 hr => ?_
  have nd := (sc_items_in).nd
  have hu : (A.deeper (envOfC "items_in" (defScope (top 27)) s.heap.objs.size f cdv)).units + (Den tbl n).room < cLine := by rw [den_room]; have := hr.un; omega
  have tk : L2N.Takes (cxOf (L2N.CX P w) P w K mg base ["plan"] "items_in" (defScope (top 27)) f cdv A outer s H E0) (fun cls d _ H => E0 cls d H) := L2N.takes_of rfl rfl rfl rfl
  unfold b_items_in
  refine jss_one ?_
  exact (js_ret (je_blt cs_len rfl E.h_len boot_len (jr_cons (je_call D.c_parts_within.cal hr tk rfl (ja_cons (je_name (pv 0)) ja_nil)) jr_nil)))
theorem ok_items_in (E : Facts K w mg cts) (B : Makes base mg cts) (D : Defs P w K mg base cts n) : Dfn P w K mg base (T0 cts) (Den tbl (n + 1)) (n + 1) "items_in" 52 := by
  obtain ⟨f, fd, hf, F⟩ := E.f_items_in
  exact ⟨f, fd, ["plan"], hf, F.kp, F.bindsN fun _ _ _ _ _ _ us hl => (match us, hl with | [_], _ => rfl), fo_items_in E D F⟩
theorem sc_nesting : FnScope ["plan", "count", "part"] ["plan"] (defScope (top 28)) := ⟨rfl, rfl, rfl, by decide +kernel, rfl, by decide +kernel, by decide +kernel⟩
theorem fo_nesting (E : Facts K w mg cts) (D : Defs P w K mg base cts n) {f : Addr} {fd : FuncData} (F : FnP K "nesting" (top 28) f fd) : FnG P w K mg base (L2N.CX P w) (n + 1) f fd ["plan"] (spD ⟨K, mg, (T0 cts)⟩ ((Den tbl (n + 1)).call 51)) := by
  refine def_ok F sc_nesting (bd := b_nesting) rfl fun cdv A outer s H E0 hr => ?_
  have nd := (sc_nesting).nd
  have hu : (A.deeper (envOfC "nesting" (defScope (top 28)) s.heap.objs.size f cdv)).units + (Den tbl n).room < cLine := by rw [den_room]; have := hr.un; omega
  have tk : L2N.Takes (cxOf (L2N.CX P w) P w K mg base ["plan", "count", "part"] "nesting" (defScope (top 28)) f cdv A outer s H E0) (fun cls d _ H => E0 cls d H) := L2N.takes_of rfl rfl rfl rfl
  unfold b_nesting
  refine jss_one ?_
  exact (js_ret (je_blt (cs_max1 rfl) rfl E.h_max (by decide +kernel) (jr_cons (je_bin os_add (je_lst (ja_cons je_int ja_nil)) (je_comp rfl nd (ji_seq (je_name (pv 0))) (blkOk_by (N := ["plan", "count", "part"]) (sc := defScope (top 28)) (own := [("count", 1), ("part", 2)]) (by decide +kernel)) (us := [1, 2]) rfl (by decide) (fun _ _ _ _ _ => (jg_tup rfl (jgs_cons (jg_name (pg_name (i := 1) nd rfl (by first | exact .inl rfl | exact .inr rfl))) (jgs_cons (jg_name (pg_name (i := 2) nd rfl (by first | exact .inl rfl | exact .inr rfl))) jgs_nil)))) (fun _ _ _ _ _ => (jts_one (jt_cmp (os_eq hu) (je_blt cs_len rfl E.h_len boot_len (jr_cons (je_name (pv 2)) jr_nil)) je_int))) (fun _ _ _ _ _ => (je_bin os_add je_int (je_call D.c_nesting.cal hr takesN rfl (ja_cons (je_ix (je_name (pv 2)) je_int) ja_nil)))))) jr_nil)))
theorem ok_nesting (E : Facts K w mg cts) (B : Makes base mg cts) (D : Defs P w K mg base cts n) : Dfn P w K mg base (T0 cts) (Den tbl (n + 1)) (n + 1) "nesting" 51 := by
  obtain ⟨f, fd, hf, F⟩ := E.f_nesting
  exact ⟨f, fd, ["plan"], hf, F.kp, F.bindsN fun _ _ _ _ _ _ us hl => (match us, hl with | [_], _ => rfl), fo_nesting E D F⟩
theorem sc_check_room : FnScope ["items"] ["items"] (defScope (top 29)) := ⟨rfl, rfl, rfl, by decide +kernel, rfl, by decide +kernel, by decide +kernel⟩
theorem fo_check_room (E : Facts K w mg cts) (D : Defs P w K mg base cts n) {f : Addr} {fd : FuncData} (F : FnP K "check_room" (top 29) f fd) : FnG P w K mg base (L2N.CX P w) (n + 1) f fd ["items"] (spD ⟨K, mg, (T0 cts)⟩ ((Den tbl (n + 1)).call 53)) := by
  refine def_ok F sc_check_room (bd := b_check_room) rfl fun cdv A outer s H E0 hr => ?_
  have nd := (sc_check_room).nd
  have hu : (A.deeper (envOfC "check_room" (defScope (top 29)) s.heap.objs.size f cdv)).units + (Den tbl n).room < cLine := by rw [den_room]; have := hr.un; omega
  have tk : L2N.Takes (cxOf (L2N.CX P w) P w K mg base ["items"] "check_room" (defScope (top 29)) f cdv A outer s H E0) (fun cls d _ H => E0 cls d H) := L2N.takes_of rfl rfl rfl rfl
  unfold b_check_room
  refine jss_one ?_
  refine js_if (jt_cmp (os_gt hu) (je_name (pv 0)) (je_const (pe_globI rfl E.k_MOST_ITEMS) (fun _ => .int _))) ?_ ?_
  · refine jss_one ?_
    exact (by rw [den_room]; exact js_raiseF E.x_TooMany rfl tk hr rfl (ja_cons (je_const (pe_globI rfl E.k_MOST_ITEMS) (fun _ => .int _)) ja_nil))
  exact jss_nil
theorem ok_check_room (E : Facts K w mg cts) (B : Makes base mg cts) (D : Defs P w K mg base cts n) : Dfn P w K mg base (T0 cts) (Den tbl (n + 1)) (n + 1) "check_room" 53 := by
  obtain ⟨f, fd, hf, F⟩ := E.f_check_room
  exact ⟨f, fd, ["items"], hf, F.kp, F.bindsN fun _ _ _ _ _ _ us hl => (match us, hl with | [_], _ => rfl), fo_check_room E D F⟩
theorem sc_roomy : FnScope ["plan"] ["plan"] (defScope (top 30)) := ⟨rfl, rfl, rfl, by decide +kernel, rfl, by decide +kernel, by decide +kernel⟩
theorem fo_roomy (E : Facts K w mg cts) (D : Defs P w K mg base cts n) {f : Addr} {fd : FuncData} (F : FnP K "roomy" (top 30) f fd) : FnG P w K mg base (L2N.CX P w) (n + 1) f fd ["plan"] (spD ⟨K, mg, (T0 cts)⟩ ((Den tbl (n + 1)).call 59)) := by
  refine def_ok F sc_roomy (bd := b_roomy) rfl fun cdv A outer s H E0 hr => ?_
  have nd := (sc_roomy).nd
  have hu : (A.deeper (envOfC "roomy" (defScope (top 30)) s.heap.objs.size f cdv)).units + (Den tbl n).room < cLine := by rw [den_room]; have := hr.un; omega
  have tk : L2N.Takes (cxOf (L2N.CX P w) P w K mg base ["plan"] "roomy" (defScope (top 30)) f cdv A outer s H E0) (fun cls d _ H => E0 cls d H) := L2N.takes_of rfl rfl rfl rfl
  unfold b_roomy
  refine jss_cons ?_ ?_
  · exact (js_expr (je_call D.c_check_room.cal hr tk rfl (ja_cons (je_call D.c_items_in.cal hr tk rfl (ja_cons (je_name (pv 0)) ja_nil)) ja_nil)))
  refine jss_cons ?_ ?_
  · refine js_if (jt_cmp (os_gt hu) (je_call D.c_nesting.cal hr tk rfl (ja_cons (je_name (pv 0)) ja_nil)) (je_const (pe_globI rfl E.k_MOST_NESTED) (fun _ => .int _))) ?_ ?_
    · refine jss_one ?_
      exact (by rw [den_room]; exact js_raiseF E.x_TooMany rfl tk hr rfl (ja_cons (je_const (pe_globI rfl E.k_MOST_ITEMS) (fun _ => .int _)) ja_nil))
    exact jss_nil
  refine jss_one ?_
  exact (js_ret (je_name (pv 0)))
theorem ok_roomy (E : Facts K w mg cts) (B : Makes base mg cts) (D : Defs P w K mg base cts n) : Dfn P w K mg base (T0 cts) (Den tbl (n + 1)) (n + 1) "roomy" 59 := by
  obtain ⟨f, fd, hf, F⟩ := E.f_roomy
  exact ⟨f, fd, ["plan"], hf, F.kp, F.bindsN fun _ _ _ _ _ _ us hl => (match us, hl with | [_], _ => rfl), fo_roomy E D F⟩
theorem sc_all_items : FnScope ["plan"] ["plan"] (defScope (top 31)) := ⟨rfl, rfl, rfl, by decide +kernel, rfl, by decide +kernel, by decide +kernel⟩
theorem fo_all_items (E : Facts K w mg cts) (D : Defs P w K mg base cts n) {f : Addr} {fd : FuncData} (F : FnP K "all_items" (top 31) f fd) : FnG P w K mg base (L2N.CX P w) (n + 1) f fd ["plan"] (spD ⟨K, mg, (T0 cts)⟩ ((Den tbl (n + 1)).call 72)) := by
  refine def_ok F sc_all_items (bd := b_all_items) rfl fun cdv A outer s H E0 hr => ?_
  have nd := (sc_all_items).nd
  have hu : (A.deeper (envOfC "all_items" (defScope (top 31)) s.heap.objs.size f cdv)).units + (Den tbl n).room < cLine := by rw [den_room]; have := hr.un; omega
  have tk : L2N.Takes (cxOf (L2N.CX P w) P w K mg base ["plan"] "all_items" (defScope (top 31)) f cdv A outer s H E0) (fun cls d _ H => E0 cls d H) := L2N.takes_of rfl rfl rfl rfl
  unfold b_all_items
  refine jss_cons ?_ ?_
  · exact (js_expr (je_call D.c_check_plan.cal hr tk rfl (ja_cons (je_name (pv 0)) ja_nil)))
  refine jss_one ?_
  exact (js_ret (je_call D.c_items_in.cal hr tk rfl (ja_cons (je_name (pv 0)) ja_nil)))
theorem ok_all_items (E : Facts K w mg cts) (B : Makes base mg cts) (D : Defs P w K mg base cts n) : Dfn P w K mg base (T0 cts) (Den tbl (n + 1)) (n + 1) "all_items" 72 := by
  obtain ⟨f, fd, hf, F⟩ := E.f_all_items
  exact ⟨f, fd, ["plan"], hf, F.kp, F.bindsN fun _ _ _ _ _ _ us hl => (match us, hl with | [_], _ => rfl), fo_all_items E D F⟩
theorem sc_nested : FnScope ["plan"] ["plan"] (defScope (top 32)) := ⟨rfl, rfl, rfl, by decide +kernel, rfl, by decide +kernel, by decide +kernel⟩
theorem fo_nested (E : Facts K w mg cts) (D : Defs P w K mg base cts n) {f : Addr} {fd : FuncData} (F : FnP K "nested" (top 32) f fd) : FnG P w K mg base (L2N.CX P w) (n + 1) f fd ["plan"] (spD ⟨K, mg, (T0 cts)⟩ ((Den tbl (n + 1)).call 70)) := by
  refine def_ok F sc_nested (bd := b_nested) rfl fun cdv A outer s H E0 hr => ?_
  have nd := (sc_nested).nd
  have hu : (A.deeper (envOfC "nested" (defScope (top 32)) s.heap.objs.size f cdv)).units + (Den tbl n).room < cLine := by rw [den_room]; have := hr.un; omega
  have tk : L2N.Takes (cxOf (L2N.CX P w) P w K mg base ["plan"] "nested" (defScope (top 32)) f cdv A outer s H E0) (fun cls d _ H => E0 cls d H) := L2N.takes_of rfl rfl rfl rfl
  unfold b_nested
  refine jss_cons ?_ ?_
  · exact (js_expr (je_call D.c_check_plan.cal hr tk rfl (ja_cons (je_name (pv 0)) ja_nil)))
  refine jss_one ?_
  exact (js_ret (je_call D.c_nesting.cal hr tk rfl (ja_cons (je_name (pv 0)) ja_nil)))
theorem ok_nested (E : Facts K w mg cts) (B : Makes base mg cts) (D : Defs P w K mg base cts n) : Dfn P w K mg base (T0 cts) (Den tbl (n + 1)) (n + 1) "nested" 70 := by
  obtain ⟨f, fd, hf, F⟩ := E.f_nested
  exact ⟨f, fd, ["plan"], hf, F.kp, F.bindsN fun _ _ _ _ _ _ us hl => (match us, hl with | [_], _ => rfl), fo_nested E D F⟩
theorem sc_doors_of : FnScope ["plan", "part"] ["plan"] (defScope (top 33)) := ⟨rfl, rfl, rfl, by decide +kernel, rfl, by decide +kernel, by decide +kernel⟩
theorem fo_doors_of (E : Facts K w mg cts) (D : Defs P w K mg base cts n) {f : Addr} {fd : FuncData} (F : FnP K "doors_of" (top 33) f fd) : FnG P w K mg base (L2N.CX P w) (n + 1) f fd ["plan"] (spD ⟨K, mg, (T0 cts)⟩ ((Den tbl (n + 1)).call 54)) := by
  refine def_ok F sc_doors_of (bd := b_doors_of) rfl fun cdv A outer s H E0 hr => ?_
  have nd := (sc_doors_of).nd
  have hu : (A.deeper (envOfC "doors_of" (defScope (top 33)) s.heap.objs.size f cdv)).units + (Den tbl n).room < cLine := by rw [den_room]; have := hr.un; omega
  have tk : L2N.Takes (cxOf (L2N.CX P w) P w K mg base ["plan", "part"] "doors_of" (defScope (top 33)) f cdv A outer s H E0) (fun cls d _ H => E0 cls d H) := L2N.takes_of rfl rfl rfl rfl
  unfold b_doors_of
  refine jss_one ?_
  exact (js_ret (je_blt cs_sortS rfl E.h_sorted (by decide +kernel) (jr_cons (je_keys rfl nd rfl E.h_list (ji_seq (je_call D.c_parts_within.cal hr tk rfl (ja_cons (je_name (pv 0)) ja_nil))) (blkOk_by (N := ["plan", "part"]) (sc := defScope (top 33)) (own := [("part", 1)]) (by decide +kernel)) (us := [1]) rfl (by decide) (fun _ _ _ _ _ => (jg_name (pg_name (i := 1) nd rfl (by first | exact .inl rfl | exact .inr rfl)))) (fun _ _ _ _ _ => (jts_one (jt_cmp (os_eq hu) (je_blt cs_len rfl E.h_len boot_len (jr_cons (je_name (pv 1)) jr_nil)) je_int))) (fun _ _ _ _ _ => (je_ix (je_name (pv 1)) je_int))) jr_nil)))
theorem ok_doors_of (E : Facts K w mg cts) (B : Makes base mg cts) (D : Defs P w K mg base cts n) : Dfn P w K mg base (T0 cts) (Den tbl (n + 1)) (n + 1) "doors_of" 54 := by
  obtain ⟨f, fd, hf, F⟩ := E.f_doors_of
  exact ⟨f, fd, ["plan"], hf, F.kp, F.bindsN fun _ _ _ _ _ _ us hl => (match us, hl with | [_], _ => rfl), fo_doors_of E D F⟩
theorem sc_labels_of : FnScope ["plan", "kind", "part"] ["plan", "kind"] (defScope (top 34)) := ⟨rfl, rfl, rfl, by decide +kernel, rfl, by decide +kernel, by decide +kernel⟩
theorem fo_labels_of (E : Facts K w mg cts) (D : Defs P w K mg base cts n) {f : Addr} {fd : FuncData} (F : FnP K "labels_of" (top 34) f fd) : FnG P w K mg base (L2N.CX P w) (n + 1) f fd ["plan", "kind"] (spD ⟨K, mg, (T0 cts)⟩ ((Den tbl (n + 1)).call 124)) := by
  refine def_ok F sc_labels_of (bd := b_labels_of_124) rfl fun cdv A outer s H E0 hr => ?_
  have nd := (sc_labels_of).nd
  have hu : (A.deeper (envOfC "labels_of" (defScope (top 34)) s.heap.objs.size f cdv)).units + (Den tbl n).room < cLine := by rw [den_room]; have := hr.un; omega
  have tk : L2N.Takes (cxOf (L2N.CX P w) P w K mg base ["plan", "kind", "part"] "labels_of" (defScope (top 34)) f cdv A outer s H E0) (fun cls d _ H => E0 cls d H) := L2N.takes_of rfl rfl rfl rfl
  unfold b_labels_of_124
  refine jss_one ?_
  exact (js_ret (je_blt cs_sortA rfl E.h_sorted (by decide +kernel) (jr_cons (je_keysA rfl nd rfl E.h_list (ji_seq (je_call D.c_parts_within.cal hr tk rfl (ja_cons (je_name (pv 0)) ja_nil))) (blkOk_by (N := ["plan", "kind", "part"]) (sc := defScope (top 34)) (own := [("part", 2)]) (by decide +kernel)) (us := [2]) rfl (by decide) (fun _ _ _ _ _ => (jg_name (pg_name (i := 2) nd rfl (by first | exact .inl rfl | exact .inr rfl)))) (fun _ _ _ _ _ => (jts_one (jt_cmp (os_eq hu) (je_ix (je_name (pv 2)) je_int) (je_name (pv 1))))) (fun _ _ _ _ _ => (je_ix (je_name (pv 2)) je_int))) jr_nil)))
theorem ok_labels_of (E : Facts K w mg cts) (B : Makes base mg cts) (D : Defs P w K mg base cts n) : Dfn P w K mg base (T0 cts) (Den tbl (n + 1)) (n + 1) "labels_of" 124 := by
  obtain ⟨f, fd, hf, F⟩ := E.f_labels_of
  exact ⟨f, fd, ["plan", "kind"], hf, F.kp, F.bindsN fun _ _ _ _ _ _ us hl => (match us, hl with | [_, _], _ => rfl), fo_labels_of E D F⟩
theorem sc_doors : FnScope ["plan"] ["plan"] (defScope (top 35)) := ⟨rfl, rfl, rfl, by decide +kernel, rfl, by decide +kernel, by decide +kernel⟩
theorem fo_doors (E : Facts K w mg cts) (D : Defs P w K mg base cts n) {f : Addr} {fd : FuncData} (F : FnP K "doors" (top 35) f fd) : FnG P w K mg base (L2N.CX P w) (n + 1) f fd ["plan"] (spD ⟨K, mg, (T0 cts)⟩ ((Den tbl (n + 1)).call 68)) := by
  refine def_ok F sc_doors (bd := b_doors) rfl fun cdv A outer s H E0 hr => ?_
  have nd := (sc_doors).nd
  have hu : (A.deeper (envOfC "doors" (defScope (top 35)) s.heap.objs.size f cdv)).units + (Den tbl n).room < cLine := by rw [den_room]; have := hr.un; omega
  have tk : L2N.Takes (cxOf (L2N.CX P w) P w K mg base ["plan"] "doors" (defScope (top 35)) f cdv A outer s H E0) (fun cls d _ H => E0 cls d H) := L2N.takes_of rfl rfl rfl rfl
  unfold b_doors
  refine jss_cons ?_ ?_
  · exact (js_expr (je_call D.c_check_plan.cal hr tk rfl (ja_cons (je_name (pv 0)) ja_nil)))
  refine jss_one ?_
  exact (js_ret (je_call D.c_doors_of.cal hr tk rfl (ja_cons (je_name (pv 0)) ja_nil)))
theorem ok_doors (E : Facts K w mg cts) (B : Makes base mg cts) (D : Defs P w K mg base cts n) : Dfn P w K mg base (T0 cts) (Den tbl (n + 1)) (n + 1) "doors" 68 := by
  obtain ⟨f, fd, hf, F⟩ := E.f_doors
  exact ⟨f, fd, ["plan"], hf, F.kp, F.bindsN fun _ _ _ _ _ _ us hl => (match us, hl with | [_], _ => rfl), fo_doors E D F⟩
theorem sc_names : FnScope ["plan"] ["plan"] (defScope (top 36)) := ⟨rfl, rfl, rfl, by decide +kernel, rfl, by decide +kernel, by decide +kernel⟩
theorem fo_names (E : Facts K w mg cts) (D : Defs P w K mg base cts n) {f : Addr} {fd : FuncData} (F : FnP K "names" (top 36) f fd) : FnG P w K mg base (L2N.CX P w) (n + 1) f fd ["plan"] (spD ⟨K, mg, (T0 cts)⟩ ((Den tbl (n + 1)).call 128)) := by
  refine def_ok F sc_names (bd := b_names_128) rfl fun cdv A outer s H E0 hr => ?_
  have nd := (sc_names).nd
  have hu : (A.deeper (envOfC "names" (defScope (top 36)) s.heap.objs.size f cdv)).units + (Den tbl n).room < cLine := by rw [den_room]; have := hr.un; omega
  have tk : L2N.Takes (cxOf (L2N.CX P w) P w K mg base ["plan"] "names" (defScope (top 36)) f cdv A outer s H E0) (fun cls d _ H => E0 cls d H) := L2N.takes_of rfl rfl rfl rfl
  unfold b_names_128
  refine jss_cons ?_ ?_
  · exact (js_expr (je_call D.c_check_plan.cal hr tk rfl (ja_cons (je_name (pv 0)) ja_nil)))
  refine jss_one ?_
  exact (js_ret (je_call D.c_labels_of.cal hr tk rfl (ja_cons (je_name (pv 0)) (ja_cons je_str ja_nil))))
theorem ok_names (E : Facts K w mg cts) (B : Makes base mg cts) (D : Defs P w K mg base cts n) : Dfn P w K mg base (T0 cts) (Den tbl (n + 1)) (n + 1) "names" 128 := by
  obtain ⟨f, fd, hf, F⟩ := E.f_names
  exact ⟨f, fd, ["plan"], hf, F.kp, F.bindsN fun _ _ _ _ _ _ us hl => (match us, hl with | [_], _ => rfl), fo_names E D F⟩
theorem sc_marks : FnScope ["plan"] ["plan"] (defScope (top 37)) := ⟨rfl, rfl, rfl, by decide +kernel, rfl, by decide +kernel, by decide +kernel⟩
theorem fo_marks (E : Facts K w mg cts) (D : Defs P w K mg base cts n) {f : Addr} {fd : FuncData} (F : FnP K "marks" (top 37) f fd) : FnG P w K mg base (L2N.CX P w) (n + 1) f fd ["plan"] (spD ⟨K, mg, (T0 cts)⟩ ((Den tbl (n + 1)).call 127)) := by
  refine def_ok F sc_marks (bd := b_marks_127) rfl fun cdv A outer s H E0 hr => ?_
  have nd := (sc_marks).nd
  have hu : (A.deeper (envOfC "marks" (defScope (top 37)) s.heap.objs.size f cdv)).units + (Den tbl n).room < cLine := by rw [den_room]; have := hr.un; omega
  have tk : L2N.Takes (cxOf (L2N.CX P w) P w K mg base ["plan"] "marks" (defScope (top 37)) f cdv A outer s H E0) (fun cls d _ H => E0 cls d H) := L2N.takes_of rfl rfl rfl rfl
  unfold b_marks_127
  refine jss_cons ?_ ?_
  · exact (js_expr (je_call D.c_check_plan.cal hr tk rfl (ja_cons (je_name (pv 0)) ja_nil)))
  refine jss_one ?_
  exact (js_ret (je_call D.c_labels_of.cal hr tk rfl (ja_cons (je_name (pv 0)) (ja_cons je_str ja_nil))))
theorem ok_marks (E : Facts K w mg cts) (B : Makes base mg cts) (D : Defs P w K mg base cts n) : Dfn P w K mg base (T0 cts) (Den tbl (n + 1)) (n + 1) "marks" 127 := by
  obtain ⟨f, fd, hf, F⟩ := E.f_marks
  exact ⟨f, fd, ["plan"], hf, F.kp, F.bindsN fun _ _ _ _ _ _ us hl => (match us, hl with | [_], _ => rfl), fo_marks E D F⟩
theorem sc_mapped : FnScope ["plan", "depth", "action", "found", "count", "part", "many", "other"] ["plan", "depth", "action"] (defScope (top 38)) := ⟨rfl, rfl, rfl, by decide +kernel, rfl, by decide +kernel, by decide +kernel⟩
theorem fo_mapped (E : Facts K w mg cts) (D : Defs P w K mg base cts n) {f : Addr} {fd : FuncData} (F : FnP K "mapped" (top 38) f fd) : FnG P w K mg base (L2N.CX P w) (n + 1) f fd ["plan", "depth", "action"] (spD ⟨K, mg, (T0 cts)⟩ ((Den tbl (n + 1)).call 34)) := by
  refine def_ok F sc_mapped (bd := b_mapped) rfl fun cdv A outer s H E0 hr => ?_
  have nd := (sc_mapped).nd
  have hu : (A.deeper (envOfC "mapped" (defScope (top 38)) s.heap.objs.size f cdv)).units + (Den tbl n).room < cLine := by rw [den_room]; have := hr.un; omega
  have tk : L2N.Takes (cxOf (L2N.CX P w) P w K mg base ["plan", "depth", "action", "found", "count", "part", "many", "other"] "mapped" (defScope (top 38)) f cdv A outer s H E0) (fun cls d _ H => E0 cls d H) := L2N.takes_of rfl rfl rfl rfl
  unfold b_mapped
  refine jss_cons ?_ ?_
  · exact (js_set (i := 3) nd rfl (by first | exact .inl rfl | exact .inr rfl) (je_lst ja_nil))
  refine jss_cons ?_ ?_
  · refine js_for (passes_of rfl) rfl (ji_seq (je_name (pv 0))) (jg_tup rfl (jgs_cons (jg_name (pg_name (i := 4) nd rfl (by first | exact .inl rfl | exact .inr rfl))) (jgs_cons (jg_name (pg_name (i := 5) nd rfl (by first | exact .inl rfl | exact .inr rfl))) jgs_nil))) ?_
    refine jss_one ?_
    refine js_if (jt_cmp (os_eq hu) (je_ix (je_name (pv 5)) je_int) je_str) ?_ ?_
    · refine jss_one ?_
      exact (js_append (pv 3) (je_tup (ja_cons (je_name (pv 4)) (ja_cons (je_tup (ja_cons je_str (ja_cons (je_ix (je_name (pv 5)) je_int) (ja_cons (je_call D.c_mapped.cal hr tk rfl (ja_cons (je_ix (je_name (pv 5)) je_int) (ja_cons (je_name (pv 1)) (ja_cons (je_name (pv 2)) ja_nil)))) ja_nil)))) ja_nil))))
    refine jss_one ?_
    refine js_if (jt_cmp (os_eq hu) (je_ix (je_name (pv 5)) je_int) je_str) ?_ ?_
    · refine jss_one ?_
      exact (js_append (pv 3) (je_tup (ja_cons (je_name (pv 4)) (ja_cons (je_tup (ja_cons je_str (ja_cons (je_ix (je_name (pv 5)) je_int) (ja_cons (je_call D.c_mapped.cal hr tk rfl (ja_cons (je_ix (je_name (pv 5)) je_int) (ja_cons (je_bin os_add (je_name (pv 1)) je_int) (ja_cons (je_name (pv 2)) ja_nil)))) ja_nil)))) ja_nil))))
    refine jss_one ?_
    exact (js_extend (pv 3) (je_comp rfl nd (ji_seq (je_act D.clos hr (ja_cons (je_name (pv 5)) (ja_cons (je_name (pv 1)) ja_nil)))) (blkOk_by (N := ["plan", "depth", "action", "found", "count", "part", "many", "other"]) (sc := defScope (top 38)) (own := [("many", 6), ("other", 7)]) (by decide +kernel)) (us := [6, 7]) rfl (by decide) (fun _ _ _ _ _ => (jg_tup rfl (jgs_cons (jg_name (pg_name (i := 6) nd rfl (by first | exact .inl rfl | exact .inr rfl))) (jgs_cons (jg_name (pg_name (i := 7) nd rfl (by first | exact .inl rfl | exact .inr rfl))) jgs_nil)))) (fun _ _ _ _ _ => jts_nil) (fun _ _ _ _ _ => (je_tup (ja_cons (je_bin os_mul (je_name (pv 4)) (je_name (pv 6))) (ja_cons (je_name (pv 7)) ja_nil))))))
  refine jss_one ?_
  exact (js_ret (je_bty cs_tuple rfl E.h_tuple (by decide +kernel) (jr_cons (je_name (pv 3)) jr_nil)))
theorem ok_mapped (E : Facts K w mg cts) (B : Makes base mg cts) (D : Defs P w K mg base cts n) : Dfn P w K mg base (T0 cts) (Den tbl (n + 1)) (n + 1) "mapped" 34 := by
  obtain ⟨f, fd, hf, F⟩ := E.f_mapped
  exact ⟨f, fd, ["plan", "depth", "action"], hf, F.kp, F.bindsN fun _ _ _ _ _ _ us hl => (match us, hl with | [_, _, _], _ => rfl), fo_mapped E D F⟩
theorem sc_raised : FnScope ["plan", "by", "least", "lift"] ["plan", "by", "least"] (defScope (top 39)) := ⟨rfl, rfl, rfl, by decide +kernel, rfl, by decide +kernel, by decide +kernel⟩
theorem fo_raised (E : Facts K w mg cts) (D : Defs P w K mg base cts n) {f : Addr} {fd : FuncData} (F : FnP K "raised" (top 39) f fd) {Pt : Addr} (hm : ∃ c, fd.code = .ref c ∧ LamX.TabB base mg c Pt) (hM : (Pt, x_raised.qual) ∈ cts.map (·.2)) (hU : ∀ p ∈ cts.map (·.2), p.1 = Pt → p.2 = x_raised.qual) : FnG P w K mg base (L2N.CX P w) (n + 1) f fd ["plan", "by", "least"] (spD ⟨K, mg, (T0 cts)⟩ ((Den tbl (n + 1)).call 57)) := by
  refine def_okM F hm sc_raised (bd := b_raised) rfl fun c A outer s H E0 TB hr => ?_
  have nd := (sc_raised).nd
  have hu : (A.deeper (envOfC "raised" (defScope (top 39)) s.heap.objs.size f (.ref c))).units + (Den tbl n).room < cLine := by rw [den_room]; have := hr.un; omega
  have tk : L2N.Takes (cxOf (L2N.CX P w) P w K mg base ["plan", "by", "least", "lift"] "raised" (defScope (top 39)) f (.ref c) A outer s H E0) (fun cls d _ H => E0 cls d H) := L2N.takes_of rfl rfl rfl rfl
  unfold b_raised
  exact js_defret (st := stAt 0 (defBody (top 39))) (nm := fun _ _ => (x_raised).qual) (nd := x_raised) (i := 3) rfl TB rfl (tt_mem hM) rfl (tt_uni hU) (show ∀ y ∈ (C8.fnScope (stAt 0 (defBody (top 39)))).names, y.2 = .free → (defScope (top 39)).names.lookup y.1 = some .cell ∨ (defScope (top 39)).names.lookup y.1 = some .free by decide +kernel) rfl rfl rfl nd rfl (by first | exact .inl rfl | exact .inr rfl) (by first | exact .inl rfl | exact .inr rfl) rfl rfl (pe_clo (nd := x_raised) D.c_mapped.cal hr rfl (jal_cons zat_lasts (je_name (pv 0)) (jal_cons zat_lasts je_int (jal_name (pv 3)))) rfl rfl (show ∀ y ∈ (x_raised).scope.names, y.2 = .free → (defScope (top 39)).names.lookup y.1 = some .cell ∨ (defScope (top 39)).names.lookup y.1 = some .free by decide +kernel) (show ∀ y ∈ (x_raised).fr, (y, NameKind.free) ∈ (x_raised).scope.names by decide +kernel) (fun y hy => fr_of (fr := (x_raised).fr) (ns := (x_raised).scope.names) (by decide +kernel) hy) rfl (fun y hy => own_of (l := (x_raised).fr) (by rfl) hy))
theorem ok_raised (E : Facts K w mg cts) (B : Makes base mg cts) (D : Defs P w K mg base cts n) : Dfn P w K mg base (T0 cts) (Den tbl (n + 1)) (n + 1) "raised" 57 := by
  obtain ⟨f, fd, c, Pt, hf, F, hcd, hm⟩ := E.f_raised
  exact ⟨f, fd, ["plan", "by", "least"], hf, F.kp, F.bindsN fun _ _ _ _ _ _ us hl => (match us, hl with | [_, _, _], _ => rfl), fo_raised E D F ⟨c, hcd, B.tb _ hm⟩ (B.mem hm) (B.uni hm)⟩
theorem sc_replaced : FnScope ["plan", "old", "other"] ["plan", "old", "other"] (defScope (top 40)) := ⟨rfl, rfl, rfl, by decide +kernel, rfl, by decide +kernel, by decide +kernel⟩
theorem fo_replaced (E : Facts K w mg cts) (D : Defs P w K mg base cts n) {f : Addr} {fd : FuncData} (F : FnP K "replaced" (top 40) f fd) {Pt : Addr} (hm : ∃ c, fd.code = .ref c ∧ LamX.TabB base mg c Pt) (hM : (Pt, x_replaced.qual) ∈ cts.map (·.2)) (hU : ∀ p ∈ cts.map (·.2), p.1 = Pt → p.2 = x_replaced.qual) : FnG P w K mg base (L2N.CX P w) (n + 1) f fd ["plan", "old", "other"] (spD ⟨K, mg, (T0 cts)⟩ ((Den tbl (n + 1)).call 58)) := by
  refine def_okM F hm sc_replaced (bd := b_replaced) rfl fun c A outer s H E0 TB hr => ?_
  have nd := (sc_replaced).nd
  have hu : (A.deeper (envOfC "replaced" (defScope (top 40)) s.heap.objs.size f (.ref c))).units + (Den tbl n).room < cLine := by rw [den_room]; have := hr.un; omega
  have tk : L2N.Takes (cxOf (L2N.CX P w) P w K mg base ["plan", "old", "other"] "replaced" (defScope (top 40)) f (.ref c) A outer s H E0) (fun cls d _ H => E0 cls d H) := L2N.takes_of rfl rfl rfl rfl
  unfold b_replaced
  refine jss_one ?_
  exact (js_ret (je_clo (nd := x_replaced) D.c_mapped.cal hr rfl (jal_cons lasts_tt (je_name (pv 0)) (jal_cons lasts_tt je_int (jal_lam (nd := x_replaced) (tt_tabs cts) TB rfl rfl rfl rfl hM hU rfl (show ∀ y ∈ (x_replaced).scope.names, y.2 = .free → (defScope (top 40)).names.lookup y.1 = some .cell ∨ (defScope (top 40)).names.lookup y.1 = some .free by decide +kernel)))) rfl rfl (show ∀ y ∈ (x_replaced).scope.names, y.2 = .free → (defScope (top 40)).names.lookup y.1 = some .cell ∨ (defScope (top 40)).names.lookup y.1 = some .free by decide +kernel) (show ∀ y ∈ (x_replaced).fr, (y, NameKind.free) ∈ (x_replaced).scope.names by decide +kernel) (fun y hy => fr_of (fr := (x_replaced).fr) (ns := (x_replaced).scope.names) (by decide +kernel) hy) rfl (fun y hy => own_of (l := (x_replaced).fr) (by rfl) hy)))
theorem ok_replaced (E : Facts K w mg cts) (B : Makes base mg cts) (D : Defs P w K mg base cts n) : Dfn P w K mg base (T0 cts) (Den tbl (n + 1)) (n + 1) "replaced" 58 := by
  obtain ⟨f, fd, c, Pt, hf, F, hcd, hm⟩ := E.f_replaced
  exact ⟨f, fd, ["plan", "old", "other"], hf, F.kp, F.bindsN fun _ _ _ _ _ _ us hl => (match us, hl with | [_, _, _], _ => rfl), fo_replaced E D F ⟨c, hcd, B.tb _ hm⟩ (B.mem hm) (B.uni hm)⟩
theorem sc_roomy_replaced : FnScope ["plan", "old", "other", "places", "part"] ["plan", "old", "other"] (defScope (top 41)) := ⟨rfl, rfl, rfl, by decide +kernel, rfl, by decide +kernel, by decide +kernel⟩
theorem fo_roomy_replaced (E : Facts K w mg cts) (D : Defs P w K mg base cts n) {f : Addr} {fd : FuncData} (F : FnP K "roomy_replaced" (top 41) f fd) : FnG P w K mg base (L2N.CX P w) (n + 1) f fd ["plan", "old", "other"] (spD ⟨K, mg, (T0 cts)⟩ ((Den tbl (n + 1)).call 61)) := by
  refine def_ok F sc_roomy_replaced (bd := b_roomy_replaced) rfl fun cdv A outer s H E0 hr => ?_
  have nd := (sc_roomy_replaced).nd
  have hu : (A.deeper (envOfC "roomy_replaced" (defScope (top 41)) s.heap.objs.size f cdv)).units + (Den tbl n).room < cLine := by rw [den_room]; have := hr.un; omega
  have tk : L2N.Takes (cxOf (L2N.CX P w) P w K mg base ["plan", "old", "other", "places", "part"] "roomy_replaced" (defScope (top 41)) f cdv A outer s H E0) (fun cls d _ H => E0 cls d H) := L2N.takes_of rfl rfl rfl rfl
  unfold b_roomy_replaced
  refine jss_cons ?_ ?_
  · exact (js_set (i := 3) nd rfl (by first | exact .inl rfl | exact .inr rfl) (je_blt cs_len rfl E.h_len boot_len (jr_cons (je_comp rfl nd (ji_seq (je_call D.c_parts_within.cal hr tk rfl (ja_cons (je_name (pv 0)) ja_nil))) (blkOk_by (N := ["plan", "old", "other", "places", "part"]) (sc := defScope (top 41)) (own := [("part", 4)]) (by decide +kernel)) (us := [4]) rfl (by decide) (fun _ _ _ _ _ => (jg_name (pg_name (i := 4) nd rfl (by first | exact .inl rfl | exact .inr rfl)))) (fun _ _ _ _ _ => (jts_one (jt_cmp (os_eq hu) (je_name (pv 4)) (je_name (pv 1))))) (fun _ _ _ _ _ => (je_name (pv 4)))) jr_nil)))
  refine jss_cons ?_ ?_
  · exact (js_expr (je_call D.c_check_room.cal hr tk rfl (ja_cons (je_bin os_add (je_call D.c_items_in.cal hr tk rfl (ja_cons (je_name (pv 0)) ja_nil)) (je_bin os_mul (je_name (pv 3)) (je_bin os_sub (je_call D.c_items_in.cal hr tk rfl (ja_cons (je_name (pv 2)) ja_nil)) je_int))) ja_nil)))
  refine jss_one ?_
  exact (js_ret (je_call D.c_roomy.cal hr tk rfl (ja_cons (je_call D.c_replaced.cal hr tk rfl (ja_cons (je_name (pv 0)) (ja_cons (je_name (pv 1)) (ja_cons (je_name (pv 2)) ja_nil)))) ja_nil)))
theorem ok_roomy_replaced (E : Facts K w mg cts) (B : Makes base mg cts) (D : Defs P w K mg base cts n) : Dfn P w K mg base (T0 cts) (Den tbl (n + 1)) (n + 1) "roomy_replaced" 61 := by
  obtain ⟨f, fd, hf, F⟩ := E.f_roomy_replaced
  exact ⟨f, fd, ["plan", "old", "other"], hf, F.kp, F.bindsN fun _ _ _ _ _ _ us hl => (match us, hl with | [_, _, _], _ => rfl), fo_roomy_replaced E D F⟩
theorem sc_beside : FnScope ["one", "other"] ["one", "other"] (defScope (top 42)) := ⟨rfl, rfl, rfl, by decide +kernel, rfl, by decide +kernel, by decide +kernel⟩
theorem fo_beside (E : Facts K w mg cts) (D : Defs P w K mg base cts n) {f : Addr} {fd : FuncData} (F : FnP K "beside" (top 42) f fd) : FnG P w K mg base (L2N.CX P w) (n + 1) f fd ["one", "other"] (spD ⟨K, mg, (T0 cts)⟩ ((Den tbl (n + 1)).call 66)) := by
  refine def_ok F sc_beside (bd := b_beside) rfl fun cdv A outer s H E0 hr => ?_
  have nd := (sc_beside).nd
  have hu : (A.deeper (envOfC "beside" (defScope (top 42)) s.heap.objs.size f cdv)).units + (Den tbl n).room < cLine := by rw [den_room]; have := hr.un; omega
  have tk : L2N.Takes (cxOf (L2N.CX P w) P w K mg base ["one", "other"] "beside" (defScope (top 42)) f cdv A outer s H E0) (fun cls d _ H => E0 cls d H) := L2N.takes_of rfl rfl rfl rfl
  unfold b_beside
  refine jss_cons ?_ ?_
  · exact (js_expr (je_call D.c_check_two.cal hr tk rfl (ja_cons (je_name (pv 0)) (ja_cons (je_name (pv 1)) ja_nil))))
  refine jss_one ?_
  exact (js_ret (je_bin os_add (je_name (pv 0)) (je_name (pv 1))))
theorem ok_beside (E : Facts K w mg cts) (B : Makes base mg cts) (D : Defs P w K mg base cts n) : Dfn P w K mg base (T0 cts) (Den tbl (n + 1)) (n + 1) "beside" 66 := by
  obtain ⟨f, fd, hf, F⟩ := E.f_beside
  exact ⟨f, fd, ["one", "other"], hf, F.kp, F.bindsN fun _ _ _ _ _ _ us hl => (match us, hl with | [_, _], _ => rfl), fo_beside E D F⟩
theorem sc_put : FnScope ["plan", "word", "other"] ["plan", "word", "other"] (defScope (top 43)) := ⟨rfl, rfl, rfl, by decide +kernel, rfl, by decide +kernel, by decide +kernel⟩
theorem fo_put (E : Facts K w mg cts) (D : Defs P w K mg base cts n) {f : Addr} {fd : FuncData} (F : FnP K "put" (top 43) f fd) : FnG P w K mg base (L2N.CX P w) (n + 1) f fd ["plan", "word", "other"] (spD ⟨K, mg, (T0 cts)⟩ ((Den tbl (n + 1)).call 73)) := by
  refine def_ok F sc_put (bd := b_put) rfl fun cdv A outer s H E0 hr => ?_
  have nd := (sc_put).nd
  have hu : (A.deeper (envOfC "put" (defScope (top 43)) s.heap.objs.size f cdv)).units + (Den tbl n).room < cLine := by rw [den_room]; have := hr.un; omega
  have tk : L2N.Takes (cxOf (L2N.CX P w) P w K mg base ["plan", "word", "other"] "put" (defScope (top 43)) f cdv A outer s H E0) (fun cls d _ H => E0 cls d H) := L2N.takes_of rfl rfl rfl rfl
  unfold b_put
  refine jss_cons ?_ ?_
  · exact (js_expr (je_call D.c_check_plan.cal hr tk rfl (ja_cons (je_name (pv 0)) ja_nil)))
  refine jss_cons ?_ ?_
  · exact (js_expr (je_call D.c_check_word.cal hr tk rfl (ja_cons (je_name (pv 1)) ja_nil)))
  refine jss_cons ?_ ?_
  · exact (js_expr (je_call D.c_check_plan.cal hr tk rfl (ja_cons (je_name (pv 2)) ja_nil)))
  refine jss_one ?_
  exact (js_ret (je_call D.c_roomy_replaced.cal hr tk rfl (ja_cons (je_name (pv 0)) (ja_cons (je_tup (ja_cons je_str (ja_cons (je_name (pv 1)) ja_nil))) (ja_cons (je_name (pv 2)) ja_nil)))))
theorem ok_put (E : Facts K w mg cts) (B : Makes base mg cts) (D : Defs P w K mg base cts n) : Dfn P w K mg base (T0 cts) (Den tbl (n + 1)) (n + 1) "put" 73 := by
  obtain ⟨f, fd, hf, F⟩ := E.f_put
  exact ⟨f, fd, ["plan", "word", "other"], hf, F.kp, F.bindsN fun _ _ _ _ _ _ us hl => (match us, hl with | [_, _, _], _ => rfl), fo_put E D F⟩
theorem sc_check_mark : FnScope ["thing"] ["thing"] (defScope (top 44)) := ⟨rfl, rfl, rfl, by decide +kernel, rfl, by decide +kernel, by decide +kernel⟩
theorem fo_check_mark (E : Facts K w mg cts) (D : Defs P w K mg base cts n) {f : Addr} {fd : FuncData} (F : FnP K "check_mark" (top 44) f fd) : FnG P w K mg base (L2N.CX P w) (n + 1) f fd ["thing"] (spD ⟨K, mg, (T0 cts)⟩ ((Den tbl (n + 1)).call 62)) := by
  refine def_ok F sc_check_mark (bd := b_check_mark) rfl fun cdv A outer s H E0 hr => ?_
  have nd := (sc_check_mark).nd
  have hu : (A.deeper (envOfC "check_mark" (defScope (top 44)) s.heap.objs.size f cdv)).units + (Den tbl n).room < cLine := by rw [den_room]; have := hr.un; omega
  have tk : L2N.Takes (cxOf (L2N.CX P w) P w K mg base ["thing"] "check_mark" (defScope (top 44)) f cdv A outer s H E0) (fun cls d _ H => E0 cls d H) := L2N.takes_of rfl rfl rfl rfl
  unfold b_check_mark
  refine jss_one ?_
  refine js_if (jt_bool (jw_or (jt_not (jt_truth (je_call D.c_is_integer.cal hr tk rfl (ja_cons (je_name (pv 0)) ja_nil)))) (jw_or1 (jt_cmp (os_lt hu) (je_name (pv 0)) je_int)))) ?_ ?_
  · refine jss_one ?_
    exact (js_raise E.x_NoMark rfl tk rfl)
  exact jss_nil
theorem ok_check_mark (E : Facts K w mg cts) (B : Makes base mg cts) (D : Defs P w K mg base cts n) : Dfn P w K mg base (T0 cts) (Den tbl (n + 1)) (n + 1) "check_mark" 62 := by
  obtain ⟨f, fd, hf, F⟩ := E.f_check_mark
  exact ⟨f, fd, ["thing"], hf, F.kp, F.bindsN fun _ _ _ _ _ _ us hl => (match us, hl with | [_], _ => rfl), fo_check_mark E D F⟩
theorem sc_mark_put : FnScope ["plan", "number", "other"] ["plan", "number", "other"] (defScope (top 45)) := ⟨rfl, rfl, rfl, by decide +kernel, rfl, by decide +kernel, by decide +kernel⟩
theorem fo_mark_put (E : Facts K w mg cts) (D : Defs P w K mg base cts n) {f : Addr} {fd : FuncData} (F : FnP K "mark_put" (top 45) f fd) : FnG P w K mg base (L2N.CX P w) (n + 1) f fd ["plan", "number", "other"] (spD ⟨K, mg, (T0 cts)⟩ ((Den tbl (n + 1)).call 65)) := by
  refine def_ok F sc_mark_put (bd := b_mark_put) rfl fun cdv A outer s H E0 hr => ?_
  have nd := (sc_mark_put).nd
  have hu : (A.deeper (envOfC "mark_put" (defScope (top 45)) s.heap.objs.size f cdv)).units + (Den tbl n).room < cLine := by rw [den_room]; have := hr.un; omega
  have tk : L2N.Takes (cxOf (L2N.CX P w) P w K mg base ["plan", "number", "other"] "mark_put" (defScope (top 45)) f cdv A outer s H E0) (fun cls d _ H => E0 cls d H) := L2N.takes_of rfl rfl rfl rfl
  unfold b_mark_put
  refine jss_cons ?_ ?_
  · exact (js_expr (je_call D.c_check_plan.cal hr tk rfl (ja_cons (je_name (pv 0)) ja_nil)))
  refine jss_cons ?_ ?_
  · exact (js_expr (je_call D.c_check_mark.cal hr tk rfl (ja_cons (je_name (pv 1)) ja_nil)))
  refine jss_cons ?_ ?_
  · exact (js_expr (je_call D.c_check_plan.cal hr tk rfl (ja_cons (je_name (pv 2)) ja_nil)))
  refine jss_one ?_
  exact (js_ret (je_call D.c_roomy_replaced.cal hr tk rfl (ja_cons (je_name (pv 0)) (ja_cons (je_tup (ja_cons je_str (ja_cons (je_name (pv 1)) ja_nil))) (ja_cons (je_name (pv 2)) ja_nil)))))
theorem ok_mark_put (E : Facts K w mg cts) (B : Makes base mg cts) (D : Defs P w K mg base cts n) : Dfn P w K mg base (T0 cts) (Den tbl (n + 1)) (n + 1) "mark_put" 65 := by
  obtain ⟨f, fd, hf, F⟩ := E.f_mark_put
  exact ⟨f, fd, ["plan", "number", "other"], hf, F.kp, F.bindsN fun _ _ _ _ _ _ us hl => (match us, hl with | [_, _, _], _ => rfl), fo_mark_put E D F⟩
theorem sc__law_tape : FnScope ["_law_script"] ["_law_script"] (defScope (top 47)) := ⟨rfl, rfl, rfl, by decide +kernel, rfl, by decide +kernel, by decide +kernel⟩
theorem fo__law_tape (E : Facts K w mg cts) (D : Defs P w K mg base cts n) {f : Addr} {fd : FuncData} (F : FnP K "_law_tape" (top 47) f fd) : FnG P w K mg base (L2N.CX P w) (n + 1) f fd ["_law_script"] (spD ⟨K, mg, (T0 cts)⟩ ((Den tbl (n + 1)).call 22)) := by
  refine def_ok F sc__law_tape (bd := b__law_tape) rfl fun cdv A outer s H E0 hr => ?_
  have nd := (sc__law_tape).nd
  have hu : (A.deeper (envOfC "_law_tape" (defScope (top 47)) s.heap.objs.size f cdv)).units + (Den tbl n).room < cLine := by rw [den_room]; have := hr.un; omega
  have tk : L2N.Takes (cxOf (L2N.CX P w) P w K mg base ["_law_script"] "_law_tape" (defScope (top 47)) f cdv A outer s H E0) (fun cls d _ H => E0 cls d H) := L2N.takes_of rfl rfl rfl rfl
  unfold b__law_tape
  refine jss_one ?_
  exact (js_ret (je_lst (ja_cons (je_bty cs_list rfl E.h_list (by decide +kernel) (jr_cons (je_name (pv 0)) jr_nil)) (ja_cons je_int (ja_cons je_int (ja_cons je_int (ja_cons je_int ja_nil)))))))
theorem ok__law_tape (E : Facts K w mg cts) (B : Makes base mg cts) (D : Defs P w K mg base cts n) : Dfn P w K mg base (T0 cts) (Den tbl (n + 1)) (n + 1) "_law_tape" 22 := by
  obtain ⟨f, fd, hf, F⟩ := E.f__law_tape
  exact ⟨f, fd, ["_law_script"], hf, F.kp, F.bindsN fun _ _ _ _ _ _ us hl => (match us, hl with | [_], _ => rfl), fo__law_tape E D F⟩
theorem sc__law_pick : FnScope ["_law_tape_here", "_law_many", "_law_digit", "_law_cell", "_law_mixed"] ["_law_tape_here", "_law_many"] (defScope (top 48)) := ⟨rfl, rfl, rfl, by decide +kernel, rfl, by decide +kernel, by decide +kernel⟩
theorem fo__law_pick (E : Facts K w mg cts) (D : Defs P w K mg base cts n) {f : Addr} {fd : FuncData} (F : FnP K "_law_pick" (top 48) f fd) : FnG P w K mg base (L2N.CX P w) (n + 1) f fd ["_law_tape_here", "_law_many"] (spD ⟨K, mg, (T0 cts)⟩ ((Den tbl (n + 1)).call 11)) := by
  refine def_ok F sc__law_pick (bd := b__law_pick) rfl fun cdv A outer s H E0 hr => ?_
  have nd := (sc__law_pick).nd
  have hu : (A.deeper (envOfC "_law_pick" (defScope (top 48)) s.heap.objs.size f cdv)).units + (Den tbl n).room < cLine := by rw [den_room]; have := hr.un; omega
  have tk : L2N.Takes (cxOf (L2N.CX P w) P w K mg base ["_law_tape_here", "_law_many", "_law_digit", "_law_cell", "_law_mixed"] "_law_pick" (defScope (top 48)) f cdv A outer s H E0) (fun cls d _ H => E0 cls d H) := L2N.takes_of rfl rfl rfl rfl
  unfold b__law_pick
  refine jss_cons ?_ ?_
  · refine js_if (jt_cmp (os_gt hu) (je_ixW (pv 0) je_int) je_int) ?_ ?_
    · refine jss_cons ?_ ?_
      · exact (js_set (i := 2) nd rfl (by first | exact .inl rfl | exact .inr rfl) (je_bin os_mod (je_bty cs_int rfl E.h_int (by decide +kernel) (jr_cons (je_ixW (pv 0) je_int) jr_nil)) (je_name (pv 1))))
      refine jss_cons ?_ ?_
      · exact (js_setIx (pv 0) je_int (je_bin os_fdiv (je_ixW (pv 0) je_int) (je_name (pv 1))))
      refine jss_one ?_
      exact (js_ret (je_name (pv 2)))
    exact jss_nil
  refine jss_cons ?_ ?_
  · exact (js_setIx (pv 0) je_int (je_bin os_add (je_ixW (pv 0) je_int) je_int))
  refine jss_cons ?_ ?_
  · exact (js_set (i := 3) nd rfl (by first | exact .inl rfl | exact .inr rfl) je_int)
  refine jss_cons ?_ ?_
  · refine js_if (jt_cmp (os_lt hu) (je_ixW (pv 0) je_int) (je_blt cs_len rfl E.h_len boot_len (jr_cons (je_ixW (pv 0) je_int) jr_nil))) ?_ ?_
    · refine jss_cons ?_ ?_
      · exact (js_set (i := 3) nd rfl (by first | exact .inl rfl | exact .inr rfl) (je_ix (je_ixW (pv 0) je_int) (je_ixW (pv 0) je_int)))
      refine jss_one ?_
      exact (js_setIx (pv 0) je_int (je_bin os_add (je_ixW (pv 0) je_int) je_int))
    exact jss_nil
  refine jss_cons ?_ ?_
  · refine js_if (jt_cmp (os_ge hu) (je_name (pv 3)) (je_bin os_pow je_int je_int)) ?_ ?_
    · refine jss_cons ?_ ?_
      · exact (js_setIx (pv 0) je_int (je_bin os_fdiv (je_name (pv 3)) (je_name (pv 1))))
      refine jss_one ?_
      exact (js_ret (je_bin os_mod (je_bty cs_int rfl E.h_int (by decide +kernel) (jr_cons (je_name (pv 3)) jr_nil)) (je_name (pv 1))))
    exact jss_nil
  refine jss_cons ?_ ?_
  · exact (js_set (i := 4) nd rfl (by first | exact .inl rfl | exact .inr rfl) (je_bin os_mod (je_bty cs_int rfl E.h_int (by decide +kernel) (jr_cons (je_bin os_add (je_bin os_add (je_bin os_mul (je_ixW (pv 0) je_int) je_int) (je_bin os_mod (je_bty cs_int rfl E.h_int (by decide +kernel) (jr_cons (je_name (pv 3)) jr_nil)) je_int)) (je_bin os_mul (je_ixW (pv 0) je_int) je_int)) jr_nil)) je_int))
  refine jss_cons ?_ ?_
  · exact (js_set (i := 4) nd rfl (by first | exact .inl rfl | exact .inr rfl) (je_bin os_mod (je_bty cs_int rfl E.h_int (by decide +kernel) (jr_cons (je_bin os_mul (je_name (pv 4)) (je_bin os_add (je_bin os_fdiv (je_name (pv 4)) je_int) je_int)) jr_nil)) je_int))
  refine jss_cons ?_ ?_
  · exact (js_setIx (pv 0) je_int (je_name (pv 4)))
  refine jss_one ?_
  exact (js_ret (je_bin os_mod (je_bty cs_int rfl E.h_int (by decide +kernel) (jr_cons (je_bin os_fdiv (je_name (pv 4)) je_int) jr_nil)) (je_name (pv 1))))
theorem ok__law_pick (E : Facts K w mg cts) (B : Makes base mg cts) (D : Defs P w K mg base cts n) : Dfn P w K mg base (T0 cts) (Den tbl (n + 1)) (n + 1) "_law_pick" 11 := by
  obtain ⟨f, fd, hf, F⟩ := E.f__law_pick
  exact ⟨f, fd, ["_law_tape_here", "_law_many"], hf, F.kp, F.bindsN fun _ _ _ _ _ _ us hl => (match us, hl with | [_, _], _ => rfl), fo__law_pick E D F⟩
theorem sc__law_plan : FnScope ["_law_tape_here", "_law_left", "_law_depth", "_law_letters", "_law_words", "_law_items", "_law_turn", "_law_count", "_law_part_here"] ["_law_tape_here", "_law_left", "_law_depth", "_law_letters", "_law_words"] (defScope (top 49)) := ⟨rfl, rfl, rfl, by decide +kernel, rfl, by decide +kernel, by decide +kernel⟩
theorem fo__law_plan (E : Facts K w mg cts) (D : Defs P w K mg base cts n) {f : Addr} {fd : FuncData} (F : FnP K "_law_plan" (top 49) f fd) : FnG P w K mg base (L2N.CX P w) (n + 1) f fd ["_law_tape_here", "_law_left", "_law_depth", "_law_letters", "_law_words"] (spD ⟨K, mg, (T0 cts)⟩ ((Den tbl (n + 1)).call 40)) := by
  refine def_ok F sc__law_plan (bd := b__law_plan) rfl fun cdv A outer s H E0 hr => ?_
  have nd := (sc__law_plan).nd
  have hu : (A.deeper (envOfC "_law_plan" (defScope (top 49)) s.heap.objs.size f cdv)).units + (Den tbl n).room < cLine := by rw [den_room]; have := hr.un; omega
  have tk : L2N.Takes (cxOf (L2N.CX P w) P w K mg base ["_law_tape_here", "_law_left", "_law_depth", "_law_letters", "_law_words", "_law_items", "_law_turn", "_law_count", "_law_part_here"] "_law_plan" (defScope (top 49)) f cdv A outer s H E0) (fun cls d _ H => E0 cls d H) := L2N.takes_of rfl rfl rfl rfl
  unfold b__law_plan
  refine jss_cons ?_ ?_
  · exact (js_set (i := 5) nd rfl (by first | exact .inl rfl | exact .inr rfl) (je_lst ja_nil))
  refine jss_cons ?_ ?_
  · refine js_for (passes_of rfl) rfl (ji_range1 rfl E.h_range (jr_cons je_int jr_nil)) (jg_name (pg_name (i := 6) nd rfl (by first | exact .inl rfl | exact .inr rfl))) ?_
    refine jss_cons ?_ ?_
    · refine js_if (jt_bool (jw_or (jt_cmp (os_lt hu) (je_name (pv 1)) je_int) (jw_or1 (jt_cmp (os_eq hu) (je_call D.c__law_pick.cal hr tk rfl (ja_cons (je_name (pv 0)) (ja_cons je_int ja_nil))) je_int)))) ?_ ?_
      · refine jss_one ?_
        exact js_break
      exact jss_nil
    refine jss_cons ?_ ?_
    · exact (js_set (i := 7) nd rfl (by first | exact .inl rfl | exact .inr rfl) (je_ix (je_lst (ja_cons je_int (ja_cons je_int (ja_cons je_int (ja_cons je_int (ja_cons je_int ja_nil)))))) (je_call D.c__law_pick.cal hr tk rfl (ja_cons (je_name (pv 0)) (ja_cons je_int ja_nil)))))
    refine jss_cons ?_ ?_
    · refine js_if (jt_cmp (os_gt hu) (je_name (pv 7)) (je_name (pv 1))) ?_ ?_
      · refine jss_one ?_
        exact (js_set (i := 7) nd rfl (by first | exact .inl rfl | exact .inr rfl) je_int)
      exact jss_nil
    refine jss_cons ?_ ?_
    · exact (js_set (i := 8) nd rfl (by first | exact .inl rfl | exact .inr rfl) (je_call D.c__law_part.cal hr tk rfl (ja_cons (je_name (pv 0)) (ja_cons (je_bin os_fdiv (je_name (pv 1)) (je_name (pv 7))) (ja_cons (je_name (pv 2)) (ja_cons (je_name (pv 3)) (ja_cons (je_name (pv 4)) ja_nil)))))))
    refine jss_cons ?_ ?_
    · exact (js_append (pv 5) (je_tup (ja_cons (je_name (pv 7)) (ja_cons (je_name (pv 8)) ja_nil))))
    refine jss_one ?_
    exact (js_set (i := 1) nd rfl (by first | exact .inl rfl | exact .inr rfl) (je_bin os_sub (je_name (pv 1)) (je_bin os_mul (je_name (pv 7)) (je_call D.c__law_part_size.cal hr tk rfl (ja_cons (je_name (pv 8)) ja_nil)))))
  refine jss_one ?_
  exact (js_ret (je_bty cs_tuple rfl E.h_tuple (by decide +kernel) (jr_cons (je_name (pv 5)) jr_nil)))
theorem ok__law_plan (E : Facts K w mg cts) (B : Makes base mg cts) (D : Defs P w K mg base cts n) : Dfn P w K mg base (T0 cts) (Den tbl (n + 1)) (n + 1) "_law_plan" 40 := by
  obtain ⟨f, fd, hf, F⟩ := E.f__law_plan
  exact ⟨f, fd, ["_law_tape_here", "_law_left", "_law_depth", "_law_letters", "_law_words"], hf, F.kp, F.bindsN fun _ _ _ _ _ _ us hl => (match us, hl with | [_, _, _, _, _], _ => rfl), fo__law_plan E D F⟩
theorem sc__law_part : FnScope ["_law_tape_here", "_law_left", "_law_depth", "_law_letters", "_law_words", "_law_kind", "_law_door"] ["_law_tape_here", "_law_left", "_law_depth", "_law_letters", "_law_words"] (defScope (top 50)) := ⟨rfl, rfl, rfl, by decide +kernel, rfl, by decide +kernel, by decide +kernel⟩
theorem fo__law_part (E : Facts K w mg cts) (D : Defs P w K mg base cts n) {f : Addr} {fd : FuncData} (F : FnP K "_law_part" (top 50) f fd) : FnG P w K mg base (L2N.CX P w) (n + 1) f fd ["_law_tape_here", "_law_left", "_law_depth", "_law_letters", "_law_words"] (spD ⟨K, mg, (T0 cts)⟩ ((Den tbl (n + 1)).call 39)) := by
  refine def_ok F sc__law_part (bd := b__law_part) rfl fun cdv A outer s H E0 hr => ?_
  have nd := (sc__law_part).nd
  have hu : (A.deeper (envOfC "_law_part" (defScope (top 50)) s.heap.objs.size f cdv)).units + (Den tbl n).room < cLine := by rw [den_room]; have := hr.un; omega
  have tk : L2N.Takes (cxOf (L2N.CX P w) P w K mg base ["_law_tape_here", "_law_left", "_law_depth", "_law_letters", "_law_words", "_law_kind", "_law_door"] "_law_part" (defScope (top 50)) f cdv A outer s H E0) (fun cls d _ H => E0 cls d H) := L2N.takes_of rfl rfl rfl rfl
  unfold b__law_part
  refine jss_cons ?_ ?_
  · exact (js_set (i := 5) nd rfl (by first | exact .inl rfl | exact .inr rfl) (je_call D.c__law_pick.cal hr tk rfl (ja_cons (je_name (pv 0)) (ja_cons je_int ja_nil))))
  refine jss_cons ?_ ?_
  · refine js_if (jt_bool (jw_and (jt_cmp (os_lt hu) (je_name (pv 1)) je_int) (jw_and1 (jt_cmp (os_gt hu) (je_name (pv 5)) je_int)))) ?_ ?_
    · refine jss_one ?_
      exact (js_set (i := 5) nd rfl (by first | exact .inl rfl | exact .inr rfl) (je_call D.c__law_pick.cal hr tk rfl (ja_cons (je_name (pv 0)) (ja_cons je_int ja_nil))))
    exact jss_nil
  refine jss_cons ?_ ?_
  · exact (js_set (i := 6) nd rfl (by first | exact .inl rfl | exact .inr rfl) (je_ix (je_name (pv 3)) (je_call D.c__law_pick.cal hr tk rfl (ja_cons (je_name (pv 0)) (ja_cons (je_blt cs_len rfl E.h_len boot_len (jr_cons (je_name (pv 3)) jr_nil)) ja_nil)))))
  refine jss_cons ?_ ?_
  · refine js_if (jt_bool (jw_and (jt_cmp (os_eq hu) (je_name (pv 5)) je_int) (jw_and1 (jt_cmp (os_gt hu) (je_blt cs_len rfl E.h_len boot_len (jr_cons (je_name (pv 4)) jr_nil)) je_int)))) ?_ ?_
    · refine jss_one ?_
      exact (js_ret (je_tup (ja_cons je_str (ja_cons (je_ix (je_name (pv 4)) (je_call D.c__law_pick.cal hr tk rfl (ja_cons (je_name (pv 0)) (ja_cons (je_blt cs_len rfl E.h_len boot_len (jr_cons (je_name (pv 4)) jr_nil)) ja_nil)))) ja_nil))))
    exact jss_nil
  refine jss_cons ?_ ?_
  · refine js_if (jt_bool (jw_and (jt_cmp (os_lt hu) (je_name (pv 5)) je_int) (jw_and1 (jt_cmp (os_gt hu) (je_name (pv 2)) je_int)))) ?_ ?_
    · refine jss_one ?_
      exact (js_ret (je_tup (ja_cons je_str (ja_cons (je_ix (je_lst (ja_cons je_int (ja_cons je_int (ja_cons (je_call D.c__law_pick.cal hr tk rfl (ja_cons (je_name (pv 0)) (ja_cons (je_name (pv 2)) ja_nil))) ja_nil)))) (je_call D.c__law_pick.cal hr tk rfl (ja_cons (je_name (pv 0)) (ja_cons je_int ja_nil)))) ja_nil))))
    exact jss_nil
  refine jss_cons ?_ ?_
  · refine js_if (jt_bool (jw_or (jt_cmp (os_eq hu) (je_name (pv 5)) je_int) (jw_or1 (jt_cmp (os_eq hu) (je_name (pv 5)) je_int)))) ?_ ?_
    · refine jss_one ?_
      exact (js_ret (je_tup (ja_cons je_str (ja_cons (je_name (pv 6)) (ja_cons (je_call D.c__law_plan.cal hr tk rfl (ja_cons (je_name (pv 0)) (ja_cons (je_bin os_sub (je_name (pv 1)) je_int) (ja_cons (je_name (pv 2)) (ja_cons (je_name (pv 3)) (ja_cons (je_name (pv 4)) ja_nil)))))) ja_nil)))))
    exact jss_nil
  refine jss_one ?_
  exact (js_ret (je_tup (ja_cons je_str (ja_cons (je_name (pv 6)) (ja_cons (je_call D.c__law_plan.cal hr tk rfl (ja_cons (je_name (pv 0)) (ja_cons (je_bin os_sub (je_name (pv 1)) je_int) (ja_cons (je_bin os_add (je_name (pv 2)) je_int) (ja_cons (je_name (pv 3)) (ja_cons (je_name (pv 4)) ja_nil)))))) ja_nil)))))
theorem ok__law_part (E : Facts K w mg cts) (B : Makes base mg cts) (D : Defs P w K mg base cts n) : Dfn P w K mg base (T0 cts) (Den tbl (n + 1)) (n + 1) "_law_part" 39 := by
  obtain ⟨f, fd, hf, F⟩ := E.f__law_part
  exact ⟨f, fd, ["_law_tape_here", "_law_left", "_law_depth", "_law_letters", "_law_words"], hf, F.kp, F.bindsN fun _ _ _ _ _ _ us hl => (match us, hl with | [_, _, _, _, _], _ => rfl), fo__law_part E D F⟩
theorem sc__law_part_size : FnScope ["_law_part_here"] ["_law_part_here"] (defScope (top 51)) := ⟨rfl, rfl, rfl, by decide +kernel, rfl, by decide +kernel, by decide +kernel⟩
theorem fo__law_part_size (E : Facts K w mg cts) (D : Defs P w K mg base cts n) {f : Addr} {fd : FuncData} (F : FnP K "_law_part_size" (top 51) f fd) : FnG P w K mg base (L2N.CX P w) (n + 1) f fd ["_law_part_here"] (spD ⟨K, mg, (T0 cts)⟩ ((Den tbl (n + 1)).call 38)) := by
  refine def_ok F sc__law_part_size (bd := b__law_part_size) rfl fun cdv A outer s H E0 hr => ?_
  have nd := (sc__law_part_size).nd
  have hu : (A.deeper (envOfC "_law_part_size" (defScope (top 51)) s.heap.objs.size f cdv)).units + (Den tbl n).room < cLine := by rw [den_room]; have := hr.un; omega
  have tk : L2N.Takes (cxOf (L2N.CX P w) P w K mg base ["_law_part_here"] "_law_part_size" (defScope (top 51)) f cdv A outer s H E0) (fun cls d _ H => E0 cls d H) := L2N.takes_of rfl rfl rfl rfl
  unfold b__law_part_size
  refine jss_cons ?_ ?_
  · refine js_if (jt_cmp (os_eq hu) (je_blt cs_len rfl E.h_len boot_len (jr_cons (je_name (pv 0)) jr_nil)) je_int) ?_ ?_
    · refine jss_one ?_
      exact (js_ret (je_bin os_add je_int (je_call D.c__law_size.cal hr tk rfl (ja_cons (je_ix (je_name (pv 0)) je_int) ja_nil))))
    exact jss_nil
  refine jss_one ?_
  exact (js_ret je_int)
theorem ok__law_part_size (E : Facts K w mg cts) (B : Makes base mg cts) (D : Defs P w K mg base cts n) : Dfn P w K mg base (T0 cts) (Den tbl (n + 1)) (n + 1) "_law_part_size" 38 := by
  obtain ⟨f, fd, hf, F⟩ := E.f__law_part_size
  exact ⟨f, fd, ["_law_part_here"], hf, F.kp, F.bindsN fun _ _ _ _ _ _ us hl => (match us, hl with | [_], _ => rfl), fo__law_part_size E D F⟩
theorem sc__law_size : FnScope ["_law_plan_here", "_law_count", "_law_part_here"] ["_law_plan_here"] (defScope (top 52)) := ⟨rfl, rfl, rfl, by decide +kernel, rfl, by decide +kernel, by decide +kernel⟩
theorem fo__law_size (E : Facts K w mg cts) (D : Defs P w K mg base cts n) {f : Addr} {fd : FuncData} (F : FnP K "_law_size" (top 52) f fd) : FnG P w K mg base (L2N.CX P w) (n + 1) f fd ["_law_plan_here"] (spD ⟨K, mg, (T0 cts)⟩ ((Den tbl (n + 1)).call 41)) := by
  refine def_ok F sc__law_size (bd := b__law_size) rfl fun cdv A outer s H E0 hr => ?_
  have nd := (sc__law_size).nd
  have hu : (A.deeper (envOfC "_law_size" (defScope (top 52)) s.heap.objs.size f cdv)).units + (Den tbl n).room < cLine := by rw [den_room]; have := hr.un; omega
  have tk : L2N.Takes (cxOf (L2N.CX P w) P w K mg base ["_law_plan_here", "_law_count", "_law_part_here"] "_law_size" (defScope (top 52)) f cdv A outer s H E0) (fun cls d _ H => E0 cls d H) := L2N.takes_of rfl rfl rfl rfl
  unfold b__law_size
  refine jss_one ?_
  exact (js_ret (je_blt (cs_sum rfl) rfl E.h_sum (by decide +kernel) (jr_cons (je_comp rfl nd (ji_seq (je_name (pv 0))) (blkOk_by (N := ["_law_plan_here", "_law_count", "_law_part_here"]) (sc := defScope (top 52)) (own := [("_law_count", 1), ("_law_part_here", 2)]) (by decide +kernel)) (us := [1, 2]) rfl (by decide) (fun _ _ _ _ _ => (jg_tup rfl (jgs_cons (jg_name (pg_name (i := 1) nd rfl (by first | exact .inl rfl | exact .inr rfl))) (jgs_cons (jg_name (pg_name (i := 2) nd rfl (by first | exact .inl rfl | exact .inr rfl))) jgs_nil)))) (fun _ _ _ _ _ => jts_nil) (fun _ _ _ _ _ => (je_bin os_mul (je_name (pv 1)) (je_call D.c__law_part_size.cal hr takesN rfl (ja_cons (je_name (pv 2)) ja_nil))))) jr_nil)))
theorem ok__law_size (E : Facts K w mg cts) (B : Makes base mg cts) (D : Defs P w K mg base cts n) : Dfn P w K mg base (T0 cts) (Den tbl (n + 1)) (n + 1) "_law_size" 41 := by
  obtain ⟨f, fd, hf, F⟩ := E.f__law_size
  exact ⟨f, fd, ["_law_plan_here"], hf, F.kp, F.bindsN fun _ _ _ _ _ _ us hl => (match us, hl with | [_], _ => rfl), fo__law_size E D F⟩
theorem sc__law_parts : FnScope ["_law_plan_here", "_law_found", "_law_count", "_law_part_here"] ["_law_plan_here"] (defScope (top 53)) := ⟨rfl, rfl, rfl, by decide +kernel, rfl, by decide +kernel, by decide +kernel⟩
theorem fo__law_parts (E : Facts K w mg cts) (D : Defs P w K mg base cts n) {f : Addr} {fd : FuncData} (F : FnP K "_law_parts" (top 53) f fd) : FnG P w K mg base (L2N.CX P w) (n + 1) f fd ["_law_plan_here"] (spD ⟨K, mg, (T0 cts)⟩ ((Den tbl (n + 1)).call 63)) := by
  refine def_ok F sc__law_parts (bd := b__law_parts) rfl fun cdv A outer s H E0 hr => ?_
  have nd := (sc__law_parts).nd
  have hu : (A.deeper (envOfC "_law_parts" (defScope (top 53)) s.heap.objs.size f cdv)).units + (Den tbl n).room < cLine := by rw [den_room]; have := hr.un; omega
  have tk : L2N.Takes (cxOf (L2N.CX P w) P w K mg base ["_law_plan_here", "_law_found", "_law_count", "_law_part_here"] "_law_parts" (defScope (top 53)) f cdv A outer s H E0) (fun cls d _ H => E0 cls d H) := L2N.takes_of rfl rfl rfl rfl
  unfold b__law_parts
  refine jss_cons ?_ ?_
  · exact (js_set (i := 1) nd rfl (by first | exact .inl rfl | exact .inr rfl) (je_lst ja_nil))
  refine jss_cons ?_ ?_
  · refine js_for (passes_of rfl) rfl (ji_seq (je_name (pv 0))) (jg_tup rfl (jgs_cons (jg_name (pg_name (i := 2) nd rfl (by first | exact .inl rfl | exact .inr rfl))) (jgs_cons (jg_name (pg_name (i := 3) nd rfl (by first | exact .inl rfl | exact .inr rfl))) jgs_nil))) ?_
    refine jss_cons ?_ ?_
    · exact (js_append (pv 1) (je_name (pv 3)))
    refine jss_one ?_
    refine js_if (jt_cmp (os_eq hu) (je_blt cs_len rfl E.h_len boot_len (jr_cons (je_name (pv 3)) jr_nil)) je_int) ?_ ?_
    · refine jss_one ?_
      exact (js_set (i := 1) nd rfl (by first | exact .inl rfl | exact .inr rfl) (je_bin os_add (je_name (pv 1)) (je_call D.c__law_parts.cal hr tk rfl (ja_cons (je_ix (je_name (pv 3)) je_int) ja_nil))))
    exact jss_nil
  refine jss_one ?_
  exact (js_ret (je_name (pv 1)))
theorem ok__law_parts (E : Facts K w mg cts) (B : Makes base mg cts) (D : Defs P w K mg base cts n) : Dfn P w K mg base (T0 cts) (Den tbl (n + 1)) (n + 1) "_law_parts" 63 := by
  obtain ⟨f, fd, hf, F⟩ := E.f__law_parts
  exact ⟨f, fd, ["_law_plan_here"], hf, F.kp, F.bindsN fun _ _ _ _ _ _ us hl => (match us, hl with | [_], _ => rfl), fo__law_parts E D F⟩
theorem sc__law_great : FnScope ["_law_tape_here", "_law_plan_here", "_law_found", "_law_count", "_law_part_here"] ["_law_tape_here", "_law_plan_here"] (defScope (top 54)) := ⟨rfl, rfl, rfl, by decide +kernel, rfl, by decide +kernel, by decide +kernel⟩
theorem fo__law_great (E : Facts K w mg cts) (D : Defs P w K mg base cts n) {f : Addr} {fd : FuncData} (F : FnP K "_law_great" (top 54) f fd) : FnG P w K mg base (L2N.CX P w) (n + 1) f fd ["_law_tape_here", "_law_plan_here"] (spD ⟨K, mg, (T0 cts)⟩ ((Den tbl (n + 1)).call 64)) := by
  refine def_ok F sc__law_great (bd := b__law_great_64) rfl fun cdv A outer s H E0 hr => ?_
  have nd := (sc__law_great).nd
  have hu : (A.deeper (envOfC "_law_great" (defScope (top 54)) s.heap.objs.size f cdv)).units + (Den tbl n).room < cLine := by rw [den_room]; have := hr.un; omega
  have tk : L2N.Takes (cxOf (L2N.CX P w) P w K mg base ["_law_tape_here", "_law_plan_here", "_law_found", "_law_count", "_law_part_here"] "_law_great" (defScope (top 54)) f cdv A outer s H E0) (fun cls d _ H => E0 cls d H) := L2N.takes_of rfl rfl rfl rfl
  unfold b__law_great_64
  refine jss_cons ?_ ?_
  · exact (js_set (i := 2) nd rfl (by first | exact .inl rfl | exact .inr rfl) (je_lst ja_nil))
  refine jss_cons ?_ ?_
  · refine js_for (passes_of rfl) rfl (ji_seq (je_name (pv 1))) (jg_tup rfl (jgs_cons (jg_name (pg_name (i := 3) nd rfl (by first | exact .inl rfl | exact .inr rfl))) (jgs_cons (jg_name (pg_name (i := 4) nd rfl (by first | exact .inl rfl | exact .inr rfl))) jgs_nil))) ?_
    refine jss_cons ?_ ?_
    · refine js_if (jt_cmp (os_eq hu) (je_blt cs_len rfl E.h_len boot_len (jr_cons (je_name (pv 4)) jr_nil)) je_int) ?_ ?_
      · refine jss_one ?_
        exact (js_set (i := 4) nd rfl (by first | exact .inl rfl | exact .inr rfl) (je_tup (ja_cons (je_ix (je_name (pv 4)) je_int) (ja_cons (je_ix (je_name (pv 4)) je_int) (ja_cons (je_call D.c__law_great.cal hr tk rfl (ja_cons (je_name (pv 0)) (ja_cons (je_ix (je_name (pv 4)) je_int) ja_nil))) ja_nil)))))
      exact jss_nil
    refine jss_one ?_
    exact (js_append (pv 2) (je_tup (ja_cons (je_bin os_mul (je_name (pv 3)) (je_ix (je_lst (ja_cons je_int (ja_cons je_int (ja_cons je_int (ja_cons (je_bin os_pow je_int je_int) (ja_cons je_int ja_nil)))))) (je_call D.c__law_pick.cal hr tk rfl (ja_cons (je_name (pv 0)) (ja_cons je_int ja_nil))))) (ja_cons (je_name (pv 4)) ja_nil))))
  refine jss_one ?_
  exact (js_ret (je_bty cs_tuple rfl E.h_tuple (by decide +kernel) (jr_cons (je_name (pv 2)) jr_nil)))
theorem ok__law_great (E : Facts K w mg cts) (B : Makes base mg cts) (D : Defs P w K mg base cts n) : Dfn P w K mg base (T0 cts) (Den tbl (n + 1)) (n + 1) "_law_great" 64 := by
  obtain ⟨f, fd, hf, F⟩ := E.f__law_great
  exact ⟨f, fd, ["_law_tape_here", "_law_plan_here"], hf, F.kp, F.bindsN fun _ _ _ _ _ _ us hl => (match us, hl with | [_, _], _ => rfl), fo__law_great E D F⟩
theorem sc__law_all : FnScope ["_law_plan_here", "_law_kinds", "_law_found", "_law_part_here"] ["_law_plan_here", "_law_kinds"] (defScope (top 55)) := ⟨rfl, rfl, rfl, by decide +kernel, rfl, by decide +kernel, by decide +kernel⟩
theorem fo__law_all (E : Facts K w mg cts) (D : Defs P w K mg base cts n) {f : Addr} {fd : FuncData} (F : FnP K "_law_all" (top 55) f fd) : FnG P w K mg base (L2N.CX P w) (n + 1) f fd ["_law_plan_here", "_law_kinds"] (spD ⟨K, mg, (T0 cts)⟩ ((Den tbl (n + 1)).call 69)) := by
  refine def_ok F sc__law_all (bd := b__law_all) rfl fun cdv A outer s H E0 hr => ?_
  have nd := (sc__law_all).nd
  have hu : (A.deeper (envOfC "_law_all" (defScope (top 55)) s.heap.objs.size f cdv)).units + (Den tbl n).room < cLine := by rw [den_room]; have := hr.un; omega
  have tk : L2N.Takes (cxOf (L2N.CX P w) P w K mg base ["_law_plan_here", "_law_kinds", "_law_found", "_law_part_here"] "_law_all" (defScope (top 55)) f cdv A outer s H E0) (fun cls d _ H => E0 cls d H) := L2N.takes_of rfl rfl rfl rfl
  unfold b__law_all
  refine jss_cons ?_ ?_
  · exact (js_set (i := 2) nd rfl (by first | exact .inl rfl | exact .inr rfl) (je_lst ja_nil))
  refine jss_cons ?_ ?_
  · refine js_for (passes_of rfl) rfl (ji_seq (je_call D.c__law_parts.cal hr tk rfl (ja_cons (je_name (pv 0)) ja_nil))) (jg_name (pg_name (i := 3) nd rfl (by first | exact .inl rfl | exact .inr rfl))) ?_
    refine jss_one ?_
    refine js_if (jt_bool (jw_and (jt_cmp (os_in hu) (je_ix (je_name (pv 3)) je_int) (je_name (pv 1))) (jw_and1 (jt_cmp (os_notin hu) (je_ix (je_name (pv 3)) je_int) (je_name (pv 2)))))) ?_ ?_
    · refine jss_one ?_
      exact (js_append (pv 2) (je_ix (je_name (pv 3)) je_int))
    exact jss_nil
  refine jss_one ?_
  exact (js_ret (je_blt cs_sortA rfl E.h_sorted (by decide +kernel) (jr_cons (je_name (pv 2)) jr_nil)))
theorem ok__law_all (E : Facts K w mg cts) (B : Makes base mg cts) (D : Defs P w K mg base cts n) : Dfn P w K mg base (T0 cts) (Den tbl (n + 1)) (n + 1) "_law_all" 69 := by
  obtain ⟨f, fd, hf, F⟩ := E.f__law_all
  exact ⟨f, fd, ["_law_plan_here", "_law_kinds"], hf, F.kp, F.bindsN fun _ _ _ _ _ _ us hl => (match us, hl with | [_, _], _ => rfl), fo__law_all E D F⟩
theorem sc__law_deep : FnScope ["_law_plan_here", "_law_count", "_law_part_here"] ["_law_plan_here"] (defScope (top 56)) := ⟨rfl, rfl, rfl, by decide +kernel, rfl, by decide +kernel, by decide +kernel⟩
theorem fo__law_deep (E : Facts K w mg cts) (D : Defs P w K mg base cts n) {f : Addr} {fd : FuncData} (F : FnP K "_law_deep" (top 56) f fd) : FnG P w K mg base (L2N.CX P w) (n + 1) f fd ["_law_plan_here"] (spD ⟨K, mg, (T0 cts)⟩ ((Den tbl (n + 1)).call 71)) := by
  refine def_ok F sc__law_deep (bd := b__law_deep) rfl fun cdv A outer s H E0 hr => ?_
  have nd := (sc__law_deep).nd
  have hu : (A.deeper (envOfC "_law_deep" (defScope (top 56)) s.heap.objs.size f cdv)).units + (Den tbl n).room < cLine := by rw [den_room]; have := hr.un; omega
  have tk : L2N.Takes (cxOf (L2N.CX P w) P w K mg base ["_law_plan_here", "_law_count", "_law_part_here"] "_law_deep" (defScope (top 56)) f cdv A outer s H E0) (fun cls d _ H => E0 cls d H) := L2N.takes_of rfl rfl rfl rfl
  unfold b__law_deep
  refine jss_one ?_
  exact (js_ret (je_blt (cs_max1 rfl) rfl E.h_max (by decide +kernel) (jr_cons (je_bin os_add (je_lst (ja_cons je_int ja_nil)) (je_comp rfl nd (ji_seq (je_name (pv 0))) (blkOk_by (N := ["_law_plan_here", "_law_count", "_law_part_here"]) (sc := defScope (top 56)) (own := [("_law_count", 1), ("_law_part_here", 2)]) (by decide +kernel)) (us := [1, 2]) rfl (by decide) (fun _ _ _ _ _ => (jg_tup rfl (jgs_cons (jg_name (pg_name (i := 1) nd rfl (by first | exact .inl rfl | exact .inr rfl))) (jgs_cons (jg_name (pg_name (i := 2) nd rfl (by first | exact .inl rfl | exact .inr rfl))) jgs_nil)))) (fun _ _ _ _ _ => (jts_one (jt_cmp (os_eq hu) (je_blt cs_len rfl E.h_len boot_len (jr_cons (je_name (pv 2)) jr_nil)) je_int))) (fun _ _ _ _ _ => (je_bin os_add je_int (je_call D.c__law_deep.cal hr takesN rfl (ja_cons (je_ix (je_name (pv 2)) je_int) ja_nil)))))) jr_nil)))
theorem ok__law_deep (E : Facts K w mg cts) (B : Makes base mg cts) (D : Defs P w K mg base cts n) : Dfn P w K mg base (T0 cts) (Den tbl (n + 1)) (n + 1) "_law_deep" 71 := by
  obtain ⟨f, fd, hf, F⟩ := E.f__law_deep
  exact ⟨f, fd, ["_law_plan_here"], hf, F.kp, F.bindsN fun _ _ _ _ _ _ us hl => (match us, hl with | [_], _ => rfl), fo__law_deep E D F⟩
theorem sc_law : FnScope ["_law_script", "_law_tape_here", "_law_great_here", "_law_one", "_law_other", "_law_plan_here", "_law_told", "_law_due", "_law_row"] ["_law_script"] (defScope (top 57)) := ⟨rfl, rfl, rfl, by decide +kernel, rfl, by decide +kernel, by decide +kernel⟩
theorem fo_law (E : Facts K w mg cts) (D : Defs P w K mg base cts n) {f : Addr} {fd : FuncData} (F : FnP K "law" (top 57) f fd) : FnG P w K mg base (L2N.CX P w) (n + 1) f fd ["_law_script"] (spD ⟨K, mg, (T0 cts)⟩ ((Den tbl (n + 1)).call 700)) := by
  refine def_ok F sc_law (bd := b_law_700) rfl fun cdv A outer s H E0 hr => ?_
  have nd := (sc_law).nd
  have hu : (A.deeper (envOfC "law" (defScope (top 57)) s.heap.objs.size f cdv)).units + (Den tbl n).room < cLine := by rw [den_room]; have := hr.un; omega
  have tk : L2N.Takes (cxOf (L2N.CX P w) P w K mg base ["_law_script", "_law_tape_here", "_law_great_here", "_law_one", "_law_other", "_law_plan_here", "_law_told", "_law_due", "_law_row"] "law" (defScope (top 57)) f cdv A outer s H E0) (fun cls d _ H => E0 cls d H) := L2N.takes_of rfl rfl rfl rfl
  unfold b_law_700
  refine jss_cons ?_ ?_
  · exact (js_setW (i := 1) nd rfl (by first | exact .inl rfl | exact .inr rfl) (je_call D.c__law_tape.cal hr tk rfl (ja_cons (je_name (pv 0)) ja_nil)))
  refine jss_cons ?_ ?_
  · exact (js_set (i := 2) nd rfl (by first | exact .inl rfl | exact .inr rfl) (je_cmp (os_eq hu) (je_call D.c__law_pick.cal hr tk rfl (ja_cons (je_name (pv 1)) (ja_cons je_int ja_nil))) je_int))
  refine jss_cons ?_ ?_
  · exact (js_set (i := 3) nd rfl (by first | exact .inl rfl | exact .inr rfl) (je_call D.c__law_plan.cal hr tk rfl (ja_cons (je_name (pv 1)) (ja_cons (je_bin os_add je_int (je_call D.c__law_pick.cal hr tk rfl (ja_cons (je_name (pv 1)) (ja_cons je_int ja_nil)))) (ja_cons je_int (ja_cons je_str (ja_cons (je_lst (ja_cons je_str (ja_cons je_str (ja_cons je_str ja_nil)))) ja_nil)))))))
  refine jss_cons ?_ ?_
  · exact (js_set (i := 4) nd rfl (by first | exact .inl rfl | exact .inr rfl) (je_call D.c__law_plan.cal hr tk rfl (ja_cons (je_name (pv 1)) (ja_cons (je_bin os_add je_int (je_call D.c__law_pick.cal hr tk rfl (ja_cons (je_name (pv 1)) (ja_cons je_int ja_nil)))) (ja_cons je_int (ja_cons je_str (ja_cons (je_lst (ja_cons je_str (ja_cons je_str ja_nil))) ja_nil)))))))
  refine jss_cons ?_ ?_
  · refine js_if (jt_truth (je_name (pv 2))) ?_ ?_
    · refine jss_one ?_
      exact (js_set (i := 3) nd rfl (by first | exact .inl rfl | exact .inr rfl) (je_call D.c__law_great.cal hr tk rfl (ja_cons (je_name (pv 1)) (ja_cons (je_name (pv 3)) ja_nil))))
    exact jss_nil
  refine jss_cons ?_ ?_
  · exact (js_set (i := 3) nd rfl (by first | exact .inl rfl | exact .inr rfl) (je_call D.c_put.cal hr tk rfl (ja_cons (je_name (pv 3)) (ja_cons je_str (ja_cons (je_tup (ja_cons (je_tup (ja_cons je_int (ja_cons (je_tup (ja_cons je_str (ja_cons (je_call D.c__law_pick.cal hr tk rfl (ja_cons (je_name (pv 1)) (ja_cons je_int ja_nil))) ja_nil))) ja_nil))) (ja_cons (je_tup (ja_cons je_int (ja_cons (je_tup (ja_cons je_str (ja_cons (je_bin os_pow je_int je_int) ja_nil))) ja_nil))) ja_nil))) ja_nil)))))
  refine jss_cons ?_ ?_
  · refine js_for (passes_of rfl) rfl (ji_seq (je_lst (ja_cons (je_name (pv 3)) (ja_cons (je_name (pv 4)) (ja_cons (je_call D.c_beside.cal hr tk rfl (ja_cons (je_name (pv 3)) (ja_cons (je_name (pv 4)) ja_nil))) ja_nil))))) (jg_name (pg_name (i := 5) nd rfl (by first | exact .inl rfl | exact .inr rfl))) ?_
    refine jss_cons ?_ ?_
    · refine js_if (jt_bool (jw_or (jt_cmp (os_ne hu) (je_call D.c_size.cal hr tk rfl (ja_cons (je_name (pv 5)) ja_nil)) (je_call D.c__law_size.cal hr tk rfl (ja_cons (je_name (pv 5)) ja_nil))) (jw_or1 (jt_truth (je_isi rfl E.h_isinstance rfl E.h_bool (by decide +kernel) (je_call D.c_size.cal hr tk rfl (ja_cons (je_name (pv 5)) ja_nil))))))) ?_ ?_
      · refine jss_one ?_
        exact (js_ret je_bl)
      exact jss_nil
    refine jss_cons ?_ ?_
    · refine js_if (jt_bool (jw_or (jt_cmp (os_ne hu) (je_call D.c_all_items.cal hr tk rfl (ja_cons (je_name (pv 5)) ja_nil)) (je_blt cs_len rfl E.h_len boot_len (jr_cons (je_call D.c__law_parts.cal hr tk rfl (ja_cons (je_name (pv 5)) ja_nil)) jr_nil))) (jw_or1 (jt_cmp (os_ne hu) (je_call D.c_nested.cal hr tk rfl (ja_cons (je_name (pv 5)) ja_nil)) (je_call D.c__law_deep.cal hr tk rfl (ja_cons (je_name (pv 5)) ja_nil)))))) ?_ ?_
      · refine jss_one ?_
        exact (js_ret je_bl)
      exact jss_nil
    refine jss_cons ?_ ?_
    · exact (js_setO (i := 6) nd rfl (by first | exact .inl rfl | exact .inr rfl) (je_newFl (jr_cons (je_asW (je_call D.c_doors.cal hr tk rfl (ja_cons (je_name (pv 5)) ja_nil))) (jr_cons (je_asW (je_call D.c_names.cal hr tk rfl (ja_cons (je_name (pv 5)) ja_nil))) (jr_cons (je_asW (je_call D.c_marks.cal hr tk rfl (ja_cons (je_name (pv 5)) ja_nil))) jr_nil)))))
    refine jss_cons ?_ ?_
    · exact (js_set (i := 7) nd rfl (by first | exact .inl rfl | exact .inr rfl) (je_lst (ja_cons (je_call D.c__law_all.cal hr tk rfl (ja_cons (je_name (pv 5)) (ja_cons (je_lst (ja_cons je_str (ja_cons je_str ja_nil))) ja_nil))) (ja_cons (je_call D.c__law_all.cal hr tk rfl (ja_cons (je_name (pv 5)) (ja_cons (je_lst (ja_cons je_str ja_nil)) ja_nil))) (ja_cons (je_call D.c__law_all.cal hr tk rfl (ja_cons (je_name (pv 5)) (ja_cons (je_lst (ja_cons je_str ja_nil)) ja_nil))) ja_nil)))))
    refine jss_cons ?_ ?_
    · refine js_if (jt_bool (jw_or (jt_neFl hu (je_name (pv 6)) (je_name (pv 7))) (jw_or1 (jt_cmp (os_gt hu) (je_blt cs_len rfl E.h_len boot_len (jr_cons (je_compF rfl nd (jif_ref (je_name (pv 6))) (blkOk_by (N := ["_law_script", "_law_tape_here", "_law_great_here", "_law_one", "_law_other", "_law_plan_here", "_law_told", "_law_due", "_law_row"]) (sc := defScope (top 57)) (own := [("_law_row", 8)]) (by decide +kernel)) (us := [8]) rfl (by decide) (fun _ _ _ _ _ => (jgf_name (pg_name (i := 8) nd rfl (by first | exact .inl rfl | exact .inr rfl)))) (fun _ _ _ _ _ => (jts_one (jt_not (jt_truth (je_isiW rfl E.h_isinstance rfl E.h_list (by decide +kernel) (je_name (pv 8))))))) (fun _ _ _ _ _ => (je_name (pv 8)))) jr_nil)) je_int)))) ?_ ?_
      · refine jss_one ?_
        exact (js_ret je_bl)
      exact jss_nil
    refine jss_cons ?_ ?_
    · refine js_forF (passes_of rfl) rfl (jif_ref (je_name (pv 6))) (jgf_name (pg_name (i := 8) nd rfl (by first | exact .inl rfl | exact .inr rfl))) ?_
      refine jss_one ?_
      exact (js_appF (je_name (pv 8)) je_non)
    refine jss_one ?_
    refine js_if (jt_cmp (os_ne hu) (je_lst (ja_cons (je_call D.c_doors.cal hr tk rfl (ja_cons (je_name (pv 5)) ja_nil)) (ja_cons (je_call D.c_names.cal hr tk rfl (ja_cons (je_name (pv 5)) ja_nil)) (ja_cons (je_call D.c_marks.cal hr tk rfl (ja_cons (je_name (pv 5)) ja_nil)) ja_nil)))) (je_name (pv 7))) ?_ ?_
    · refine jss_one ?_
      exact (js_ret je_bl)
    exact jss_nil
  refine jss_cons ?_ ?_
  · refine js_if (jt_bool (jw_or (jt_cmp (os_ne hu) (je_call D.c_size.cal hr tk rfl (ja_cons (je_call D.c_beside.cal hr tk rfl (ja_cons (je_name (pv 3)) (ja_cons (je_name (pv 4)) ja_nil))) ja_nil)) (je_bin os_add (je_call D.c_size.cal hr tk rfl (ja_cons (je_name (pv 3)) ja_nil)) (je_call D.c_size.cal hr tk rfl (ja_cons (je_name (pv 4)) ja_nil)))) (jw_or1 (jt_cmp (os_ne hu) (je_call D.c_beside.cal hr tk rfl (ja_cons (je_name (pv 3)) (ja_cons (je_name (pv 4)) ja_nil))) (je_bin os_add (je_name (pv 3)) (je_name (pv 4))))))) ?_ ?_
    · refine jss_one ?_
      exact (js_ret je_bl)
    exact jss_nil
  refine jss_one ?_
  exact (js_ret (je_and (je_cmp (os_eq hu) (je_call D.c_mark_put.cal hr tk rfl (ja_cons (je_name (pv 3)) (ja_cons je_int (ja_cons (je_name (pv 4)) ja_nil)))) (je_name (pv 3))) (je_one (je_cmp (os_eq hu) (je_call D.c_size.cal hr tk rfl (ja_cons (je_tup ja_nil) ja_nil)) je_int))))
theorem ok_law (E : Facts K w mg cts) (B : Makes base mg cts) (D : Defs P w K mg base cts n) : Dfn P w K mg base (T0 cts) (Den tbl (n + 1)) (n + 1) "law" 700 := by
  obtain ⟨f, fd, hf, F⟩ := E.f_law
  exact ⟨f, fd, ["_law_script"], hf, F.kp, F.bindsN fun _ _ _ _ _ _ us hl => (match us, hl with | [_], _ => rfl), fo_law E D F⟩
theorem lvl (E : Facts K w mg cts) (B : Makes base mg cts) : ∀ n, Defs P w K mg base cts n
  | 0 => ⟨(by obtain ⟨f, fd, hf, F⟩ := E.f_is_integer; exact ⟨f, fd, ["thing"], hf, F.kp, F.bindsN fun _ _ _ _ _ _ us hl => (match us, hl with | [_], _ => rfl), def_zero⟩),
    (by obtain ⟨f, fd, hf, F⟩ := E.f_is_within; exact ⟨f, fd, ["thing", "least", "most"], hf, F.kp, F.bindsN fun _ _ _ _ _ _ us hl => (match us, hl with | [_, _, _], _ => rfl), def_zero⟩),
    (by obtain ⟨f, fd, hf, F⟩ := E.f_is_pair; exact ⟨f, fd, ["thing"], hf, F.kp, F.bindsN fun _ _ _ _ _ _ us hl => (match us, hl with | [_], _ => rfl), def_zero⟩),
    (by obtain ⟨f, fd, hf, F⟩ := E.f_is_triple; exact ⟨f, fd, ["thing"], hf, F.kp, F.bindsN fun _ _ _ _ _ _ us hl => (match us, hl with | [_], _ => rfl), def_zero⟩),
    (by obtain ⟨f, fd, hf, F⟩ := E.f_is_word; exact ⟨f, fd, ["thing"], hf, F.kp, F.bindsN fun _ _ _ _ _ _ us hl => (match us, hl with | [_], _ => rfl), def_zero⟩),
    (by obtain ⟨f, fd, hf, F⟩ := E.f_is_door; exact ⟨f, fd, ["thing"], hf, F.kp, F.bindsN fun _ _ _ _ _ _ us hl => (match us, hl with | [_], _ => rfl), def_zero⟩),
    (by obtain ⟨f, fd, hf, F⟩ := E.f_is_part; exact ⟨f, fd, ["thing", "depth"], hf, F.kp, F.bindsN fun _ _ _ _ _ _ us hl => (match us, hl with | [_, _], _ => rfl), def_zero⟩),
    (by obtain ⟨f, fd, hf, F⟩ := E.f_is_plan_in; exact ⟨f, fd, ["thing", "depth"], hf, F.kp, F.bindsN fun _ _ _ _ _ _ us hl => (match us, hl with | [_, _], _ => rfl), def_zero⟩),
    (by obtain ⟨f, fd, hf, F⟩ := E.f_check_plan; exact ⟨f, fd, ["thing"], hf, F.kp, F.bindsN fun _ _ _ _ _ _ us hl => (match us, hl with | [_], _ => rfl), def_zero⟩),
    (by obtain ⟨f, fd, hf, F⟩ := E.f_check_two; exact ⟨f, fd, ["one", "other"], hf, F.kp, F.bindsN fun _ _ _ _ _ _ us hl => (match us, hl with | [_, _], _ => rfl), def_zero⟩),
    (by obtain ⟨f, fd, hf, F⟩ := E.f_check_word; exact ⟨f, fd, ["thing"], hf, F.kp, F.bindsN fun _ _ _ _ _ _ us hl => (match us, hl with | [_], _ => rfl), def_zero⟩),
    (by obtain ⟨f, fd, hf, F⟩ := E.f_part_size; exact ⟨f, fd, ["part"], hf, F.kp, F.bindsN fun _ _ _ _ _ _ us hl => (match us, hl with | [_], _ => rfl), def_zero⟩),
    (by obtain ⟨f, fd, hf, F⟩ := E.f_size_of; exact ⟨f, fd, ["plan"], hf, F.kp, F.bindsN fun _ _ _ _ _ _ us hl => (match us, hl with | [_], _ => rfl), def_zero⟩),
    (by obtain ⟨f, fd, hf, F⟩ := E.f_size; exact ⟨f, fd, ["plan"], hf, F.kp, F.bindsN fun _ _ _ _ _ _ us hl => (match us, hl with | [_], _ => rfl), def_zero⟩),
    (by obtain ⟨f, fd, hf, F⟩ := E.f_parts_within; exact ⟨f, fd, ["plan"], hf, F.kp, F.bindsN fun _ _ _ _ _ _ us hl => (match us, hl with | [_], _ => rfl), def_zero⟩),
    (by obtain ⟨f, fd, hf, F⟩ := E.f_items_in; exact ⟨f, fd, ["plan"], hf, F.kp, F.bindsN fun _ _ _ _ _ _ us hl => (match us, hl with | [_], _ => rfl), def_zero⟩),
    (by obtain ⟨f, fd, hf, F⟩ := E.f_nesting; exact ⟨f, fd, ["plan"], hf, F.kp, F.bindsN fun _ _ _ _ _ _ us hl => (match us, hl with | [_], _ => rfl), def_zero⟩),
    (by obtain ⟨f, fd, hf, F⟩ := E.f_check_room; exact ⟨f, fd, ["items"], hf, F.kp, F.bindsN fun _ _ _ _ _ _ us hl => (match us, hl with | [_], _ => rfl), def_zero⟩),
    (by obtain ⟨f, fd, hf, F⟩ := E.f_roomy; exact ⟨f, fd, ["plan"], hf, F.kp, F.bindsN fun _ _ _ _ _ _ us hl => (match us, hl with | [_], _ => rfl), def_zero⟩),
    (by obtain ⟨f, fd, hf, F⟩ := E.f_all_items; exact ⟨f, fd, ["plan"], hf, F.kp, F.bindsN fun _ _ _ _ _ _ us hl => (match us, hl with | [_], _ => rfl), def_zero⟩),
    (by obtain ⟨f, fd, hf, F⟩ := E.f_nested; exact ⟨f, fd, ["plan"], hf, F.kp, F.bindsN fun _ _ _ _ _ _ us hl => (match us, hl with | [_], _ => rfl), def_zero⟩),
    (by obtain ⟨f, fd, hf, F⟩ := E.f_doors_of; exact ⟨f, fd, ["plan"], hf, F.kp, F.bindsN fun _ _ _ _ _ _ us hl => (match us, hl with | [_], _ => rfl), def_zero⟩),
    (by obtain ⟨f, fd, hf, F⟩ := E.f_labels_of; exact ⟨f, fd, ["plan", "kind"], hf, F.kp, F.bindsN fun _ _ _ _ _ _ us hl => (match us, hl with | [_, _], _ => rfl), def_zero⟩),
    (by obtain ⟨f, fd, hf, F⟩ := E.f_doors; exact ⟨f, fd, ["plan"], hf, F.kp, F.bindsN fun _ _ _ _ _ _ us hl => (match us, hl with | [_], _ => rfl), def_zero⟩),
    (by obtain ⟨f, fd, hf, F⟩ := E.f_names; exact ⟨f, fd, ["plan"], hf, F.kp, F.bindsN fun _ _ _ _ _ _ us hl => (match us, hl with | [_], _ => rfl), def_zero⟩),
    (by obtain ⟨f, fd, hf, F⟩ := E.f_marks; exact ⟨f, fd, ["plan"], hf, F.kp, F.bindsN fun _ _ _ _ _ _ us hl => (match us, hl with | [_], _ => rfl), def_zero⟩),
    (by obtain ⟨f, fd, hf, F⟩ := E.f_mapped; exact ⟨f, fd, ["plan", "depth", "action"], hf, F.kp, F.bindsN fun _ _ _ _ _ _ us hl => (match us, hl with | [_, _, _], _ => rfl), def_zero⟩),
    (by obtain ⟨f, fd, c, Pt, hf, F, hcd, hm⟩ := E.f_raised; exact ⟨f, fd, ["plan", "by", "least"], hf, F.kp, F.bindsN fun _ _ _ _ _ _ us hl => (match us, hl with | [_, _, _], _ => rfl), def_zero⟩),
    (by obtain ⟨f, fd, c, Pt, hf, F, hcd, hm⟩ := E.f_replaced; exact ⟨f, fd, ["plan", "old", "other"], hf, F.kp, F.bindsN fun _ _ _ _ _ _ us hl => (match us, hl with | [_, _, _], _ => rfl), def_zero⟩),
    (by obtain ⟨f, fd, hf, F⟩ := E.f_roomy_replaced; exact ⟨f, fd, ["plan", "old", "other"], hf, F.kp, F.bindsN fun _ _ _ _ _ _ us hl => (match us, hl with | [_, _, _], _ => rfl), def_zero⟩),
    (by obtain ⟨f, fd, hf, F⟩ := E.f_beside; exact ⟨f, fd, ["one", "other"], hf, F.kp, F.bindsN fun _ _ _ _ _ _ us hl => (match us, hl with | [_, _], _ => rfl), def_zero⟩),
    (by obtain ⟨f, fd, hf, F⟩ := E.f_put; exact ⟨f, fd, ["plan", "word", "other"], hf, F.kp, F.bindsN fun _ _ _ _ _ _ us hl => (match us, hl with | [_, _, _], _ => rfl), def_zero⟩),
    (by obtain ⟨f, fd, hf, F⟩ := E.f_check_mark; exact ⟨f, fd, ["thing"], hf, F.kp, F.bindsN fun _ _ _ _ _ _ us hl => (match us, hl with | [_], _ => rfl), def_zero⟩),
    (by obtain ⟨f, fd, hf, F⟩ := E.f_mark_put; exact ⟨f, fd, ["plan", "number", "other"], hf, F.kp, F.bindsN fun _ _ _ _ _ _ us hl => (match us, hl with | [_, _, _], _ => rfl), def_zero⟩),
    (by obtain ⟨f, fd, hf, F⟩ := E.f__law_tape; exact ⟨f, fd, ["_law_script"], hf, F.kp, F.bindsN fun _ _ _ _ _ _ us hl => (match us, hl with | [_], _ => rfl), def_zero⟩),
    (by obtain ⟨f, fd, hf, F⟩ := E.f__law_pick; exact ⟨f, fd, ["_law_tape_here", "_law_many"], hf, F.kp, F.bindsN fun _ _ _ _ _ _ us hl => (match us, hl with | [_, _], _ => rfl), def_zero⟩),
    (by obtain ⟨f, fd, hf, F⟩ := E.f__law_plan; exact ⟨f, fd, ["_law_tape_here", "_law_left", "_law_depth", "_law_letters", "_law_words"], hf, F.kp, F.bindsN fun _ _ _ _ _ _ us hl => (match us, hl with | [_, _, _, _, _], _ => rfl), def_zero⟩),
    (by obtain ⟨f, fd, hf, F⟩ := E.f__law_part; exact ⟨f, fd, ["_law_tape_here", "_law_left", "_law_depth", "_law_letters", "_law_words"], hf, F.kp, F.bindsN fun _ _ _ _ _ _ us hl => (match us, hl with | [_, _, _, _, _], _ => rfl), def_zero⟩),
    (by obtain ⟨f, fd, hf, F⟩ := E.f__law_part_size; exact ⟨f, fd, ["_law_part_here"], hf, F.kp, F.bindsN fun _ _ _ _ _ _ us hl => (match us, hl with | [_], _ => rfl), def_zero⟩),
    (by obtain ⟨f, fd, hf, F⟩ := E.f__law_size; exact ⟨f, fd, ["_law_plan_here"], hf, F.kp, F.bindsN fun _ _ _ _ _ _ us hl => (match us, hl with | [_], _ => rfl), def_zero⟩),
    (by obtain ⟨f, fd, hf, F⟩ := E.f__law_parts; exact ⟨f, fd, ["_law_plan_here"], hf, F.kp, F.bindsN fun _ _ _ _ _ _ us hl => (match us, hl with | [_], _ => rfl), def_zero⟩),
    (by obtain ⟨f, fd, hf, F⟩ := E.f__law_great; exact ⟨f, fd, ["_law_tape_here", "_law_plan_here"], hf, F.kp, F.bindsN fun _ _ _ _ _ _ us hl => (match us, hl with | [_, _], _ => rfl), def_zero⟩),
    (by obtain ⟨f, fd, hf, F⟩ := E.f__law_all; exact ⟨f, fd, ["_law_plan_here", "_law_kinds"], hf, F.kp, F.bindsN fun _ _ _ _ _ _ us hl => (match us, hl with | [_, _], _ => rfl), def_zero⟩),
    (by obtain ⟨f, fd, hf, F⟩ := E.f__law_deep; exact ⟨f, fd, ["_law_plan_here"], hf, F.kp, F.bindsN fun _ _ _ _ _ _ us hl => (match us, hl with | [_], _ => rfl), def_zero⟩),
    (by obtain ⟨f, fd, hf, F⟩ := E.f_law; exact ⟨f, fd, ["_law_script"], hf, F.kp, F.bindsN fun _ _ _ _ _ _ us hl => (match us, hl with | [_], _ => rfl), def_zero⟩),
    clos_zero⟩
  | n + 1 => ⟨ok_is_integer E B (lvl E B n), ok_is_within E B (lvl E B n), ok_is_pair E B (lvl E B n), ok_is_triple E B (lvl E B n), ok_is_word E B (lvl E B n), ok_is_door E B (lvl E B n), ok_is_part E B (lvl E B n), ok_is_plan_in E B (lvl E B n), ok_check_plan E B (lvl E B n), ok_check_two E B (lvl E B n), ok_check_word E B (lvl E B n), ok_part_size E B (lvl E B n), ok_size_of E B (lvl E B n), ok_size E B (lvl E B n), ok_parts_within E B (lvl E B n), ok_items_in E B (lvl E B n), ok_nesting E B (lvl E B n), ok_check_room E B (lvl E B n), ok_roomy E B (lvl E B n), ok_all_items E B (lvl E B n), ok_nested E B (lvl E B n), ok_doors_of E B (lvl E B n), ok_labels_of E B (lvl E B n), ok_doors E B (lvl E B n), ok_names E B (lvl E B n), ok_marks E B (lvl E B n), ok_mapped E B (lvl E B n), ok_raised E B (lvl E B n), ok_replaced E B (lvl E B n), ok_roomy_replaced E B (lvl E B n), ok_beside E B (lvl E B n), ok_put E B (lvl E B n), ok_check_mark E B (lvl E B n), ok_mark_put E B (lvl E B n), ok__law_tape E B (lvl E B n), ok__law_pick E B (lvl E B n), ok__law_plan E B (lvl E B n), ok__law_part E B (lvl E B n), ok__law_part_size E B (lvl E B n), ok__law_size E B (lvl E B n), ok__law_parts E B (lvl E B n), ok__law_great E B (lvl E B n), ok__law_all E B (lvl E B n), ok__law_deep E B (lvl E B n), ok_law E B (lvl E B n), cls_succ E (lvl E B n)⟩
end
end K02
end Dl
namespace Dl
open PySem PySem.Spec PyProof.Rows L2 NdefX
namespace K02
open Q2x
theorem has : Has02 tbl := by
  refine { t1 := rfl, t2 := rfl, t4 := rfl, t27 := rfl, t24 := rfl, t26 := rfl, t28 := rfl, t25 := rfl, t31 := rfl, t32 := rfl, t29 := rfl, t30 := rfl, t47 := rfl, t124 := rfl, t128 := rfl, t127 := rfl, t54 := rfl, t68 := rfl, t11 := rfl, t64 := rfl, t63 := rfl, t69 := rfl, t38 := rfl, t41 := rfl, t39 := rfl, t40 := rfl, t52 := rfl, t51 := rfl, t34 := rfl, t55 := rfl, t57 := rfl, t37 := rfl, t53 := rfl, t56 := rfl, t58 := rfl, t59 := rfl, t61 := rfl, t73 := rfl, t62 := rfl, t65 := rfl, t72 := rfl, t70 := rfl, t60 := rfl, t66 := rfl, t71 := rfl, t22 := rfl }
theorem law_true (ns : List Int) : ∃ w', (Den tbl 301).call 700 [.dat (.lst (ns.map .int))] [] = .ok (.dat (.bl true)) w' := by
  have e0 : (Den tbl 300).call 22 [.dat (.lst (ns.map .int))] [] = .ok (.fresh [.lst (ns.map .int), .int 0, .int 0, .int 1, .int 0]) [] := by
    rw [den_succ (show tbl 22 = some ⟨1, 1, b__law_tape⟩ from rfl)]
    exact tape_run
  have t0 : TapeOk [] [.lst [.lst (ns.map .int), .int 0, .int 0, .int 1, .int 0]] := ⟨ns, 0, 0, 1, 0, rfl, by decide⟩
  generalize hS : D.lst (ns.map D.int) = S at *
  have ht : tbl 700 = some ⟨1, 9, b_law_700⟩ := rfl
  obtain ⟨w', e⟩ := law02 has (n := 300) (by omega) (S := S) t0
  refine ⟨w', ?_⟩
  rw [show (Den tbl 301).call 700 [.dat S] [] = endR (b_law_700 (Den tbl 300) [.dat S, .un, .un, .un, .un, .un, .un, .un, .un] []) by rw [den_succ ht]; rfl]
  rw [law02S]
  have s1 : k21 (Den tbl 300) [.dat S, .un, .un, .un, .un, .un, .un, .un, .un] [] = .ok (.nx [.dat S, .wref 0, .un, .un, .un, .un, .un, .un, .un]) [.lst [S, .int 0, .int 0, .int 1, .int 0]] := by
    simp [e0]
  rw [sq02 s1, e]
  rfl
end K02
end Dl
namespace Dl
open PySem PySem.Spec PyProof.Rows L2 NdefX
namespace K02
theorem factsH {w : PySem.World} {K : PySem.W.Frag} {h : Heap} {mg : Str → Option Value} (X : K.In h) (G : h.Ns mainGlobals mg) (c : He.SaysX faH fnH tsH tfH exH w h K) : Facts K w mg (ctsOf K tqH) where
  f_is_integer := by obtain ⟨fd, F⟩ := c.t.d.def_ 0 (d := ⟨("is_integer", none), "is_integer", "is_integer", defArgs (top 9), defBody (top 9), defScope (top 9), [], []⟩) rfl; exact ⟨_, fd, He.glo_ok X G (c.t.d.fact 0 (f := .glo "is_integer") rfl), F⟩
  f_is_within := by obtain ⟨fd, F⟩ := c.t.d.def_ 1 (d := ⟨("is_within", none), "is_within", "is_within", defArgs (top 10), defBody (top 10), defScope (top 10), [], []⟩) rfl; exact ⟨_, fd, He.glo_ok X G (c.t.d.fact 1 (f := .glo "is_within") rfl), F⟩
  f_is_pair := by obtain ⟨fd, F⟩ := c.t.d.def_ 2 (d := ⟨("is_pair", none), "is_pair", "is_pair", defArgs (top 11), defBody (top 11), defScope (top 11), [], []⟩) rfl; exact ⟨_, fd, He.glo_ok X G (c.t.d.fact 2 (f := .glo "is_pair") rfl), F⟩
  f_is_triple := by obtain ⟨fd, F⟩ := c.t.d.def_ 3 (d := ⟨("is_triple", none), "is_triple", "is_triple", defArgs (top 12), defBody (top 12), defScope (top 12), [], []⟩) rfl; exact ⟨_, fd, He.glo_ok X G (c.t.d.fact 3 (f := .glo "is_triple") rfl), F⟩
  f_is_word := by obtain ⟨fd, F⟩ := c.t.d.def_ 4 (d := ⟨("is_word", none), "is_word", "is_word", defArgs (top 13), defBody (top 13), defScope (top 13), [], []⟩) rfl; exact ⟨_, fd, He.glo_ok X G (c.t.d.fact 4 (f := .glo "is_word") rfl), F⟩
  f_is_door := by obtain ⟨fd, F⟩ := c.t.d.def_ 5 (d := ⟨("is_door", none), "is_door", "is_door", defArgs (top 14), defBody (top 14), defScope (top 14), [], []⟩) rfl; exact ⟨_, fd, He.glo_ok X G (c.t.d.fact 5 (f := .glo "is_door") rfl), F⟩
  f_is_part := by obtain ⟨fd, F⟩ := c.t.d.def_ 6 (d := ⟨("is_part", none), "is_part", "is_part", defArgs (top 15), defBody (top 15), defScope (top 15), [], []⟩) rfl; exact ⟨_, fd, He.glo_ok X G (c.t.d.fact 6 (f := .glo "is_part") rfl), F⟩
  f_is_plan_in := by obtain ⟨fd, F⟩ := c.t.d.def_ 7 (d := ⟨("is_plan_in", none), "is_plan_in", "is_plan_in", defArgs (top 16), defBody (top 16), defScope (top 16), [], []⟩) rfl; exact ⟨_, fd, He.glo_ok X G (c.t.d.fact 7 (f := .glo "is_plan_in") rfl), F⟩
  f_check_plan := by obtain ⟨fd, F⟩ := c.t.d.def_ 8 (d := ⟨("check_plan", none), "check_plan", "check_plan", defArgs (top 17), defBody (top 17), defScope (top 17), [], []⟩) rfl; exact ⟨_, fd, He.glo_ok X G (c.t.d.fact 8 (f := .glo "check_plan") rfl), F⟩
  f_check_two := by obtain ⟨fd, F⟩ := c.t.d.def_ 9 (d := ⟨("check_two", none), "check_two", "check_two", defArgs (top 18), defBody (top 18), defScope (top 18), [], []⟩) rfl; exact ⟨_, fd, He.glo_ok X G (c.t.d.fact 9 (f := .glo "check_two") rfl), F⟩
  f_check_word := by obtain ⟨fd, F⟩ := c.t.d.def_ 10 (d := ⟨("check_word", none), "check_word", "check_word", defArgs (top 19), defBody (top 19), defScope (top 19), [], []⟩) rfl; exact ⟨_, fd, He.glo_ok X G (c.t.d.fact 10 (f := .glo "check_word") rfl), F⟩
  f_part_size := by obtain ⟨fd, F⟩ := c.t.d.def_ 11 (d := ⟨("part_size", none), "part_size", "part_size", defArgs (top 23), defBody (top 23), defScope (top 23), [], []⟩) rfl; exact ⟨_, fd, He.glo_ok X G (c.t.d.fact 11 (f := .glo "part_size") rfl), F⟩
  f_size_of := by obtain ⟨fd, F⟩ := c.t.d.def_ 12 (d := ⟨("size_of", none), "size_of", "size_of", defArgs (top 24), defBody (top 24), defScope (top 24), [], []⟩) rfl; exact ⟨_, fd, He.glo_ok X G (c.t.d.fact 12 (f := .glo "size_of") rfl), F⟩
  f_size := by obtain ⟨fd, F⟩ := c.t.d.def_ 13 (d := ⟨("size", none), "size", "size", defArgs (top 25), defBody (top 25), defScope (top 25), [], []⟩) rfl; exact ⟨_, fd, He.glo_ok X G (c.t.d.fact 13 (f := .glo "size") rfl), F⟩
  f_parts_within := by obtain ⟨fd, F⟩ := c.t.d.def_ 14 (d := ⟨("parts_within", none), "parts_within", "parts_within", defArgs (top 26), defBody (top 26), defScope (top 26), [], []⟩) rfl; exact ⟨_, fd, He.glo_ok X G (c.t.d.fact 14 (f := .glo "parts_within") rfl), F⟩
  f_items_in := by obtain ⟨fd, F⟩ := c.t.d.def_ 15 (d := ⟨("items_in", none), "items_in", "items_in", defArgs (top 27), defBody (top 27), defScope (top 27), [], []⟩) rfl; exact ⟨_, fd, He.glo_ok X G (c.t.d.fact 15 (f := .glo "items_in") rfl), F⟩
  f_nesting := by obtain ⟨fd, F⟩ := c.t.d.def_ 16 (d := ⟨("nesting", none), "nesting", "nesting", defArgs (top 28), defBody (top 28), defScope (top 28), [], []⟩) rfl; exact ⟨_, fd, He.glo_ok X G (c.t.d.fact 16 (f := .glo "nesting") rfl), F⟩
  f_check_room := by obtain ⟨fd, F⟩ := c.t.d.def_ 17 (d := ⟨("check_room", none), "check_room", "check_room", defArgs (top 29), defBody (top 29), defScope (top 29), [], []⟩) rfl; exact ⟨_, fd, He.glo_ok X G (c.t.d.fact 17 (f := .glo "check_room") rfl), F⟩
  f_roomy := by obtain ⟨fd, F⟩ := c.t.d.def_ 18 (d := ⟨("roomy", none), "roomy", "roomy", defArgs (top 30), defBody (top 30), defScope (top 30), [], []⟩) rfl; exact ⟨_, fd, He.glo_ok X G (c.t.d.fact 18 (f := .glo "roomy") rfl), F⟩
  f_all_items := by obtain ⟨fd, F⟩ := c.t.d.def_ 19 (d := ⟨("all_items", none), "all_items", "all_items", defArgs (top 31), defBody (top 31), defScope (top 31), [], []⟩) rfl; exact ⟨_, fd, He.glo_ok X G (c.t.d.fact 19 (f := .glo "all_items") rfl), F⟩
  f_nested := by obtain ⟨fd, F⟩ := c.t.d.def_ 20 (d := ⟨("nested", none), "nested", "nested", defArgs (top 32), defBody (top 32), defScope (top 32), [], []⟩) rfl; exact ⟨_, fd, He.glo_ok X G (c.t.d.fact 20 (f := .glo "nested") rfl), F⟩
  f_doors_of := by obtain ⟨fd, F⟩ := c.t.d.def_ 21 (d := ⟨("doors_of", none), "doors_of", "doors_of", defArgs (top 33), defBody (top 33), defScope (top 33), [], []⟩) rfl; exact ⟨_, fd, He.glo_ok X G (c.t.d.fact 21 (f := .glo "doors_of") rfl), F⟩
  f_labels_of := by obtain ⟨fd, F⟩ := c.t.d.def_ 22 (d := ⟨("labels_of", none), "labels_of", "labels_of", defArgs (top 34), defBody (top 34), defScope (top 34), [], []⟩) rfl; exact ⟨_, fd, He.glo_ok X G (c.t.d.fact 22 (f := .glo "labels_of") rfl), F⟩
  f_doors := by obtain ⟨fd, F⟩ := c.t.d.def_ 23 (d := ⟨("doors", none), "doors", "doors", defArgs (top 35), defBody (top 35), defScope (top 35), [], []⟩) rfl; exact ⟨_, fd, He.glo_ok X G (c.t.d.fact 23 (f := .glo "doors") rfl), F⟩
  f_names := by obtain ⟨fd, F⟩ := c.t.d.def_ 24 (d := ⟨("names", none), "names", "names", defArgs (top 36), defBody (top 36), defScope (top 36), [], []⟩) rfl; exact ⟨_, fd, He.glo_ok X G (c.t.d.fact 24 (f := .glo "names") rfl), F⟩
  f_marks := by obtain ⟨fd, F⟩ := c.t.d.def_ 25 (d := ⟨("marks", none), "marks", "marks", defArgs (top 37), defBody (top 37), defScope (top 37), [], []⟩) rfl; exact ⟨_, fd, He.glo_ok X G (c.t.d.fact 25 (f := .glo "marks") rfl), F⟩
  f_mapped := by obtain ⟨fd, F⟩ := c.t.d.def_ 26 (d := ⟨("mapped", none), "mapped", "mapped", defArgs (top 38), defBody (top 38), defScope (top 38), [], []⟩) rfl; exact ⟨_, fd, He.glo_ok X G (c.t.d.fact 26 (f := .glo "mapped") rfl), F⟩
  f_raised := by obtain ⟨fd, F⟩ := c.t.d.def_ 27 (d := ⟨("raised", none), "raised", "raised", defArgs (top 39), defBody (top 39), defScope (top 39), [], []⟩) rfl; obtain ⟨c1, Pt, e1, e2⟩ := maker_of (tq := tqH) (p := ("raised", none)) (q := "raised.<locals>.lift") F (.head _); exact ⟨_, fd, c1, Pt, He.glo_ok X G (c.t.d.fact 27 (f := .glo "raised") rfl), F, e1, e2⟩
  f_replaced := by obtain ⟨fd, F⟩ := c.t.d.def_ 28 (d := ⟨("replaced", none), "replaced", "replaced", defArgs (top 40), defBody (top 40), defScope (top 40), [], []⟩) rfl; obtain ⟨c1, Pt, e1, e2⟩ := maker_of (tq := tqH) (p := ("replaced", none)) (q := "replaced.<locals>.<lambda>") F (.tail _ (.head _)); exact ⟨_, fd, c1, Pt, He.glo_ok X G (c.t.d.fact 28 (f := .glo "replaced") rfl), F, e1, e2⟩
  f_roomy_replaced := by obtain ⟨fd, F⟩ := c.t.d.def_ 29 (d := ⟨("roomy_replaced", none), "roomy_replaced", "roomy_replaced", defArgs (top 41), defBody (top 41), defScope (top 41), [], []⟩) rfl; exact ⟨_, fd, He.glo_ok X G (c.t.d.fact 29 (f := .glo "roomy_replaced") rfl), F⟩
  f_beside := by obtain ⟨fd, F⟩ := c.t.d.def_ 30 (d := ⟨("beside", none), "beside", "beside", defArgs (top 42), defBody (top 42), defScope (top 42), [], []⟩) rfl; exact ⟨_, fd, He.glo_ok X G (c.t.d.fact 30 (f := .glo "beside") rfl), F⟩
  f_put := by obtain ⟨fd, F⟩ := c.t.d.def_ 31 (d := ⟨("put", none), "put", "put", defArgs (top 43), defBody (top 43), defScope (top 43), [], []⟩) rfl; exact ⟨_, fd, He.glo_ok X G (c.t.d.fact 31 (f := .glo "put") rfl), F⟩
  f_check_mark := by obtain ⟨fd, F⟩ := c.t.d.def_ 32 (d := ⟨("check_mark", none), "check_mark", "check_mark", defArgs (top 44), defBody (top 44), defScope (top 44), [], []⟩) rfl; exact ⟨_, fd, He.glo_ok X G (c.t.d.fact 32 (f := .glo "check_mark") rfl), F⟩
  f_mark_put := by obtain ⟨fd, F⟩ := c.t.d.def_ 33 (d := ⟨("mark_put", none), "mark_put", "mark_put", defArgs (top 45), defBody (top 45), defScope (top 45), [], []⟩) rfl; exact ⟨_, fd, He.glo_ok X G (c.t.d.fact 33 (f := .glo "mark_put") rfl), F⟩
  f__law_tape := by obtain ⟨fd, F⟩ := c.t.d.def_ 34 (d := ⟨("_law_tape", none), "_law_tape", "_law_tape", defArgs (top 47), defBody (top 47), defScope (top 47), [], []⟩) rfl; exact ⟨_, fd, He.glo_ok X G (c.t.d.fact 34 (f := .glo "_law_tape") rfl), F⟩
  f__law_pick := by obtain ⟨fd, F⟩ := c.t.d.def_ 35 (d := ⟨("_law_pick", none), "_law_pick", "_law_pick", defArgs (top 48), defBody (top 48), defScope (top 48), [], []⟩) rfl; exact ⟨_, fd, He.glo_ok X G (c.t.d.fact 35 (f := .glo "_law_pick") rfl), F⟩
  f__law_plan := by obtain ⟨fd, F⟩ := c.t.d.def_ 36 (d := ⟨("_law_plan", none), "_law_plan", "_law_plan", defArgs (top 49), defBody (top 49), defScope (top 49), [], []⟩) rfl; exact ⟨_, fd, He.glo_ok X G (c.t.d.fact 36 (f := .glo "_law_plan") rfl), F⟩
  f__law_part := by obtain ⟨fd, F⟩ := c.t.d.def_ 37 (d := ⟨("_law_part", none), "_law_part", "_law_part", defArgs (top 50), defBody (top 50), defScope (top 50), [], []⟩) rfl; exact ⟨_, fd, He.glo_ok X G (c.t.d.fact 37 (f := .glo "_law_part") rfl), F⟩
  f__law_part_size := by obtain ⟨fd, F⟩ := c.t.d.def_ 38 (d := ⟨("_law_part_size", none), "_law_part_size", "_law_part_size", defArgs (top 51), defBody (top 51), defScope (top 51), [], []⟩) rfl; exact ⟨_, fd, He.glo_ok X G (c.t.d.fact 38 (f := .glo "_law_part_size") rfl), F⟩
  f__law_size := by obtain ⟨fd, F⟩ := c.t.d.def_ 39 (d := ⟨("_law_size", none), "_law_size", "_law_size", defArgs (top 52), defBody (top 52), defScope (top 52), [], []⟩) rfl; exact ⟨_, fd, He.glo_ok X G (c.t.d.fact 39 (f := .glo "_law_size") rfl), F⟩
  f__law_parts := by obtain ⟨fd, F⟩ := c.t.d.def_ 40 (d := ⟨("_law_parts", none), "_law_parts", "_law_parts", defArgs (top 53), defBody (top 53), defScope (top 53), [], []⟩) rfl; exact ⟨_, fd, He.glo_ok X G (c.t.d.fact 40 (f := .glo "_law_parts") rfl), F⟩
  f__law_great := by obtain ⟨fd, F⟩ := c.t.d.def_ 41 (d := ⟨("_law_great", none), "_law_great", "_law_great", defArgs (top 54), defBody (top 54), defScope (top 54), [], []⟩) rfl; exact ⟨_, fd, He.glo_ok X G (c.t.d.fact 41 (f := .glo "_law_great") rfl), F⟩
  f__law_all := by obtain ⟨fd, F⟩ := c.t.d.def_ 42 (d := ⟨("_law_all", none), "_law_all", "_law_all", defArgs (top 55), defBody (top 55), defScope (top 55), [], []⟩) rfl; exact ⟨_, fd, He.glo_ok X G (c.t.d.fact 42 (f := .glo "_law_all") rfl), F⟩
  f__law_deep := by obtain ⟨fd, F⟩ := c.t.d.def_ 43 (d := ⟨("_law_deep", none), "_law_deep", "_law_deep", defArgs (top 56), defBody (top 56), defScope (top 56), [], []⟩) rfl; exact ⟨_, fd, He.glo_ok X G (c.t.d.fact 43 (f := .glo "_law_deep") rfl), F⟩
  f_law := by obtain ⟨fd, F⟩ := c.t.d.def_ 44 (d := ⟨("law", none), "law", "law", defArgs (top 57), defBody (top 57), defScope (top 57), [], []⟩) rfl; exact ⟨_, fd, He.glo_ok X G (c.t.d.fact 44 (f := .glo "law") rfl), F⟩
  h_all := He.free_ok X G (c.t.d.fact 45 (f := .free "all") rfl)
  h_bool := He.free_ok X G (c.t.d.fact 46 (f := .free "bool") rfl)
  h_int := He.free_ok X G (c.t.d.fact 47 (f := .free "int") rfl)
  h_isinstance := He.free_ok X G (c.t.d.fact 48 (f := .free "isinstance") rfl)
  h_len := He.free_ok X G (c.t.d.fact 49 (f := .free "len") rfl)
  h_list := He.free_ok X G (c.t.d.fact 50 (f := .free "list") rfl)
  h_max := He.free_ok X G (c.t.d.fact 51 (f := .free "max") rfl)
  h_range := He.free_ok X G (c.t.d.fact 52 (f := .free "range") rfl)
  h_sorted := He.free_ok X G (c.t.d.fact 53 (f := .free "sorted") rfl)
  h_str := He.free_ok X G (c.t.d.fact 54 (f := .free "str") rfl)
  h_sum := He.free_ok X G (c.t.d.fact 55 (f := .free "sum") rfl)
  h_tuple := He.free_ok X G (c.t.d.fact 56 (f := .free "tuple") rfl)
  k_SMALL := He.str_ok X G (c.t.d.fact 57 (f := .str "SMALL" "abcdefghijklmnopqrstuvwxyz") rfl)
  k_MOST_WORD := He.int_ok X G (c.t.d.fact 58 (f := .int "MOST_WORD" 8) rfl)
  k_MOST_ITEMS := He.int_ok X G (c.t.d.fact 59 (f := .int "MOST_ITEMS" 5000) rfl)
  k_MOST_NESTED := He.int_ok X G (c.t.d.fact 60 (f := .int "MOST_NESTED" 120) rfl)
  x_TooMany := by obtain ⟨fd, F⟩ := c.t.d.def_ 45 (d := ⟨("TooMany", some "__init__"), "__init__", "TooMany.__init__", defArgs (clsAt 0 (top 5)), defBody (clsAt 0 (top 5)), defScope (clsAt 0 (top 5)), [], []⟩) rfl; exact xo_of (h := h) (He.glo_ok X G (c.t.d.fact 64 (f := .glo "TooMany") rfl)) (by have e := c.more; simp only [exH, Bool.and_eq_true] at e; first | exact e | (repeat (first | exact e.2 | exact e.1 | (replace e := e.1)))) F ⟨rfl, rfl, rfl, by decide +kernel, rfl, by decide +kernel, by decide +kernel⟩ (F.bindsN fun _ _ _ _ _ _ us hl => (match us, hl with | [_, _], _ => rfl))
  x_NoMark := by obtain ⟨h1, h2, h3, h4⟩ := He.exc_ok (c.t.d.fact 65 (f := .exc "NoMark") rfl); exact ⟨_, He.glo_ok X G (c.t.d.fact 61 (f := .glo "NoMark") rfl), h1, h2, h3, h4⟩
  x_NoPlan := by obtain ⟨h1, h2, h3, h4⟩ := He.exc_ok (c.t.d.fact 66 (f := .exc "NoPlan") rfl); exact ⟨_, He.glo_ok X G (c.t.d.fact 62 (f := .glo "NoPlan") rfl), h1, h2, h3, h4⟩
  x_NoWord := by obtain ⟨h1, h2, h3, h4⟩ := He.exc_ok (c.t.d.fact 67 (f := .exc "NoWord") rfl); exact ⟨_, He.glo_ok X G (c.t.d.fact 63 (f := .glo "NoWord") rfl), h1, h2, h3, h4⟩
end K02
end Dl
open PySem PySem.W PySem.Calls PyProof.Rows
theorem PySem.Challenge.cw_sealedplans_k02_whole_sizes_doors_and_na_holds : PySem.Challenge.rw_sealedplans_k02_whole_sizes_doors_and_na.Holds := by
  w_on; o_law
  refine HandSHeadRun.head_any (r := OpenLaw.row PySem.Challenge.rw_sealedplans_k02_whole_sizes_doors_and_na) (q := view (OpenLaw.row PySem.Challenge.rw_sealedplans_k02_whole_sizes_doors_and_na).prog [57]) (H := Dl.K02.hkH) (ob := Dl.K02.obH) (M := 6000) (loose := Dl.K02.looseH) (d := HandSHeadRun.topDef (OpenLaw.row PySem.Challenge.rw_sealedplans_k02_whole_sizes_doors_and_na).prog 57) (kwd := []) Dl.K02.obH_eq
    (by kernel_rfl) (fun s => by kernel_rfl) Dl.K02.runH (by kernel_rfl) (by kernel_rfl) (by kernel_rfl) (by rfl) (by first | assumption | decide +kernel) (by decide +kernel) ⟨rfl, rfl, rfl, rfl, rfl, by decide +kernel⟩ ?hw ?hc
  case hw => w_witness2
  case hc =>
    refine Dl.walk_ofM (l := PySem.Challenge.rw_sealedplans_k02_whole_sizes_doors_and_na) (n := 63) (k := 301) (x := "_law_script") (fa := Dl.K02.faH) (fn := Dl.K02.fnH) (ts := Dl.K02.tsH) (tq := Dl.K02.tqH) (ex := Dl.K02.exH) rfl (by decide) (by kernel_rfl) ⟨rfl, by decide, by decide⟩ ?F
    intro w K mg fa h KX c G hmg0
    have hmg : mg ("law" : PySem.Str) = some (.ref fa) := by
      have e : (HandSHeadRun.topDef (OpenLaw.row PySem.Challenge.rw_sealedplans_k02_whole_sizes_doors_and_na).prog 57).name = ("law" : PySem.Str) := by kernel_rfl
      rw [← e]
      exact hmg0
    have E := Dl.K02.factsH KX G c
    obtain ⟨f, fd, hf, F⟩ := E.f_law
    have ef : f = fa := Dl.ref_inj (hf.symm.trans hmg)
    subst ef
    have hap : Dl.apart K Dl.K02.tfH = true := by
      have e := c.more
      simp only [Dl.K02.exH, Bool.and_eq_true] at e
      first
        | exact e
        | (repeat (first | exact e.2 | exact e.1 | (replace e := e.1)))
    have b := L2.FunD.bindsA (ps := ["_law_script"]) F fun _ _ _ _ _ _ us hl => match us, hl with | [_], _ => rfl
    refine ⟨fd, Dl.spD ⟨K, mg, Dl.K02.T0 (Dl.ctsOf K Dl.K02.tqH)⟩ ((Dl.Den Dl.K02.tbl 301).call 700), fun s v => b s [v] rfl, fun H a ns hl hT hS => ?_, fun base _ _ hB => ?_⟩
    · obtain ⟨w', e⟩ := Dl.K02.law_true ns
      exact Dl.law_spT (Dl.tabs_nil hT) hS (Nat.le_trans hl (by decide)) e
    · have B : Dl.Makes base mg (Dl.ctsOf K Dl.K02.tqH) := ⟨hB, Dl.cts_un hap⟩
      exact Dl.K02.fo_law (P := (PySem.Challenge.rw_sealedplans_k02_whole_sizes_doors_and_na).prog) (base := base) E (Dl.K02.lvl E B 300) F
