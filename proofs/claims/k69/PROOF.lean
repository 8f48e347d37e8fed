import PyProof.Rows.All
import Wide.All
import OpenK.AllK
import Wide.FinOn
import HandS.ForMost
import HandS.Walk
import HandS.Evl
import HandS.ForExc
import HandS.HeadHook1
import HandS.ExcInit
import HandS.Lambda
import HandS.Flow
import HandS.TupAny
import HandS.Style
import HandS.IsInst
import HandS.SortInts
import HandS.Zip
import HandS.HeadEnd
import HandS.Defaults
import HandS.RaiseMore
import HandS.HeadHook2
import HandS.CallSlots
import KE.GoesNew
import KE.GoesMore
import KE.GoesEnum
import HandS.Strs
import HandS.WordsDict
import HandS.Dict
import HandS.DictComp
import HandS.More
import HandS.Iter
import HandS.Exc
import HandS.ExcIs
import HandS.ExcField
import HandS.ClsMeth
import KE.KExcInit
import KE.KExcIs
import KE.KDictWalk
import HandS.HeadHook4
import HandS.HeadNt
import HandS.MakeKwOnly
import HandS.Wide
import HandS.TryMany
import HandS.Property
import OpenK.KMeth
import HandS.SetFor
import HandS.Comp
import HandS.Deep
import HandS.ListItems
import HandS.EndTab
import HandS.HeadWalk
import PySem.Challenge.RW_slackcache_k69_allowances_that_serve
import KE.KStateDown
import HandS.Head0
import HandS.Head1
import HandS.Head2
import HandS.HeadHook3
set_option Elab.async false
set_option linter.all false
set_option maxRecDepth 100000
set_option maxHeartbeats 0
namespace Sy
open PySem L2
/-- where a def lies: a global's, a class's method's, a property's getter, a classmethod's function -/
def fA (K : PySem.W.Frag) (p : Str × Option Str) : Addr := match p.2 with
  | none => He.ga K p.1
  | some m => (match PySem.W.recIn K (He.ma K (He.ga K p.1) m) "property" with
    | some (.ref g :: _) => g
    | _ => (match PySem.W.recIn K (He.ma K (He.ga K p.1) m) "classmethod" with
      | some (.ref g :: _) => g
      | _ => He.ma K (He.ga K p.1) m))
/-- the code object of the def, and its table -/
def codeP (K : PySem.W.Frag) (p : Str × Option Str) : Addr := match K.lookup (fA K p) with
  | some ⟨_, _, .func fd, _⟩ => (match fd.code with
    | .ref c => c
    | _ => 0)
  | _ => 0
def tabP (K : PySem.W.Frag) (p : Str × Option Str) : Addr := match K.lookup (codeP K p) with
  | some ⟨_, _, .fields vs, _⟩ => (match vs.getD 11 Value.none with
    | Value.ref P => P
    | _ => 0)
  | _ => 0
/-! ## data -/
/-- a value as a whole: what it is, without addresses -/
inductive Dat where
  | non | bl (b : Bool) | int (i : Int) | str (x : Str) | ty (n : String) | ref (a : Addr) | glo (x : Str)
  | lst (ds : List Dat) | tup (ds : List Dat) | dic (kvs : List (Key × Dat)) | scr (ns : List Int) | own (i : Nat)
  | ins (C : Str) (fs : List (Str × Dat)) | exc (C : Str) (fs : List (Str × Dat))
  | lam (q : Str) (f c : Addr) (vs : List V) (ds : List Dat)
mutual
/-- the value v, with what stands in G, is the datum d -/
inductive Dt (K : PySem.W.Frag) (G : Hp) (A : List Addr) : V → Dat → Prop
  | non : Dt K G A .non .non
  | bl (b : Bool) : Dt K G A (.bl b) (.bl b)
  | int (i : Int) : Dt K G A (.int i) (.int i)
  | str (x : Str) : Dt K G A (.str x) (.str x)
  | ty (n : String) : Dt K G A (.ty n) (.ty n)
  | ref (a : Addr) : Dt K G A (.ref a) (.ref a)
  | glo (x : Str) : Dt K G A (.ref (He.ga K x)) (.glo x)
  | lst {a : Addr} {xs : List V} {ds : List Dat} : G a = some (.lst xs) → Dts K G A xs ds → Dt K G A (.ref a) (.lst ds)
  | tup {a : Addr} {xs : List V} {ds : List Dat} : G a = some (.tup xs) → Dts K G A xs ds → Dt K G A (.ref a) (.tup ds)
  | dic {a : Addr} {o : Obj} {xs : List (Key × V)} {ds : List (Key × Dat)} : G a = some (.frz o (.dK xs)) → Dtk K G A xs ds → Dt K G A (.ref a) (.dic ds)
  | scr {a : Addr} {ns : List Int} : SqL K G a (ns.map V.int) → Dt K G A (.ref a) (.scr ns)
  | own {a : Addr} {i : Nat} : A[i]? = some a → Dt K G A (.ref a) (.own i)
  | ins {a dx : Addr} {C : Str} {xs : List (Str × V)} {ds : List (Str × Dat)} : G a = some (.ins (He.ga K C) dx xs) → Dtf K G A xs ds → Dt K G A (.ref a) (.ins C ds)
  | exc {a d : Addr} {C : Str} {xs : List (Str × V)} {ds : List (Str × Dat)} : G a = some (exo a (He.ga K C) (some d)) → G d = some (exd d xs) → Dtf K G A xs ds → Dt K G A (.ref a) (.exc C ds)
  | lam {q : Str} {f c : Addr} {vs : List V} {ds : List Dat} : G c = some (LamX.CodeO c q) → Dts K G A vs ds → Dt K G A (.ref f) (.lam q f c vs ds)
inductive Dts (K : PySem.W.Frag) (G : Hp) (A : List Addr) : List V → List Dat → Prop
  | nil : Dts K G A [] []
  | cons {v : V} {vs : List V} {d : Dat} {ds : List Dat} : Dt K G A v d → Dts K G A vs ds → Dts K G A (v :: vs) (d :: ds)
inductive Dtk (K : PySem.W.Frag) (G : Hp) (A : List Addr) : List (Key × V) → List (Key × Dat) → Prop
  | nil : Dtk K G A [] []
  | cons {k : Key} {v : V} {vs : List (Key × V)} {d : Dat} {ds : List (Key × Dat)} : Dt K G A v d → Dtk K G A vs ds → Dtk K G A ((k, v) :: vs) ((k, d) :: ds)
inductive Dtf (K : PySem.W.Frag) (G : Hp) (A : List Addr) : List (Str × V) → List (Str × Dat) → Prop
  | nil : Dtf K G A [] []
  | cons {k : Str} {v : V} {vs : List (Str × V)} {d : Dat} {ds : List (Str × Dat)} : Dt K G A v d → Dtf K G A vs ds → Dtf K G A ((k, v) :: vs) ((k, d) :: ds)
end
mutual
theorem Dt.mono {K : PySem.W.Frag} {G G' : Hp} {A A' : List Addr} (e : Same G G') (ea : ∀ (i : Nat) a, A[i]? = some a → A'[i]? = some a) : ∀ {v : V} {d : Dat}, Dt K G A v d → Dt K G' A' v d
  | _, _, .non => .non
  | _, _, .bl b => .bl b
  | _, _, .int i => .int i
  | _, _, .str x => .str x
  | _, _, .ty n => .ty n
  | _, _, .ref a => .ref a
  | _, _, .glo x => .glo x
  | _, _, .lst h r => .lst (e _ _ h) (Dts.mono e ea r)
  | _, _, .tup h r => .tup (e _ _ h) (Dts.mono e ea r)
  | _, _, .dic h r => .dic (e _ _ h) (Dtk.mono e ea r)
  | _, _, .scr h => .scr (e.seq h)
  | _, _, .own h => .own (ea _ _ h)
  | _, _, .ins h r => .ins (e _ _ h) (Dtf.mono e ea r)
  | _, _, .exc h h' r => .exc (e _ _ h) (e _ _ h') (Dtf.mono e ea r)
  | _, _, .lam h r => .lam (e _ _ h) (Dts.mono e ea r)
theorem Dts.mono {K : PySem.W.Frag} {G G' : Hp} {A A' : List Addr} (e : Same G G') (ea : ∀ (i : Nat) a, A[i]? = some a → A'[i]? = some a) : ∀ {v : List V} {d : List Dat}, Dts K G A v d → Dts K G' A' v d
  | _, _, .nil => .nil
  | _, _, .cons h r => .cons (Dt.mono e ea h) (Dts.mono e ea r)
theorem Dtk.mono {K : PySem.W.Frag} {G G' : Hp} {A A' : List Addr} (e : Same G G') (ea : ∀ (i : Nat) a, A[i]? = some a → A'[i]? = some a) : ∀ {v : List (Key × V)} {d : List (Key × Dat)}, Dtk K G A v d → Dtk K G' A' v d
  | _, _, .nil => .nil
  | _, _, .cons h r => .cons (Dt.mono e ea h) (Dtk.mono e ea r)
theorem Dtf.mono {K : PySem.W.Frag} {G G' : Hp} {A A' : List Addr} (e : Same G G') (ea : ∀ (i : Nat) a, A[i]? = some a → A'[i]? = some a) : ∀ {v : List (Str × V)} {d : List (Str × Dat)}, Dtf K G A v d → Dtf K G' A' v d
  | _, _, .nil => .nil
  | _, _, .cons h r => .cons (Dt.mono e ea h) (Dtf.mono e ea r)
end
theorem Dts.length {K : PySem.W.Frag} {G : Hp} {A : List Addr} : ∀ {vs : List V} {ds : List Dat}, Dts K G A vs ds → vs.length = ds.length
  | _, _, .nil => rfl
  | _, _, .cons _ r => by simp [Dts.length r]
theorem Dts.get {K : PySem.W.Frag} {G : Hp} {A : List Addr} : ∀ {vs : List V} {ds : List Dat} {i : Nat} {d : Dat}, Dts K G A vs ds → ds[i]? = some d → ∃ v, vs[i]? = some v ∧ Dt K G A v d
  | _, _, _, _, .nil, e => by simp at e
  | _, _, 0, _, .cons h _, e => by simp at e; subst e; exact ⟨_, rfl, h⟩
  | _, _, i + 1, d, .cons _ r, e => by
    obtain ⟨v, h1, h2⟩ := Dts.get (i := i) (d := d) r (by simpa using e)
    exact ⟨v, by simpa using h1, h2⟩
theorem Dts.get' {K : PySem.W.Frag} {G : Hp} {A : List Addr} : ∀ {vs : List V} {ds : List Dat} {i : Nat} {v : V}, Dts K G A vs ds → vs[i]? = some v → ∃ d, ds[i]? = some d ∧ Dt K G A v d
  | _, _, _, _, .nil, e => by simp at e
  | _, _, 0, _, .cons h _, e => by simp at e; subst e; exact ⟨_, rfl, h⟩
  | _, _, i + 1, v, .cons _ r, e => by
    obtain ⟨d, h1, h2⟩ := Dts.get' (i := i) (v := v) r (by simpa using e)
    exact ⟨d, by simpa using h1, h2⟩
theorem Dts.append {K : PySem.W.Frag} {G : Hp} {A : List Addr} : ∀ {vs ws : List V} {ds es : List Dat}, Dts K G A vs ds → Dts K G A ws es → Dts K G A (vs ++ ws) (ds ++ es)
  | _, _, _, _, .nil, s => s
  | _, _, _, _, .cons h r, s => .cons h (Dts.append r s)
theorem Dts.set {K : PySem.W.Frag} {G : Hp} {A : List Addr} {v : V} {d : Dat} (h : Dt K G A v d) : ∀ {vs : List V} {ds : List Dat} (i : Nat), Dts K G A vs ds → Dts K G A (vs.set i v) (ds.set i d)
  | _, _, _, .nil => .nil
  | _, _, 0, .cons _ r => .cons h r
  | _, _, i + 1, .cons q r => .cons q (Dts.set h i r)
theorem Dts.drop {K : PySem.W.Frag} {G : Hp} {A : List Addr} : ∀ {vs : List V} {ds : List Dat} (i : Nat), Dts K G A vs ds → Dts K G A (vs.drop i) (ds.drop i)
  | _, _, 0, h => h
  | _, _, i + 1, .nil => .nil
  | _, _, i + 1, .cons _ r => Dts.drop i r
theorem Dts.take {K : PySem.W.Frag} {G : Hp} {A : List Addr} : ∀ {vs : List V} {ds : List Dat} (i : Nat), Dts K G A vs ds → Dts K G A (vs.take i) (ds.take i)
  | _, _, 0, _ => .nil
  | _, _, i + 1, .nil => .nil
  | _, _, i + 1, .cons h r => .cons h (Dts.take i r)
theorem Dts.repl {K : PySem.W.Frag} {G : Hp} {A : List Addr} : ∀ {vs : List V} {ds : List Dat} (k : Nat), Dts K G A vs ds → Dts K G A (List.replicate k vs).flatten (List.replicate k ds).flatten
  | _, _, 0, _ => .nil
  | _, _, k + 1, h => by
    rw [List.replicate_succ, List.replicate_succ, List.flatten_cons, List.flatten_cons]
    exact h.append (Dts.repl k h)
/-! ## worlds: G what stays, H the heap, A where the labelled things stand -/
/-- what does not change within a def: the written part, and what is wished of an exception -/
structure Sg where
  K : PySem.W.Frag
  Z : WX
  /-- the exception that is handled: where it stands, its class, its dict -/
  xh : Option (Addr × Value × Option Addr) := none
structure Wd where
  S : Sg
  G : Hp
  H : Hp
  A : List Addr
  /-- what stays for now -/
  P : Hp := fun _ => none
abbrev Wd.K (W : Wd) : PySem.W.Frag := W.S.K
abbrev RvOk (W : Wd) (v : V) (d : Dat) : Prop := Dt W.S.K W.G W.A v d
abbrev RvsOk (W : Wd) (vs : List V) (ds : List Dat) : Prop := Dts W.S.K W.G W.A vs ds
/-- keyed values, key by key -/
inductive RkOk {κ : Type} (W : Wd) : List (κ × V) → List (κ × Dat) → Prop
  | nil : RkOk W [] []
  | cons {k : κ} {v : V} {vs : List (κ × V)} {r : Dat} {rs : List (κ × Dat)} : RvOk W v r → RkOk W vs rs → RkOk W ((k, v) :: vs) ((k, r) :: rs)
inductive Cell where
  | gone
  | lst (rs : List Dat)
  | dic (kvs : List (Key × Dat))
  | tdc (kvs : List (List Key × Dat))
  | ins (C : Str) (fs : List (Str × Dat))
  | xdc (fs : List (Str × Dat))
  | lck (c : Cell)
  | tab (p : Str × Option Str) (q : Str)
abbrev Ms := List Cell
def CObj (W : Wd) : Cell → HO → Prop
  | .gone, _ => True
  | .lst rs, o => ∃ xs, o = .lst xs ∧ RvsOk W xs rs
  | .dic kvs, o => ∃ xs, o = .dK xs ∧ RkOk W xs kvs
  | .tdc kvs, o => ∃ xs, o = .dT xs ∧ RkOk W xs kvs
  | .ins C fs, o => ∃ dx xs, o = .ins (He.ga W.K C) dx xs ∧ RkOk W xs fs
  | .xdc fs, o => ∃ xs, o = .xd xs ∧ RkOk W xs fs
  | .lck c, o => ∃ ob u, o = .frz ob u ∧ CObj W c u
  | .tab _ q, o => ∃ ps : Array Value, o = .tbl ps ∧ TriplesOk ps.toList ∧ ∀ (pos : Pos) (cv : Value), codeAmong pos ps.toList = some cv → ∃ c, cv = .ref c ∧ W.G c = some (LamX.CodeO c q)
structure Own (W : Wd) (ms : Ms) : Prop where
  ex : Same W.G W.H
  len : W.A.length = ms.length
  inj : ∀ (i j : Nat) a, W.A[i]? = some a → W.A[j]? = some a → i = j
  all : ∀ (i : Nat) a, W.A[i]? = some a → ∃ o, W.H a = some o
  px : Same W.P W.H
  pg : ∀ a o, W.P a = some o → W.G a = none
  pl : ∀ (i : Nat) a, W.A[i]? = some a → W.P a = none
  cell : ∀ (i : Nat) (c : Cell), ms[i]? = some c → c ≠ .gone → ∃ a o, W.A[i]? = some a ∧ W.G a = none ∧ W.H a = some o ∧ CObj W c o
  tb : ∀ (i : Nat) p q, ms[i]? = some (.tab p q) → W.A[i]? = some (tabP W.S.K p)
structure Ext (W W' : Wd) : Prop where
  s : W'.S = W.S
  ex : Same W.G W'.G
  adr : ∀ (i : Nat) a, W.A[i]? = some a → W'.A[i]? = some a
  frz : ∀ a o u, W.H a = some (.frz o u) → W'.H a = some (.frz o u)
  p : W'.P = W.P
theorem Ext.refl (W : Wd) : Ext W W := ⟨rfl, Same.refl _, fun _ _ h => h, fun _ _ _ h => h, rfl⟩
theorem Ext.trans {W W1 W2 : Wd} (a : Ext W W1) (b : Ext W1 W2) : Ext W W2 := ⟨b.s.trans a.s, a.ex.trans b.ex, fun i x h => b.adr i x (a.adr i x h), fun x o u h => b.frz x o u (a.frz x o u h), b.p.trans a.p⟩
/-- the same, whatever is held for now -/
structure Ext0 (W W' : Wd) : Prop where
  k : W'.K = W.K
  ex : Same W.G W'.G
  adr : ∀ (i : Nat) a, W.A[i]? = some a → W'.A[i]? = some a
  frz : ∀ a o u, W.H a = some (.frz o u) → W'.H a = some (.frz o u)
theorem Ext.e0 {W W' : Wd} (e : Ext W W') : Ext0 W W' := ⟨by show W'.S.K = W.S.K; rw [e.s], e.ex, e.adr, e.frz⟩
theorem Ext0.refl (W : Wd) : Ext0 W W := ⟨rfl, Same.refl _, fun _ _ h => h, fun _ _ _ h => h⟩
theorem Ext0.trans {W W1 W2 : Wd} (a : Ext0 W W1) (b : Ext0 W1 W2) : Ext0 W W2 := ⟨b.k.trans a.k, a.ex.trans b.ex, fun i x h => b.adr i x (a.adr i x h), fun x o u h => b.frz x o u (a.frz x o u h)⟩
theorem Ext0.up {W W' : Wd} (e : Ext0 W W') (hs : W'.S = W.S) (h : W'.P = W.P) : Ext W W' := ⟨hs, e.ex, e.adr, e.frz, h⟩
/-- what values are made of: K, G and the labels -/
structure Low (W W' : Wd) : Prop where
  k : W'.K = W.K
  ex : Same W.G W'.G
  adr : ∀ (i : Nat) a, W.A[i]? = some a → W'.A[i]? = some a
theorem Ext.k {W W' : Wd} (e : Ext W W') : W'.K = W.K := by show W'.S.K = W.S.K; rw [e.s]
theorem Ext.low {W W' : Wd} (e : Ext W W') : Low W W' := ⟨e.k, e.ex, e.adr⟩
theorem Ext0.low {W W' : Wd} (e : Ext0 W W') : Low W W' := ⟨e.k, e.ex, e.adr⟩
theorem Low.refl (W : Wd) : Low W W := ⟨rfl, Same.refl _, fun _ _ h => h⟩
theorem low_v {W W' : Wd} (e : Low W W') {v : V} {r : Dat} (h : RvOk W v r) : RvOk W' v r := by
  show Dt W'.K W'.G W'.A v r
  rw [e.k]; exact Dt.mono e.ex e.adr h
theorem low_vs {W W' : Wd} (e : Low W W') {vs : List V} {rs : List Dat} (h : RvsOk W vs rs) : RvsOk W' vs rs := by
  show Dts W'.K W'.G W'.A vs rs
  rw [e.k]; exact Dts.mono e.ex e.adr h
theorem RkOk.low {κ : Type} {W W' : Wd} (e : Low W W') : ∀ {vs : List (κ × V)} {rs : List (κ × Dat)}, RkOk W vs rs → RkOk W' vs rs
  | _, _, .nil => .nil
  | _, _, .cons h r => .cons (low_v e h) (RkOk.low e r)
theorem CObj.low {W W' : Wd} (e : Low W W') : ∀ {c : Cell} {o : HO}, CObj W c o → CObj W' c o
  | .gone, _, _ => trivial
  | .lst _, _, ⟨xs, h, r⟩ => ⟨xs, h, low_vs e r⟩
  | .dic _, _, ⟨xs, h, r⟩ => ⟨xs, h, r.low e⟩
  | .tdc _, _, ⟨xs, h, r⟩ => ⟨xs, h, r.low e⟩
  | .ins _ _, _, ⟨dx, xs, h, r⟩ => ⟨dx, xs, by rw [e.k]; exact h, r.low e⟩
  | .xdc _, _, ⟨xs, h, r⟩ => ⟨xs, h, r.low e⟩
  | .lck _, _, ⟨ob, u, h, r⟩ => ⟨ob, u, h, r.low e⟩
  | .tab _ _, _, ⟨ps, h, t, r⟩ => ⟨ps, h, t, fun pos cv z => let ⟨c, h1, h2⟩ := r pos cv z; ⟨c, h1, e.ex _ _ h2⟩⟩
theorem up_v {W W' : Wd} (e : Ext W W') {v : V} {r : Dat} (h : RvOk W v r) : RvOk W' v r := low_v e.low h
theorem up_vs {W W' : Wd} (e : Ext W W') {vs : List V} {rs : List Dat} (h : RvsOk W vs rs) : RvsOk W' vs rs := low_vs e.low h
theorem RkOk.up {κ : Type} {W W' : Wd} (e : Ext W W') {vs : List (κ × V)} {rs : List (κ × Dat)} (h : RkOk W vs rs) : RkOk W' vs rs := h.low e.low
/-! ## the moves of a world -/
theorem upd_back {H : Hp} {a b : Addr} {o u : HO} (h : b ≠ a) (e : upd H a o b = some u) : H b = some u := by rw [upd_ne h] at e; exact e
theorem same_new {H : Hp} {p : Addr} {o : HO} (h : H p = none) : Same H (upd H p o) := fun a u e => by rw [upd_ne (ne_of_none e h)]; exact e
section
variable {W : Wd} {ms : Ms}
theorem Own.gnone (O : Own W ms) {p : Addr} (h : W.H p = none) : W.G p = none := by
  cases q : W.G p with
  | none => rfl
  | some o => rw [O.ex p o q] at h; cases h
theorem Own.pnone (O : Own W ms) {p : Addr} (h : W.H p = none) : W.P p = none := by
  cases q : W.P p with
  | none => rfl
  | some o => rw [O.px p o q] at h; cases h
theorem Own.fresh (O : Own W ms) {p : Addr} (h : W.H p = none) {i : Nat} {a : Addr} (ha : W.A[i]? = some a) : a ≠ p := fun z => by
  obtain ⟨o, ho⟩ := O.all i a ha
  rw [z, h] at ho; cases ho
/-- a new thing that stays as it is -/
def Wd.lay (W : Wd) (p : Addr) (o : HO) : Wd := { W with G := upd W.G p o, H := upd W.H p o }
theorem Own.lay (O : Own W ms) {p : Addr} {o : HO} (h : W.H p = none) : Own (W.lay p o) ms ∧ Ext W (W.lay p o) := by
  have hg := O.gnone h
  have low : Low W (W.lay p o) := ⟨rfl, same_new hg, fun _ _ e => e⟩
  refine ⟨⟨fun a u e => ?_, O.len, O.inj, fun i a e => ?_, O.px.trans (same_new h), fun a u e => ?_, O.pl, fun i c e n => ?_, O.tb⟩, ⟨rfl, same_new hg, fun _ _ e => e, fun a u v e => same_new h a _ e, rfl⟩⟩
  · show upd W.H p o a = some u
    by_cases z : a = p
    · subst z; rw [show (W.lay a o).G a = some o from upd_same] at e; cases e; exact upd_same
    · rw [upd_ne z]; exact O.ex a u (upd_back z e)
  · obtain ⟨u, hu⟩ := O.all i a e
    exact ⟨u, same_new h a u hu⟩
  · show upd W.G p o a = none
    rw [upd_ne (ne_of_none e (O.pnone h))]; exact O.pg a u e
  · obtain ⟨a, u, ha, g, hu, k⟩ := O.cell i c e n
    exact ⟨a, u, ha, by show upd W.G p o a = none; rw [upd_ne (O.fresh h ha)]; exact g, same_new h a u hu, k.low low⟩
/-- a new thing with a label -/
def Wd.take (W : Wd) (p : Addr) (o : HO) : Wd := { W with H := upd W.H p o, A := W.A ++ [p] }
theorem take_low {p : Addr} {o : HO} : Low W (W.take p o) := ⟨rfl, Same.refl _, fun i a e => by show (W.A ++ [p])[i]? = some a; rw [List.getElem?_append_left (List.getElem?_eq_some_iff.mp e).1]; exact e⟩
theorem Own.take (O : Own W ms) {p : Addr} {o : HO} {c : Cell} (h : W.H p = none) (hc : CObj (W.take p o) c o) (hnt : ∀ P q, c ≠ .tab P q := by intro _ _ z; cases z) : Own (W.take p o) (ms ++ [c]) ∧ Ext W (W.take p o) := by
  have hg := O.gnone h
  have at_ : ∀ {i : Nat} {a : Addr}, (W.A ++ [p])[i]? = some a → (W.A[i]? = some a) ∨ (i = W.A.length ∧ a = p) := fun {i a} e => by
    by_cases z : i < W.A.length
    · rw [List.getElem?_append_left z] at e; exact .inl e
    · have hi : i = W.A.length := by
        have := (List.getElem?_eq_some_iff.mp e).1
        rw [List.length_append, List.length_singleton] at this; omega
      subst hi
      rw [List.getElem?_append_right (Nat.le_refl _), Nat.sub_self] at e
      cases e
      exact .inr ⟨rfl, rfl⟩
  refine ⟨⟨O.ex.trans (same_new h), by show (W.A ++ [p]).length = _; rw [List.length_append, List.length_append, O.len]; rfl, fun i j a e1 e2 => ?_, fun i a e => ?_, O.px.trans (same_new h), O.pg, fun i a e => ?_, fun i c' e n => ?_, fun i P q e => ?_⟩, ⟨rfl, Same.refl _, take_low.adr, fun a u v e => same_new h a _ e, rfl⟩⟩
  · rcases at_ e1 with e1 | ⟨rfl, rfl⟩ <;> rcases at_ e2 with e2 | ⟨rfl, q⟩
    · exact O.inj i j a e1 e2
    · exact absurd q (O.fresh h e1)
    · exact absurd rfl (O.fresh h e2)
    · rfl
  · rcases at_ e with e | ⟨_, rfl⟩
    · obtain ⟨u, hu⟩ := O.all i a e
      exact ⟨u, same_new h a u hu⟩
    · exact ⟨o, upd_same⟩
  · rcases at_ e with e | ⟨_, rfl⟩
    · exact O.pl i a e
    · exact O.pnone h
  · by_cases z : i < ms.length
    · rw [List.getElem?_append_left z] at e
      obtain ⟨a, u, ha, g, hu, k⟩ := O.cell i c' e n
      exact ⟨a, u, take_low.adr i a ha, g, same_new h a u hu, k.low take_low⟩
    · have hi : i = ms.length := by
        have := (List.getElem?_eq_some_iff.mp e).1
        rw [List.length_append, List.length_singleton] at this; omega
      subst hi
      rw [List.getElem?_append_right (Nat.le_refl _), Nat.sub_self] at e
      cases e
      refine ⟨p, o, ?_, hg, upd_same, hc⟩
      show (W.A ++ [p])[ms.length]? = _
      rw [List.getElem?_append_right (by rw [O.len]; exact Nat.le_refl _), O.len, Nat.sub_self]; rfl
  · by_cases z : i < ms.length
    · rw [List.getElem?_append_left z] at e
      exact take_low.adr i _ (O.tb i P q e)
    · have hi : i = ms.length := by
        have := (List.getElem?_eq_some_iff.mp e).1
        rw [List.length_append, List.length_singleton] at this; omega
      subst hi
      rw [List.getElem?_append_right (Nat.le_refl _), Nat.sub_self] at e
      exact absurd (Option.some.inj e) (hnt P q)
/-- a labelled thing is written -/
def Wd.put (W : Wd) (a : Addr) (o : HO) : Wd := { W with H := upd W.H a o }
theorem put_low {a : Addr} {o : HO} : Low W (W.put a o) := ⟨rfl, Same.refl _, fun _ _ h => h⟩
theorem Own.put (O : Own W ms) {i : Nat} {a : Addr} {o : HO} {c : Cell} (hA : W.A[i]? = some a) (hg : W.G a = none) (hc : CObj W c o) (hnt : ∀ p q, c = .tab p q → a = tabP W.S.K p := by intro _ _ z; cases z) : Own (W.put a o) (ms.set i c) := by
  refine ⟨fun b v e => ?_, by rw [List.length_set]; exact O.len, O.inj, fun j b e => ?_, fun b v e => (by show upd W.H a o b = some v; rw [upd_ne (ne_of_none e (O.pl i a hA))]; exact O.px b v e), O.pg, O.pl, fun j c' e n => ?_, fun j P q e => ?_⟩
  · show upd W.H a o b = some v
    rw [upd_ne (ne_of_none e hg)]; exact O.ex b v e
  · by_cases z : b = a
    · exact ⟨o, by rw [z]; exact upd_same⟩
    · obtain ⟨u, hu⟩ := O.all j b e
      exact ⟨u, by show upd W.H a o b = _; rw [upd_ne z]; exact hu⟩
  · by_cases z : i = j
    · subst z
      have hl : i < ms.length := by rw [← O.len]; exact (List.getElem?_eq_some_iff.mp hA).1
      rw [List.getElem?_set_self hl] at e
      cases e
      exact ⟨a, o, hA, hg, upd_same, hc.low put_low⟩
    · rw [List.getElem?_set_ne z] at e
      obtain ⟨b, u, hb, g, hu, k⟩ := O.cell j c' e n
      have zb : b ≠ a := fun q => z (O.inj i j a hA (by rw [← q]; exact hb))
      exact ⟨b, u, hb, g, by show upd W.H a o b = _; rw [upd_ne zb]; exact hu, k.low put_low⟩
  · by_cases z : i = j
    · subst z
      have hl : i < ms.length := by rw [← O.len]; exact (List.getElem?_eq_some_iff.mp hA).1
      rw [List.getElem?_set_self hl] at e
      show W.A[i]? = some (tabP W.S.K P)
      rw [← hnt P q (Option.some.inj e)]; exact hA
    · rw [List.getElem?_set_ne z] at e
      exact O.tb j P q e
theorem Ext.put {a : Addr} {o u : HO} (hu : W.H a = some u) (hn : ∀ ob v, u ≠ .frz ob v) : Ext W (W.put a o) := ⟨rfl, Same.refl _, fun _ _ h => h, fun b ob v e => by
  have z : b ≠ a := fun q => by subst q; rw [hu] at e; cases e; exact hn _ _ rfl
  show upd W.H a o b = _
  rw [upd_ne z]; exact e, rfl⟩
/-- a labelled thing stays as it is from now on, as o -/
theorem tb_gone (O : Own W ms) {i j : Nat} {P : Str × Option Str} {q : Str} (e : (ms.set i .gone)[j]? = some (.tab P q)) : W.A[j]? = some (tabP W.S.K P) := by
  by_cases z : i = j
  · subst z
    have hl : i < ms.length := by
      have := (List.getElem?_eq_some_iff.mp e).1
      rw [List.length_set] at this; exact this
    rw [List.getElem?_set_self hl] at e
    cases e
  · rw [List.getElem?_set_ne z] at e
    exact O.tb j P q e
def Wd.fix (W : Wd) (a : Addr) (o : HO) : Wd := { W with G := upd W.G a o, H := upd W.H a o }
theorem Own.fix (O : Own W ms) {i : Nat} {a : Addr} {o : HO} (hA : W.A[i]? = some a) (hg : W.G a = none) : Own (W.fix a o) (ms.set i .gone) := by
  have low : Low W (W.fix a o) := ⟨rfl, same_new hg, fun _ _ e => e⟩
  refine ⟨fun b v e => ?_, by rw [List.length_set]; exact O.len, O.inj, fun j b e => ?_, fun b v e => (by show upd W.H a o b = some v; rw [upd_ne (ne_of_none e (O.pl i a hA))]; exact O.px b v e), fun b v e => (by show upd W.G a o b = none; rw [upd_ne (ne_of_none e (O.pl i a hA))]; exact O.pg b v e), O.pl, fun j c' e n => ?_, fun j P q e => tb_gone O e⟩
  · show upd W.H a o b = some v
    by_cases z : b = a
    · subst z; rw [show (W.fix b o).G b = some o from upd_same] at e; cases e; exact upd_same
    · rw [upd_ne z]; exact O.ex b v (upd_back z e)
  · by_cases z : b = a
    · exact ⟨o, by rw [z]; exact upd_same⟩
    · obtain ⟨u, hu⟩ := O.all j b e
      exact ⟨u, by show upd W.H a o b = _; rw [upd_ne z]; exact hu⟩
  · by_cases z : i = j
    · subst z
      have hl : i < ms.length := by rw [← O.len]; exact (List.getElem?_eq_some_iff.mp hA).1
      rw [List.getElem?_set_self hl] at e
      cases e
      exact absurd rfl n
    · rw [List.getElem?_set_ne z] at e
      obtain ⟨b, u, hb, g, hu, k⟩ := O.cell j c' e n
      have zb : b ≠ a := fun q => z (O.inj i j a hA (by rw [← q]; exact hb))
      exact ⟨b, u, hb, by show upd W.G a o b = none; rw [upd_ne zb]; exact g, by show upd W.H a o b = _; rw [upd_ne zb]; exact hu, k.low low⟩
theorem Ext.fix {a : Addr} {o u : HO} (hg : W.G a = none) (hu : W.H a = some u) (hn : (∀ ob v, u ≠ .frz ob v) ∨ u = o) : Ext W (W.fix a o) := ⟨rfl, same_new hg, fun _ _ h => h, fun b ob v e => by
  show upd W.H a o b = _
  by_cases z : b = a
  · subst z
    rw [hu] at e
    cases e
    rcases hn with hn | hn
    · exact absurd rfl (hn _ _)
    · rw [← hn]; exact upd_same
  · rw [upd_ne z]; exact e, rfl⟩
/-- nothing is known of it any more -/
theorem Own.forget (O : Own W ms) (i : Nat) : Own W (ms.set i .gone) := by
  refine ⟨O.ex, by rw [List.length_set]; exact O.len, O.inj, O.all, O.px, O.pg, O.pl, fun j c' e n => ?_, fun j P q e => tb_gone O e⟩
  by_cases z : i = j
  · subst z
    have hl : i < ms.length := by
      have := (List.getElem?_eq_some_iff.mp e).1
      rw [List.length_set] at this; exact this
    rw [List.getElem?_set_self hl] at e
    cases e
    exact absurd rfl n
  · rw [List.getElem?_set_ne z] at e
    exact O.cell j c' e n
/-- a new thing is held for now -/
def Wd.hold (W : Wd) (D : Addr) (o : HO) : Wd := { W with H := upd W.H D o, P := upd W.P D o }
theorem hold_low {D : Addr} {o : HO} : Low W (W.hold D o) := ⟨rfl, Same.refl _, fun _ _ h => h⟩
theorem Own.hold (O : Own W ms) {D : Addr} {o : HO} (hg : W.G D = none) (hl : ∀ (i : Nat) a, W.A[i]? = some a → a ≠ D) : Own (W.hold D o) ms := by
  refine ⟨fun a u e => ?_, O.len, O.inj, fun i a e => ?_, fun a u e => ?_, fun a u e => ?_, fun i a e => ?_, fun i c e n => ?_, O.tb⟩
  · show upd W.H D o a = some u
    rw [upd_ne (ne_of_none e hg)]; exact O.ex a u e
  · obtain ⟨u, hu⟩ := O.all i a e
    exact ⟨u, by show upd W.H D o a = _; rw [upd_ne (hl i a e)]; exact hu⟩
  · show upd W.H D o a = some u
    by_cases z : a = D
    · subst z; rw [show (W.hold a o).P a = some o from upd_same] at e; cases e; exact upd_same
    · rw [upd_ne z]; exact O.px a u (upd_back z e)
  · by_cases z : a = D
    · rw [z]; exact hg
    · exact O.pg a u (upd_back z e)
  · show upd W.P D o a = none
    rw [upd_ne (hl i a e)]; exact O.pl i a e
  · obtain ⟨a, u, ha, g, hu, k⟩ := O.cell i c e n
    exact ⟨a, u, ha, g, by show upd W.H D o a = _; rw [upd_ne (hl i a ha)]; exact hu, k.low hold_low⟩
end
end Sy
namespace Sy
open PySem L2
/-! ## what must hold ahead, over data -/
abbrev KR := Dat → Ms → Prop
abbrev Sl := List (Option Dat)
/-- what is promised of an exception: the slots, its class, its fields -/
abbrev KX := Sl → Str → List (Str × Dat) → Ms → Prop
/-- the slots, what is promised of an exception, the class and the fields of the one that is handled -/
structure Env where
  sl : Sl
  ex : KX
  xc : Str := Str.empty
  xf : List (Str × Dat) := []
@[simp] def Env.put (ρ : Env) (i : Nat) (r : Dat) : Env := ⟨ρ.sl.set i (some r), ρ.ex, ρ.xc, ρ.xf⟩
@[simp] def Env.del (ρ : Env) (i : Nat) : Env := ⟨ρ.sl.set i none, ρ.ex, ρ.xc, ρ.xf⟩
abbrev WE := Env → Ms → KR → Prop
abbrev WT := Env → Ms → (Bool → Ms → Prop) → Prop
abbrev WA := Env → Ms → (List Dat → Ms → Prop) → Prop
abbrev WI := Env → Ms → (List Dat → Ms → Prop) → Prop
abbrev WG := Dat → Env → Ms → (Env → Ms → Prop) → Prop
structure WEnds where
  nx : Env → Ms → Prop
  rt : KR
  bk : Env → Ms → Prop := fun _ _ => False
  ct : Env → Ms → Prop := fun _ _ => False
abbrev WS := WEnds → Env → Ms → Prop
/-- slots: the values are what the world says of them -/
inductive RelS (W : Wd) : L2.St → Sl → Prop
  | nil : RelS W [] []
  | gap {v : Option V} {vs : L2.St} {rs : Sl} : RelS W vs rs → RelS W (v :: vs) (none :: rs)
  | has {v : V} {r : Dat} {vs : L2.St} {rs : Sl} : RvOk W v r → RelS W vs rs → RelS W (some v :: vs) (some r :: rs)
theorem RelS.low {W W' : Wd} (e : Low W W') : ∀ {σ : L2.St} {ρ : Sl}, RelS W σ ρ → RelS W' σ ρ
  | _, _, .nil => .nil
  | _, _, .gap h => .gap (RelS.low e h)
  | _, _, .has r h => .has (low_v e r) (RelS.low e h)
theorem RelS.get {W : Wd} : ∀ {σ : L2.St} {ρ : Sl} {i : Nat} {r : Dat}, RelS W σ ρ → ρ[i]? = some (some r) → ∃ v, σ[i]? = some (some v) ∧ RvOk W v r
  | _, _, _, _, .nil, e => by simp at e
  | _, _, 0, _, .gap _, e => by simp at e
  | _, _, 0, _, .has h _, e => by simp at e; subst e; exact ⟨_, rfl, h⟩
  | _, _, i + 1, r, .gap h, e => by
    obtain ⟨v, h1, h2⟩ := RelS.get (i := i) (r := r) h (by simpa using e)
    exact ⟨v, by simpa using h1, h2⟩
  | _, _, i + 1, r, .has _ h, e => by
    obtain ⟨v, h1, h2⟩ := RelS.get (i := i) (r := r) h (by simpa using e)
    exact ⟨v, by simpa using h1, h2⟩
theorem RelS.set {W : Wd} {v : V} {r : Dat} (h : RvOk W v r) : ∀ {σ : L2.St} {ρ : Sl} (i : Nat), RelS W σ ρ → RelS W (σ.set i (some v)) (ρ.set i (some r))
  | _, _, _, .nil => .nil
  | _, _, 0, .gap q => .has h q
  | _, _, 0, .has _ q => .has h q
  | _, _, i + 1, .gap q => .gap (RelS.set h i q)
  | _, _, i + 1, .has p q => .has p (RelS.set h i q)
theorem RelS.unset {W : Wd} {v : Option V} : ∀ {σ : L2.St} {ρ : Sl} (i : Nat), RelS W σ ρ → RelS W (σ.set i v) (ρ.set i none)
  | _, _, _, .nil => .nil
  | _, _, 0, .gap q => .gap q
  | _, _, 0, .has _ q => .gap q
  | _, _, i + 1, .gap q => .gap (RelS.unset i q)
  | _, _, i + 1, .has p q => .has p (RelS.unset i q)
theorem RelS.length {W : Wd} : ∀ {σ : L2.St} {ρ : Sl}, RelS W σ ρ → σ.length = ρ.length
  | _, _, .nil => rfl
  | _, _, .gap h => by simp [RelS.length h]
  | _, _, .has _ h => by simp [RelS.length h]
/-- what is promised of an exception tells what is wished of it, now and later -/
def XOk (W : Wd) (ex : KX) : Prop := ∀ W' σ ρ C dd xs fs ms', Ext W W' → Own W' ms' → RelS W' σ ρ → W'.G dd = some (.xd xs) → Dtf W'.S.K W'.G W'.A xs fs → ex ρ C fs ms' → W.S.Z (.ref (He.ga W.K C)) (some dd) σ W'.H
/-- the exception that is handled is of the class C and has the fields fs -/
def HdOk (W : Wd) (C : Str) (fs : List (Str × Dat)) : Prop := ∀ a cls d, W.S.xh = some (a, cls, d) → cls = .ref (He.ga W.K C) ∧ ∃ dd xs fs0, d = some dd ∧ W.G dd = some (.xd xs) ∧ fs = (Str.empty, .ref a) :: fs0 ∧ Dtf W.S.K W.G W.A xs fs0
structure Rel (W : Wd) (σ : L2.St) (ρ : Env) : Prop where
  sl : RelS W σ ρ.sl
  ex : XOk W ρ.ex
  hd : HdOk W ρ.xc ρ.xf
theorem XOk.mono {W W' : Wd} (e : Ext W W') {ex : KX} (h : XOk W ex) : XOk W' ex := fun W2 σ ρ C dd xs fs ms' e2 O R g a x => by
  have := h W2 σ ρ C dd xs fs ms' (e.trans e2) O R g a x
  rw [← e.k] at this
  rw [e.s]; exact this
theorem Dtf.low {W W' : Wd} (e : Low W W') {xs : List (Str × V)} {fs : List (Str × Dat)} (h : Dtf W.S.K W.G W.A xs fs) : Dtf W'.S.K W'.G W'.A xs fs := by
  rw [show W'.S.K = W.S.K from e.k]; exact Dtf.mono e.ex e.adr h
theorem HdOk.low {W W' : Wd} (e : Low W W') (hx : W'.S.xh = W.S.xh) {C : Str} {fs : List (Str × Dat)} (h : HdOk W C fs) : HdOk W' C fs := fun a cls d q => by
  rw [hx] at q
  obtain ⟨h1, dd, xs, fs0, h2, h3, h5, h4⟩ := h a cls d q
  exact ⟨by rw [e.k]; exact h1, dd, xs, fs0, h2, e.ex _ _ h3, h5, h4.low e⟩
theorem Rel.mono {W W' : Wd} (e : Ext W W') {σ : L2.St} {ρ : Env} (h : Rel W σ ρ) : Rel W' σ ρ := ⟨h.sl.low e.low, h.ex.mono e, h.hd.low e.low (by rw [e.s])⟩
theorem Rel.get {W : Wd} {σ : L2.St} {ρ : Env} {i : Nat} {r : Dat} (h : Rel W σ ρ) (e : ρ.sl[i]? = some (some r)) : ∃ v, σ[i]? = some (some v) ∧ RvOk W v r := h.sl.get e
theorem Rel.set {W : Wd} {v : V} {r : Dat} {σ : L2.St} {ρ : Env} (h : RvOk W v r) (i : Nat) (R : Rel W σ ρ) : Rel W (σ.set i (some v)) (ρ.put i r) := ⟨R.sl.set h i, R.ex, R.hd⟩
theorem Rel.unset {W : Wd} {v : Option V} {σ : L2.St} {ρ : Env} (i : Nat) (R : Rel W σ ρ) : Rel W (σ.set i v) (ρ.del i) := ⟨R.sl.unset i, R.ex, R.hd⟩
theorem Rel.length {W : Wd} {σ : L2.St} {ρ : Env} (R : Rel W σ ρ) : σ.length = ρ.sl.length := R.sl.length
/-- a context with its wish -/
structure Cy where
  X : Cx
  Z : WX
  tk : Takes X Z
  xh : Option (Addr × Value × Option Addr) := none
abbrev Cy.S (X : Cy) : Sg := ⟨X.X.K, X.Z, X.xh⟩
def LE (S : Sg) (t : TE) (w : WE) : Prop := ∀ (W : Wd) (σ : L2.St) (ρ : Env) (ms : Ms) (Q : VK) (k : KR), W.S = S → Rel W σ ρ → Own W ms → w ρ ms k →
  (∀ W' v r ms', Ext W W' → Own W' ms' → RvOk W' v r → k r ms' → Q v W'.H) → t σ W.H Q
def LT (S : Sg) (t : TT) (w : WT) : Prop := ∀ (W : Wd) (σ : L2.St) (ρ : Env) (ms : Ms) (Q : Bool → Hp → Prop) (k : Bool → Ms → Prop), W.S = S → Rel W σ ρ → Own W ms → w ρ ms k →
  (∀ W' b ms', Ext W W' → Own W' ms' → k b ms' → Q b W'.H) → t σ W.H Q
def LA (S : Sg) (t : TA) (w : WA) : Prop := ∀ (W : Wd) (σ : L2.St) (ρ : Env) (ms : Ms) (Q : List V → Hp → Prop) (k : List Dat → Ms → Prop), W.S = S → Rel W σ ρ → Own W ms → w ρ ms k →
  (∀ W' vs rs ms', Ext W W' → Own W' ms' → RvsOk W' vs rs → k rs ms' → Q vs W'.H) → t σ W.H Q
structure EndsOk (W : Wd) (E : WEnds) (D : Ends) : Prop where
  nx : ∀ W' σ ρ ms, Ext W W' → Own W' ms → Rel W' σ ρ → E.nx ρ ms → D.nx σ W'.H
  rt : ∀ W' v r ms, Ext W W' → Own W' ms → RvOk W' v r → E.rt r ms → D.rt v W'.H
  bk : ∀ W' σ ρ ms, Ext W W' → Own W' ms → Rel W' σ ρ → E.bk ρ ms → D.bk σ W'.H
  ct : ∀ W' σ ρ ms, Ext W W' → Own W' ms → Rel W' σ ρ → E.ct ρ ms → D.ct σ W'.H
theorem EndsOk.mono {W W' : Wd} {E : WEnds} {D : Ends} (e : Ext W W') (h : EndsOk W E D) : EndsOk W' E D :=
  ⟨fun W2 σ ρ ms x => h.nx W2 σ ρ ms (e.trans x), fun W2 v r ms x => h.rt W2 v r ms (e.trans x), fun W2 σ ρ ms x => h.bk W2 σ ρ ms (e.trans x), fun W2 σ ρ ms x => h.ct W2 σ ρ ms (e.trans x)⟩
def LS (S : Sg) (t : TS) (w : WS) : Prop := ∀ (W : Wd) (σ : L2.St) (ρ : Env) (ms : Ms) (D : Ends) (E : WEnds), W.S = S → Rel W σ ρ → Own W ms → w E ρ ms → EndsOk W E D → t D σ W.H
def LG (S : Sg) (t : TG) (w : WG) (ss : List Nat) : Prop := ∀ (W : Wd) (σ : L2.St) (ρ : Env) (ms : Ms) (v : V) (r : Dat) (Q : L2.St → Hp → Prop) (k : Env → Ms → Prop), W.S = S → Rel W σ ρ → Own W ms → RvOk W v r → w r ρ ms k →
  (∀ W' σ' ρ' ms', Ext W W' → Own W' ms' → Rel W' σ' ρ' → σ'.length = σ.length → (∀ i, i ∉ ss → σ'[i]? = σ[i]?) → k ρ' ms' → Q σ' W'.H) → t v σ W.H Q
/-- an iterable walks ds, while the world only grows from W -/
structure WalkD (W : Wd) (J : It) (ds : List Dat) : Prop where
  goes : ∀ W' ms i, Ext0 W W' → Own W' ms → i < ds.length → J.go i W'.H
  stops : ∀ W' ms, Ext0 W W' → Own W' ms → J.stop ds.length W'.H
  yields : ∀ W' ms i x H' d, Ext0 W W' → Own W' ms → ds[i]? = some d → J.yld i W'.H x H' → ∃ W2, Ext W' W2 ∧ Own W2 ms ∧ W2.H = H' ∧ RvOk W2 x d
def LI (S : Sg) (t : TI) (w : WI) : Prop := ∀ (W : Wd) (σ : L2.St) (ρ : Env) (ms : Ms) (R : It → Hp → Prop) (k : List Dat → Ms → Prop), W.S = S → Rel W σ ρ → Own W ms → w ρ ms k →
  (∀ W' J ds ms', Ext W W' → Own W' ms' → WalkD W' J ds → k ds ms' → R J W'.H) → t σ W.H R
def DE (X : Cy) (e : Expr) (w : WE) : Prop := ∃ t, PE X.X e t ∧ LE X.S t w
def DTt (X : Cy) (e : Expr) (w : WT) : Prop := ∃ t, PT X.X e t ∧ LT X.S t w
def DW (X : Cy) (e : Expr) (w : WT) : Prop := ∃ t, PW X.X e t ∧ LT X.S t w
def DA (X : Cy) (es : List Expr) (w : WA) : Prop := ∃ t, PA X.X es t ∧ LA X.S t w
def DS (X : Cy) (st : Stmt) (w : WS) : Prop := ∃ t, PS X.X st t ∧ LS X.S t w
def DSs (X : Cy) (sts : List Stmt) (w : WS) : Prop := ∃ t, PSs X.X sts t ∧ LS X.S t w
def DG (X : Cy) (e : Expr) (w : WG) (ss : List Nat) : Prop := ∃ t, PG X.X e t ∧ LG X.S t w ss
def DI (X : Cy) (tg iter : Expr) (w : WI) : Prop := ∃ t, PI X.X tg iter t ∧ LI X.S t w
/-! ## expressions -/
@[simp] def wVar (i : Nat) : WE := fun ρ ms k => match ρ.sl[i]? with
  | some (some r) => k r ms
  | _ => False
@[simp] def wC (d : Dat) : WE := fun _ ms k => k d ms
section
variable {X : Cy}
theorem le_var {S : Sg} {i : Nat} : LE S (tVar i) (wVar i) := fun W σ ρ ms Q k _ R O h q => by
  have h' : ∃ r, ρ.sl[i]? = some (some r) ∧ k r ms := by
    unfold wVar at h
    split at h
    · rename_i r e; exact ⟨r, e, h⟩
    · exact h.elim
  obtain ⟨r, e, hk⟩ := h'
  obtain ⟨v, hv, ok⟩ := R.get e
  exact ⟨v, hv, q W v r ms (Ext.refl W) O ok hk⟩
theorem de_var (i : Nat) {x : Str} {pos : Pos} (hN : X.X.N[i]? = some x := by rfl) (hv : Vis X.X.env.scope x := by first | exact Or.inl rfl | exact Or.inr (Or.inl rfl) | exact Or.inr (Or.inr rfl)) (hd : (x == ("__debug__" : Str)) = false := by decide)
    (hcd : (x == ("__classdict__" : Str)) = false := by decide) : DE X (.Name x pos) (wVar i) := ⟨_, pe_var hN hv hd hcd, le_var⟩
theorem le_c {S : Sg} {v : V} {d : Dat} (h : ∀ K G A, Dt K G A v d) : LE S (tC v) (wC d) := fun W σ ρ ms Q k _ R O hk q => q W v d ms (Ext.refl W) O (h _ _ _) hk
theorem de_int {i j pos} : DE X (.Constant (.int i) j pos) (wC (.int i)) := ⟨_, pe_int, le_c fun _ _ _ => .int i⟩
theorem de_bl {b j pos} : DE X (.Constant (.bool b) j pos) (wC (.bl b)) := ⟨_, pe_bl, le_c fun _ _ _ => .bl b⟩
theorem de_non {j pos} : DE X (.Constant .none j pos) (wC .non) := ⟨_, pe_non, le_c fun _ _ _ => .non⟩
theorem de_str {x j pos} : DE X (.Constant (.str x) j pos) (wC (.str x)) := ⟨_, pe_str, le_c fun _ _ _ => .str x⟩
theorem de_globI {x : Str} {i : Int} {t : Tok} {pos : Pos} (hg : Gl X.X x) (hm : X.X.mg x = some (.int i t)) (hd : (x == ("__debug__" : Str)) = false := by decide) : DE X (.Name x pos) (wC (.int i)) := ⟨_, pe_glob (v := .int i) hg hm ⟨_, rfl⟩ hd, le_c fun _ _ _ => .int i⟩
theorem de_globS {x : Str} {i : Str} {t : Tok} {pos : Pos} (hg : Gl X.X x) (hm : X.X.mg x = some (.str i t)) (hd : (x == ("__debug__" : Str)) = false := by decide) : DE X (.Name x pos) (wC (.str i)) := ⟨_, pe_glob (v := .str i) hg hm ⟨_, rfl⟩ hd, le_c fun _ _ _ => .str i⟩
theorem de_globR {x : Str} {pos : Pos} (hg : Gl X.X x) (hm : X.X.mg x = some (.ref (He.ga X.X.K x))) (hd : (x == ("__debug__" : Str)) = false := by decide) : DE X (.Name x pos) (wC (.glo x)) := ⟨_, pe_glob (v := .ref (He.ga X.X.K x)) hg hm rfl hd, fun W σ ρ ms Q k hK R O hk q => q W (.ref (He.ga X.X.K x)) (.glo x) ms (Ext.refl W) O (by rw [show X.X.K = W.S.K from (congrArg Sg.K hK).symm]; exact .glo x) hk⟩
theorem de_bty {x : Str} {n : String} {pos : Pos} (hg : Gl X.X x) (hm : X.X.mg x = none) (hv : bootBuiltins x = some (.type n)) (hn : x ≠ "__name__" := by decide) (hd : (x == ("__debug__" : Str)) = false := by decide) : DE X (.Name x pos) (wC (.ty n)) := ⟨_, pe_bltn (v := .ty n) hg hm hv rfl hn hd, le_c fun _ _ _ => .ty n⟩
/-! ### operators -/
abbrev WR2 := Dat → Dat → Ms → KR → Prop
def LR2 (S : Sg) (r : R2) (w : WR2) : Prop := ∀ (W : Wd) (x y : V) (a b : Dat) (ms : Ms) (Q : VK) (k : KR), W.S = S → RvOk W x a → RvOk W y b → Own W ms → w a b ms k →
  (∀ W' v r ms', Ext W W' → Own W' ms' → RvOk W' v r → k r ms' → Q v W'.H) → r x y W.H Q
@[simp] def wOp (w : WR2) (wa wb : WE) : WE := fun ρ ms k => wa ρ ms fun a ms1 => wb ρ ms1 fun b ms2 => w a b ms2 k
theorem le_op {S : Sg} {r : R2} {w : WR2} {ta tb : TE} {wa wb : WE} (hr : LR2 S r w) (ha : LE S ta wa) (hb : LE S tb wb) : LE S (tOp r ta tb) (wOp w wa wb) := fun W σ ρ ms Q k hK R O h q =>
  ha W σ ρ ms _ _ hK R O h fun W1 x a ms1 e1 O1 ok1 h1 => hb W1 σ ρ ms1 _ _ (e1.s.trans hK) (R.mono e1) O1 h1 fun W2 y b ms2 e2 O2 ok2 h2 =>
    hr W2 x y a b ms2 _ _ (e2.s.trans (e1.s.trans hK)) (up_v e2 ok1) ok2 O2 h2 fun W3 v r ms3 e3 O3 ok3 h3 => q W3 v r ms3 ((e1.trans e2).trans e3) O3 ok3 h3
theorem de_op {op : Operator} {r : R2} {w : WR2} {a b : Expr} {wa wb : WE} {pos : Pos} (ho : OpR X.X (binaryOp op) r ∧ LR2 X.S r w) (ha : DE X a wa) (hb : DE X b wb) : DE X (.BinOp a op b pos) (wOp w wa wb) := by
  obtain ⟨ta, pa, la⟩ := ha
  obtain ⟨tb, pb, lb⟩ := hb
  exact ⟨_, pe_op ho.1 pa pb, le_op ho.2 la lb⟩
theorem de_cmp {op : CmpOp} {r : R2} {w : WR2} {a b : Expr} {wa wb : WE} {pos : Pos} (ho : OpR X.X (compareOp op) r ∧ LR2 X.S r w) (ha : DE X a wa) (hb : DE X b wb) (hm : behindInMarks op b = false) : DE X (.Compare a [op] [b] pos) (wOp w wa wb) := by
  obtain ⟨ta, pa, la⟩ := ha
  obtain ⟨tb, pb, lb⟩ := hb
  exact ⟨_, pe_cmpR ho.1 pa pb hm, le_op ho.2 la lb⟩
/-- from several rules of one operator, the one that fits -/
theorem opr_or {f : Value → Value → Sem Value} {r r' : R2} {w w' : WR2} (h : OpR X.X f r ∧ LR2 X.S r w) (h' : OpR X.X f r' ∧ LR2 X.S r' w') : OpR X.X f (fun x y H Q => r x y H Q ∨ r' x y H Q) ∧ LR2 X.S (fun x y H Q => r x y H Q ∨ r' x y H Q) (fun a b ms k => w a b ms k ∨ w' a b ms k) :=
  ⟨OpR.or h.1 h'.1, fun W x y a b ms Q k hK oa ob O hw q => hw.elim (fun z => .inl (h.2 W x y a b ms Q k hK oa ob O z q)) fun z => .inr (h'.2 W x y a b ms Q k hK oa ob O z q)⟩
theorem opr_imp {f : Value → Value → Sem Value} {r : R2} {w w' : WR2} (h : OpR X.X f r ∧ LR2 X.S r w) (i : ∀ a b ms k, w' a b ms k → w a b ms k) : OpR X.X f r ∧ LR2 X.S r w' :=
  ⟨h.1, fun W x y a b ms Q k hK oa ob O hw q => h.2 W x y a b ms Q k hK oa ob O (i a b ms k hw) q⟩
/-- two ints -/
@[simp] def wII (C : Int → Int → Prop) (g : Int → Int → Dat) : WR2 := fun a b ms k => match a, b with
  | .int i, .int j => C i j ∧ k (g i j) ms
  | _, _ => False
theorem lr_I {S : Sg} {C : Int → Int → Prop} {g : Int → Int → V} {g' : Int → Int → Dat} (hg : ∀ K G A i j, Dt K G A (g i j) (g' i j)) : LR2 S (rI C g) (wII C g') := fun W x y a b ms Q k hK oa ob O h q => by
  unfold wII at h
  split at h
  · rename_i i j
    obtain ⟨hc, hk⟩ := h
    cases oa
    cases ob
    exact ⟨i, j, rfl, rfl, hc, q W _ (g' i j) ms (Ext.refl W) O (hg _ _ _ i j) hk⟩
  · exact h.elim
@[simp] def wI0 (g : Int → Int → Dat) : WR2 := fun a b ms k => match a, b with
  | .int i, .int j => k (g i j) ms
  | _, _ => False
theorem lr_I0 {S : Sg} {g : Int → Int → V} {g' : Int → Int → Dat} (hg : ∀ K G A i j, Dt K G A (g i j) (g' i j)) : LR2 S (rI0 g) (wI0 g') := fun W x y a b ms Q k hK oa ob O h q => by
  unfold wI0 at h
  split at h
  · rename_i i j
    cases oa
    cases ob
    exact ⟨i, j, rfl, rfl, q W _ (g' i j) ms (Ext.refl W) O (hg _ _ _ i j) h⟩
  · exact h.elim
theorem do_subI : OpR X.X (binaryOp .Sub) (rI0 fun i j => .int (i - j)) ∧ LR2 X.S (rI0 fun i j => .int (i - j)) (wI0 fun i j => .int (i - j)) := ⟨op_sub, lr_I0 fun _ _ _ _ _ => .int _⟩
theorem do_addI : OpR X.X (binaryOp .Add) (rI0 fun i j => .int (i + j)) ∧ LR2 X.S (rI0 fun i j => .int (i + j)) (wI0 fun i j => .int (i + j)) := ⟨op_add, lr_I0 fun _ _ _ _ _ => .int _⟩
theorem do_mul : OpR X.X (binaryOp .Mult) (rI CMul fun i j => .int (i * j)) ∧ LR2 X.S (rI CMul fun i j => .int (i * j)) (wII CMul fun i j => .int (i * j)) := ⟨op_mul, lr_I fun _ _ _ _ _ => .int _⟩
theorem do_fdiv : OpR X.X (binaryOp .FloorDiv) (rI CDiv fun i j => .int (i / j)) ∧ LR2 X.S (rI CDiv fun i j => .int (i / j)) (wII CDiv fun i j => .int (i / j)) := ⟨op_fdiv, lr_I fun _ _ _ _ _ => .int _⟩
theorem do_mod : OpR X.X (binaryOp .Mod) (rI (fun _ j => 0 < j) fun i j => .int (i % j)) ∧ LR2 X.S (rI (fun _ j => 0 < j) fun i j => .int (i % j)) (wII (fun _ j => 0 < j) fun i j => .int (i % j)) := ⟨op_mod, lr_I fun _ _ _ _ _ => .int _⟩
theorem do_pow : OpR X.X (binaryOp .Pow) (rI CPow fun i j => .int (i ^ j.toNat)) ∧ LR2 X.S (rI CPow fun i j => .int (i ^ j.toNat)) (wII CPow fun i j => .int (i ^ j.toNat)) := ⟨op_pow, lr_I fun _ _ _ _ _ => .int _⟩
theorem do_ltI : OpR X.X (compareOp .Lt) (rI0 fun i j => .bl (decide (i < j))) ∧ LR2 X.S (rI0 fun i j => .bl (decide (i < j))) (wI0 fun i j => .bl (decide (i < j))) := ⟨op_lt, lr_I0 fun _ _ _ _ _ => .bl _⟩
theorem do_leI : OpR X.X (compareOp .LtE) (rI0 fun i j => .bl (decide (i ≤ j))) ∧ LR2 X.S (rI0 fun i j => .bl (decide (i ≤ j))) (wI0 fun i j => .bl (decide (i ≤ j))) := ⟨op_le, lr_I0 fun _ _ _ _ _ => .bl _⟩
theorem do_gtI : OpR X.X (compareOp .Gt) (rI0 fun i j => .bl (decide (j < i))) ∧ LR2 X.S (rI0 fun i j => .bl (decide (j < i))) (wI0 fun i j => .bl (decide (j < i))) := ⟨op_gt, lr_I0 fun _ _ _ _ _ => .bl _⟩
theorem do_geI : OpR X.X (compareOp .GtE) (rI0 fun i j => .bl (decide (j ≤ i))) ∧ LR2 X.S (rI0 fun i j => .bl (decide (j ≤ i))) (wI0 fun i j => .bl (decide (j ≤ i))) := ⟨op_ge, lr_I0 fun _ _ _ _ _ => .bl _⟩
end
end Sy
namespace Sy
open PySem L2
/-! ## what a value shows -/
@[simp] def cellD : Cell → Option Dat
  | .lst ds => some (.lst ds)
  | .dic kvs => some (.dic kvs)
  | .lck (.dic kvs) => some (.dic kvs)
  | _ => none
@[simp] def look (ms : Ms) : Dat → Option Dat
  | .own i => (ms[i]?).bind cellD
  | x => some x
def isOwn : Dat → Bool
  | .own _ => true
  | _ => false
theorem look_pure {ms : Ms} {x : Dat} (h : isOwn x = false) : look ms x = some x := by cases x <;> first | rfl | cases h
theorem look_cases {ms : Ms} {r x : Dat} (h : look ms r = some x) : (isOwn r = false ∧ r = x) ∨ ∃ i, r = .own i := by
  cases r with
  | own i => exact .inr ⟨i, rfl⟩
  | _ => exact .inl ⟨rfl, Option.some.inj h⟩
theorem Dtk.rks {W : Wd} : ∀ {vs : List (Key × V)} {ds : List (Key × Dat)}, Dtk W.S.K W.G W.A vs ds → RkOk W vs ds
  | _, _, .nil => .nil
  | _, _, .cons h r => .cons h (Dtk.rks r)
theorem RkOk.dtk {W : Wd} : ∀ {vs : List (Key × V)} {ds : List (Key × Dat)}, RkOk W vs ds → Dtk W.S.K W.G W.A vs ds
  | _, _, .nil => .nil
  | _, _, .cons h r => .cons h (RkOk.dtk r)
section
variable {W : Wd} {ms : Ms} {v : V} {r : Dat}
theorem Own.look_own (O : Own W ms) {i : Nat} {x : Dat} (ok : RvOk W v (.own i)) (h : look ms (.own i) = some x) : ∃ a u, v = .ref a ∧ W.H a = some u ∧ ((∃ ds xs, x = .lst ds ∧ u = .lst xs ∧ RvsOk W xs ds) ∨ ∃ ds xs, x = .dic ds ∧ (u = .dK xs ∨ ∃ ob, u = .frz ob (.dK xs)) ∧ RkOk W xs ds) := by
  cases ok with
  | own ha =>
    simp only [look, Option.bind_eq_some_iff] at h
    obtain ⟨c, hc, e⟩ := h
    have hn : c ≠ .gone := fun z => by subst z; cases e
    obtain ⟨b, o, hb, _, ho, k⟩ := O.cell i c hc hn
    rw [ha] at hb; cases hb
    refine ⟨_, o, rfl, ho, ?_⟩
    cases c with
    | lst rs => cases e; obtain ⟨xs, rfl, q⟩ := k; exact .inl ⟨rs, xs, rfl, rfl, q⟩
    | dic kvs => cases e; obtain ⟨xs, rfl, q⟩ := k; exact .inr ⟨kvs, xs, rfl, .inl rfl, q⟩
    | lck c =>
      cases c with
      | dic kvs => cases e; obtain ⟨ob, u, rfl, xs, rfl, q⟩ := k; exact .inr ⟨kvs, xs, rfl, .inr ⟨ob, rfl⟩, q⟩
      | _ => cases e
    | _ => cases e
theorem Own.list (O : Own W ms) (ok : RvOk W v r) {ds : List Dat} (h : look ms r = some (.lst ds)) : ∃ a xs, v = .ref a ∧ W.H a = some (.lst xs) ∧ RvsOk W xs ds := by
  rcases look_cases h with ⟨_, rfl⟩ | ⟨i, rfl⟩
  · cases ok with
    | lst h1 h2 => exact ⟨_, _, rfl, O.ex _ _ h1, h2⟩
  · obtain ⟨a, u, rfl, h1, ⟨ds', xs, e, rfl, q⟩ | ⟨ds', xs, e, _⟩⟩ := O.look_own ok h
    · cases e; exact ⟨a, xs, rfl, h1, q⟩
    · cases e
theorem Own.dict (O : Own W ms) (ok : RvOk W v r) {ds : List (Key × Dat)} (h : look ms r = some (.dic ds)) : ∃ a xs, v = .ref a ∧ Rd W.H a (.dK xs) ∧ RkOk W xs ds := by
  rcases look_cases h with ⟨_, rfl⟩ | ⟨i, rfl⟩
  · cases ok with
    | dic h1 h2 => exact ⟨_, _, rfl, .inr ⟨_, O.ex _ _ h1⟩, h2.rks⟩
  · obtain ⟨a, u, rfl, h1, ⟨ds', xs, e, _⟩ | ⟨ds', xs, e, hu, q⟩⟩ := O.look_own ok h
    · cases e
    · cases e
      rcases hu with rfl | ⟨ob, rfl⟩
      · exact ⟨a, xs, rfl, .inl h1, q⟩
      · exact ⟨a, xs, rfl, .inr ⟨ob, h1⟩, q⟩
theorem look_kind {i : Nat} {x : Dat} (h : look ms (.own i) = some x) : (∃ ds, x = .lst ds) ∨ ∃ ds, x = .dic ds := by
  simp only [look, Option.bind_eq_some_iff] at h
  obtain ⟨c, _, e⟩ := h
  cases c with
  | lst rs => cases e; exact .inl ⟨_, rfl⟩
  | dic kvs => cases e; exact .inr ⟨_, rfl⟩
  | lck c =>
    cases c with
    | dic kvs => cases e; exact .inr ⟨_, rfl⟩
    | _ => cases e
  | _ => cases e
theorem Own.tuple (O : Own W ms) (ok : RvOk W v r) {ds : List Dat} (h : look ms r = some (.tup ds)) : ∃ a xs, v = .ref a ∧ W.G a = some (.tup xs) ∧ W.H a = some (.tup xs) ∧ RvsOk W xs ds := by
  rcases look_cases h with ⟨_, rfl⟩ | ⟨i, rfl⟩
  · cases ok with
    | tup h1 h2 => exact ⟨_, _, rfl, h1, O.ex _ _ h1, h2⟩
  · rcases look_kind h with ⟨_, e⟩ | ⟨_, e⟩ <;> cases e
theorem Own.scr (O : Own W ms) (ok : RvOk W v r) {ns : List Int} (h : look ms r = some (.scr ns)) : ∃ a, v = .ref a ∧ SqL W.K W.H a (ns.map V.int) := by
  rcases look_cases h with ⟨_, rfl⟩ | ⟨i, rfl⟩
  · cases ok with
    | scr h1 => exact ⟨_, rfl, Same.seq O.ex h1⟩
  · rcases look_kind h with ⟨_, e⟩ | ⟨_, e⟩ <;> cases e
theorem Own.strv (O : Own W ms) (ok : RvOk W v r) {x : Str} (h : look ms r = some (.str x)) : v = .str x := by
  rcases look_cases h with ⟨_, rfl⟩ | ⟨i, rfl⟩
  · cases ok; rfl
  · rcases look_kind h with ⟨_, e⟩ | ⟨_, e⟩ <;> cases e
theorem Own.intv (O : Own W ms) (ok : RvOk W v r) {x : Int} (h : look ms r = some (.int x)) : v = .int x := by
  rcases look_cases h with ⟨_, rfl⟩ | ⟨i, rfl⟩
  · cases ok; rfl
  · rcases look_kind h with ⟨_, e⟩ | ⟨_, e⟩ <;> cases e
end
end Sy
namespace Sy
open PySem L2
/-! ## plain data as the library's -/
mutual
@[simp] def toPy : Dat → PyData
  | .bl b => .bool b
  | .int i => .int i
  | .str x => .str x
  | .lst ds => .list (toPys ds)
  | .tup ds => .tuple (toPys ds)
  | _ => .none
@[simp] def toPys : List Dat → List PyData
  | [] => []
  | d :: ds => toPy d :: toPys ds
end
mutual
@[simp] def plain : Dat → Bool
  | .non => true
  | .bl _ => true
  | .int _ => true
  | .str _ => true
  | .lst ds => plains ds
  | .tup ds => plains ds
  | _ => false
@[simp] def plains : List Dat → Bool
  | [] => true
  | d :: ds => plain d && plains ds
end
mutual
theorem Dt.dp {K : PySem.W.Frag} {G H : Hp} {A : List Addr} (e : Same G H) : ∀ {v : V} {d : Dat}, Dt K G A v d → plain d = true → Dp K H v (toPy d)
  | _, _, .non, _ => .non
  | _, _, .bl b, _ => .bl b
  | _, _, .int i, _ => .int i
  | _, _, .str x, _ => .str x
  | _, _, .ty n, h => by simp [plain] at h
  | _, _, .ref a, h => by simp [plain] at h
  | _, _, .glo x, h => by simp [plain] at h
  | _, _, .lst h r, p => by
    rw [plain] at p
    rw [toPy]
    exact .lst (SqL.of (e _ _ h)) (Dts.dp e r p)
  | _, _, .tup h r, p => by
    rw [plain] at p
    rw [toPy]
    exact .tup (SqT.of (e _ _ h)) (Dts.dp e r p)
  | _, _, .dic h r, p => by simp [plain] at p
  | _, _, .scr h, p => by simp [plain] at p
  | _, _, .own h, p => by simp [plain] at p
  | _, _, .ins h r, p => by simp [plain] at p
  | _, _, .exc h h' r, p => by simp [plain] at p
theorem Dts.dp {K : PySem.W.Frag} {G H : Hp} {A : List Addr} (e : Same G H) : ∀ {v : List V} {d : List Dat}, Dts K G A v d → plains d = true → DpAll K H v (toPys d)
  | _, _, .nil, _ => by rw [toPys]; exact .nil
  | _, _, .cons h r, p => by
    rw [plains, Bool.and_eq_true] at p
    rw [toPys]
    exact .cons (Dt.dp e h p.1) (Dts.dp e r p.2)
end
theorem Own.dp {W : Wd} {ms : Ms} {v : V} {r : Dat} {x : Dat} (O : Own W ms) (ok : RvOk W v r) (h : look ms r = some x) (p : plain x = true) : Dp W.K W.H v (toPy x) := by
  rcases look_cases h with ⟨_, rfl⟩ | ⟨i, rfl⟩
  · exact Dt.dp O.ex ok p
  · rcases look_kind h with ⟨ds, rfl⟩ | ⟨_, rfl⟩
    · obtain ⟨a, xs, rfl, h1, h2⟩ := O.list ok h
      rw [plain] at p
      rw [toPy]
      exact .lst (SqL.of h1) (h2.dp O.ex p)
    · simp [plain] at p
/-- a == b -/
@[simp] def wEq : WR2 := fun a b ms k => ∃ x y, look ms a = some x ∧ look ms b = some y ∧ plain x = true ∧ plain y = true ∧ SeqAt.shaped (toPy x) = true ∧ SeqAt.shaped (toPy y) = true ∧ k (.bl (PyData.eqv (toPy x) (toPy y))) ms
@[simp] def wNe : WR2 := fun a b ms k => ∃ x y, look ms a = some x ∧ look ms b = some y ∧ plain x = true ∧ plain y = true ∧ SeqAt.shaped (toPy x) = true ∧ SeqAt.shaped (toPy y) = true ∧ k (.bl (!PyData.eqv (toPy x) (toPy y))) ms
section
variable {X : Cy}
theorem do_eq (hu : X.X.A.units + 64 < cLine) : OpR X.X (compareOp .Eq) (rEqD X.X.K) ∧ LR2 X.S (rEqD X.X.K) wEq := ⟨op_eqD hu, fun W x y a b ms Q k hK oa ob O ⟨p, q, h1, h2, p1, p2, s1, s2, hk⟩ z => by
  rw [show X.X.K = W.K from (congrArg Sg.K hK).symm]
  exact ⟨_, _, O.dp oa h1 p1, O.dp ob h2 p2, s1, s2, z W _ (.bl _) ms (Ext.refl W) O (.bl _) hk⟩⟩
theorem do_ne (hu : X.X.A.units + 64 < cLine) : OpR X.X (compareOp .NotEq) (rNeD X.X.K) ∧ LR2 X.S (rNeD X.X.K) wNe := ⟨op_neD hu, fun W x y a b ms Q k hK oa ob O ⟨p, q, h1, h2, p1, p2, s1, s2, hk⟩ z => by
  rw [show X.X.K = W.K from (congrArg Sg.K hK).symm]
  exact ⟨_, _, O.dp oa h1 p1, O.dp ob h2 p2, s1, s2, z W _ (.bl _) ms (Ext.refl W) O (.bl _) hk⟩⟩
/-! ### in, not in -/
@[simp] def flat : Dat → Bool
  | .non => true
  | .bl _ => true
  | .int _ => true
  | .str _ => true
  | _ => false
@[simp] def eqD : Dat → Dat → Bool
  | .non, .non => true
  | .bl a, .bl b => a == b
  | .bl a, .int b => (if a then 1 else 0) == b
  | .int a, .bl b => a == (if b then 1 else 0)
  | .int a, .int b => a == b
  | .str a, .str b => a == b
  | _, _ => false
def inD (x : Dat) (ds : List Dat) : Bool := ds.any fun y => eqD y x
theorem Dt.flatV {K : PySem.W.Frag} {G : Hp} {A : List Addr} {v : V} {d : Dat} (h : Dt K G A v d) (f : flat d = true) : flatV v = true := by
  cases h <;> first | rfl | cases f
theorem Dt.eqV {K : PySem.W.Frag} {G : Hp} {A : List Addr} {v w : V} {d e : Dat} (h : Dt K G A v d) (h' : Dt K G A w e) (f : flat d = true) (f' : flat e = true) : eqV v w = eqD d e := by
  cases h <;> first | (cases f; done) | (cases h' <;> first | rfl | (cases f'; done))
theorem Dts.inV {K : PySem.W.Frag} {G : Hp} {A : List Addr} {x : V} {d : Dat} (h : Dt K G A x d) (f : flat d = true) : ∀ {vs : List V} {ds : List Dat}, Dts K G A vs ds → ds.all flat = true → vs.all flatV = true ∧ L2.inV x vs = inD d ds
  | _, _, .nil, _ => ⟨rfl, rfl⟩
  | _, _, .cons q r, a => by
    rw [List.all_cons, Bool.and_eq_true] at a
    obtain ⟨h1, h2⟩ := Dts.inV h f r a.2
    refine ⟨by rw [List.all_cons, q.flatV a.1, h1]; rfl, ?_⟩
    show (L2.eqV _ x || L2.inV x _) = (eqD _ d || inD d _)
    rw [q.eqV h a.1 f, h2]
@[simp] def wIn (neg : Bool) : WR2 := fun a b ms k => flat a = true ∧ match look ms b with
  | some (.lst ds) => ds.all flat = true ∧ k (.bl (if neg then !inD a ds else inD a ds)) ms
  | some (.tup ds) => ds.all flat = true ∧ k (.bl (if neg then !inD a ds else inD a ds)) ms
  | _ => False
theorem lr_in {S : Sg} {neg : Bool} : LR2 S (rIn S.K neg) (wIn neg) := fun W x y a b ms Q k hK oa ob O h z => by
  subst hK
  obtain ⟨fd, h⟩ := h
  split at h
  · rename_i ds e
    obtain ⟨fs, hk⟩ := h
    obtain ⟨p, xs, rfl, h1, h2⟩ := O.list ob e
    obtain ⟨i1, i2⟩ := Dts.inV oa fd h2 fs
    exact ⟨p, xs, rfl, .inl (SqL.of h1), Dt.flatV oa fd, i1, by rw [i2]; exact z W _ (.bl _) ms (Ext.refl W) O (.bl _) hk⟩
  · rename_i ds e
    obtain ⟨fs, hk⟩ := h
    obtain ⟨p, xs, rfl, _, h1, h2⟩ := O.tuple ob e
    obtain ⟨i1, i2⟩ := Dts.inV oa fd h2 fs
    exact ⟨p, xs, rfl, .inr (SqT.of h1), Dt.flatV oa fd, i1, by rw [i2]; exact z W _ (.bl _) ms (Ext.refl W) O (.bl _) hk⟩
  · exact h.elim
theorem do_in : OpR X.X (compareOp .In) (rIn X.X.K false) ∧ LR2 X.S (rIn X.X.K false) (wIn false) := ⟨op_in_seq, lr_in⟩
theorem do_notin : OpR X.X (compareOp .NotIn) (rIn X.X.K true) ∧ LR2 X.S (rIn X.X.K true) (wIn true) := ⟨op_notIn_seq, lr_in⟩
/-! ### is None -/
@[simp] def isNon : Dat → Bool
  | .non => true
  | _ => false
theorem isNon_ok {W : Wd} {v : V} {r : Dat} (h : RvOk W v r) : decide (v = .non) = isNon r := by cases h <;> rfl
@[simp] def wIsN (neg : Bool) : WR2 := fun a b ms k => b = .non ∧ k (.bl (if neg then !isNon a else isNon a)) ms
theorem do_isN : OpR X.X (compareOp .Is) (fun x y H Q => y = .non ∧ Q (.bl (decide (x = .non))) H) ∧ LR2 X.S (fun x y H Q => y = .non ∧ Q (.bl (decide (x = .non))) H) (wIsN false) := ⟨op_isN, fun W x y a b ms Q k hK oa ob O ⟨e, hk⟩ z => by
  subst e
  cases ob
  exact ⟨rfl, by rw [isNon_ok oa]; exact z W _ (.bl _) ms (Ext.refl W) O (.bl _) hk⟩⟩
theorem do_notN : OpR X.X (compareOp .IsNot) (fun x y H Q => y = .non ∧ Q (.bl (!decide (x = .non))) H) ∧ LR2 X.S (fun x y H Q => y = .non ∧ Q (.bl (!decide (x = .non))) H) (wIsN true) := ⟨op_notN, fun W x y a b ms Q k hK oa ob O ⟨e, hk⟩ z => by
  subst e
  cases ob
  exact ⟨rfl, by rw [isNon_ok oa]; exact z W _ (.bl _) ms (Ext.refl W) O (.bl _) hk⟩⟩
/-! ### arguments, displays -/
@[simp] def wNil : WA := fun _ ms k => k [] ms
@[simp] def wCons (we : WE) (wr : WA) : WA := fun ρ ms k => we ρ ms fun a ms1 => wr ρ ms1 fun as ms2 => k (a :: as) ms2
theorem da_nil : DA X [] wNil := ⟨_, pa_nil, fun W σ ρ ms Q k hK R O h q => q W [] [] ms (Ext.refl W) O .nil h⟩
theorem da_cons {e : Expr} {es : List Expr} {we : WE} {wr : WA} (ha : DE X e we) (hr : DA X es wr) (hs : starEach (e :: es) X.X.env = (false, eval e X.X.env) :: starEach es X.X.env := by rfl) : DA X (e :: es) (wCons we wr) := by
  obtain ⟨ta, pa, la⟩ := ha
  obtain ⟨tr, pr, lr⟩ := hr
  refine ⟨_, pa_cons pa pr hs, fun W σ ρ ms Q k hK R O h q => ?_⟩
  exact la W σ ρ ms _ _ hK R O h fun W1 x a ms1 e1 O1 ok1 h1 => lr W1 σ ρ ms1 _ _ (e1.s.trans hK) (R.mono e1) O1 h1 fun W2 xs as ms2 e2 O2 ok2 h2 =>
    q W2 (x :: xs) (a :: as) ms2 (e1.trans e2) O2 (.cons (up_v e2 ok1) ok2) h2
@[simp] def wLst (wa : WA) : WE := fun ρ ms k => wa ρ ms fun rs ms1 => rs.length ≤ sizeLine ∧ k (.lst rs) ms1
/-- [..], to be changed later -/
@[simp] def wLstO (wa : WA) : WE := fun ρ ms k => wa ρ ms fun rs ms1 => rs.length ≤ sizeLine ∧ k (.own ms1.length) (ms1 ++ [.lst rs])
@[simp] def wTup (wa : WA) : WE := fun ρ ms k => wa ρ ms fun rs ms1 => rs.length ≤ sizeLine ∧ k (.tup rs) ms1
theorem de_lst {es : List Expr} {wa : WA} {pos : Pos} (h : DA X es wa) : DE X (.List es pos) (wLst wa) := by
  obtain ⟨t, p, l⟩ := h
  refine ⟨_, pe_lst p, fun W σ ρ ms Q k hK R O h q => ?_⟩
  refine l W σ ρ ms _ _ hK R O h fun W1 vs rs ms1 e1 O1 ok1 h1 => ?_
  refine ⟨by rw [ok1.length]; exact h1.1, fun p hp => ?_⟩
  obtain ⟨O2, e2⟩ := O1.lay (o := .lst vs) hp
  exact q (W1.lay p (.lst vs)) (.ref p) (.lst rs) ms1 (e1.trans e2) O2 (.lst upd_same (up_vs e2 ok1)) h1.2
theorem de_tup {es : List Expr} {wa : WA} {x1} {pos : Pos} (h : DA X es wa) : DE X (.Tuple es x1 pos) (wTup wa) := by
  obtain ⟨t, p, l⟩ := h
  refine ⟨_, pe_tup p, fun W σ ρ ms Q k hK R O h q => ?_⟩
  refine l W σ ρ ms _ _ hK R O h fun W1 vs rs ms1 e1 O1 ok1 h1 => ?_
  refine ⟨by rw [ok1.length]; exact h1.1, fun p hp => ?_⟩
  obtain ⟨O2, e2⟩ := O1.lay (o := .tup vs) hp
  exact q (W1.lay p (.tup vs)) (.ref p) (.tup rs) ms1 (e1.trans e2) O2 (.tup upd_same (up_vs e2 ok1)) h1.2
theorem take_own {W : Wd} {ms : Ms} (O : Own W ms) {p : Addr} {o : HO} : RvOk (W.take p o) (.ref p) (.own ms.length) :=
  .own (by show (W.A ++ [p])[ms.length]? = _; rw [← O.len, List.getElem?_append_right (Nat.le_refl _), Nat.sub_self]; rfl)
theorem de_lstO {es : List Expr} {wa : WA} {pos : Pos} (h : DA X es wa) : DE X (.List es pos) (wLstO wa) := by
  obtain ⟨t, p, l⟩ := h
  refine ⟨_, pe_lst p, fun W σ ρ ms Q k hK R O h q => ?_⟩
  refine l W σ ρ ms _ _ hK R O h fun W1 vs rs ms1 e1 O1 ok1 h1 => ?_
  refine ⟨by rw [ok1.length]; exact h1.1, fun p hp => ?_⟩
  obtain ⟨O2, e2⟩ := O1.take (o := .lst vs) (c := .lst rs) hp ⟨vs, rfl, low_vs take_low ok1⟩
  exact q (W1.take p (.lst vs)) (.ref p) (.own ms1.length) _ (e1.trans e2) O2 (take_own O1) h1.2
/-! ### subscripts -/
theorem ixN_lt {n : Nat} {i : Int} {j : Nat} (h : ixN n i = some j) : j < n := (ixN_seq h).2.1
def atD (ds : List Dat) (i : Int) : Option Dat := (ixN ds.length i).bind fun j => ds[j]?
theorem Dts.atI {K : PySem.W.Frag} {G : Hp} {A : List Addr} {vs : List V} {ds : List Dat} {i : Int} {d : Dat} (h : Dts K G A vs ds) (e : atD ds i = some d) : ∃ v, L2.atI vs i = some v ∧ Dt K G A v d := by
  unfold atD at e
  obtain ⟨j, h1, h2⟩ := Option.bind_eq_some_iff.mp e
  obtain ⟨v, h3, h4⟩ := h.get h2
  exact ⟨v, by unfold L2.atI; rw [h.length, h1]; exact h3, h4⟩
@[simp] def wIx : WR2 := fun a b ms k => match look ms a, b with
  | some (.lst ds), (.int i) => (match atD ds i with | some d => k d ms | none => False)
  | some (.tup ds), (.int i) => (match atD ds i with | some d => k d ms | none => False)
  | some (.scr ns), (.int i) => 0 ≤ i ∧ i < (ns.length : Int) ∧ k (.int (ns.getD i.toNat 0)) ms
  | _, _ => False
theorem lr_ix {S : Sg} : LR2 S (fun x y H Q => rIxL S.K x y H Q ∨ rIxT S.K x y H Q) wIx := fun W x y a b ms Q k hK oa ob O h z => by
  subst hK
  unfold wIx at h
  split at h
  · rename_i ds i e
    cases hh : atD ds i with
    | none => rw [hh] at h; exact h.elim
    | some d =>
      rw [hh] at h
      obtain ⟨p, xs, rfl, h1, h2⟩ := O.list oa e
      obtain ⟨v, h3, h4⟩ := h2.atI hh
      cases ob
      exact .inl ⟨p, xs, i, v, rfl, rfl, SqL.of h1, h3, z W v d ms (Ext.refl W) O h4 h⟩
  · rename_i ds i e
    cases hh : atD ds i with
    | none => rw [hh] at h; exact h.elim
    | some d =>
      rw [hh] at h
      obtain ⟨p, xs, rfl, _, h1, h2⟩ := O.tuple oa e
      obtain ⟨v, h3, h4⟩ := h2.atI hh
      cases ob
      exact .inr ⟨p, xs, i, v, rfl, rfl, SqT.of h1, h3, z W v d ms (Ext.refl W) O h4 h⟩
  · rename_i ns i e
    obtain ⟨p, rfl, h1⟩ := O.scr oa e
    cases ob
    obtain ⟨h2, h3, hk⟩ := h
    refine .inl ⟨p, _, i, .int (ns.getD i.toNat 0), rfl, rfl, h1, ?_, z W _ (.int _) ms (Ext.refl W) O (.int _) hk⟩
    have hlt : i.toNat < ns.length := by omega
    unfold L2.atI ixN
    rw [List.length_map, if_pos h2, if_pos h3]
    simp [List.getD, hlt]
  · exact h.elim
theorem de_ix {a b : Expr} {wa wb : WE} {pos : Pos} (ha : DE X a wa) (hb : DE X b wb) (hs : PlainIx b) : DE X (.Subscript a b pos) (wOp wIx wa wb) := by
  obtain ⟨ta, pa, la⟩ := ha
  obtain ⟨tb, pb, lb⟩ := hb
  exact ⟨_, pe_ix (ix_list.or ix_tup) pa pb hs, le_op lr_ix la lb⟩
/-! ### truth, and, or, not, if -/
@[simp] def wBt (we : WE) : WT := fun ρ ms k => we ρ ms fun a ms1 => match a with
  | (.bl b) => k b ms1
  | _ => False
theorem lt_B {S : Sg} {t : TE} {w : WE} (h : LE S t w) : LT S (tB t) (wBt w) := fun W σ ρ ms Q k hK R O hw q =>
  h W σ ρ ms _ _ hK R O hw fun W1 v a ms1 e1 O1 ok1 h1 => by
    split at h1
    · rename_i b
      cases ok1
      exact ⟨b, rfl, q W1 b ms1 e1 O1 h1⟩
    · exact h1.elim
theorem dt_val {e : Expr} {w : WE} (h : DE X e w) (he : ∀ whole, isTrue e X.X.env whole = (do let v ← whole; standAt e.pos; holding [v] (truthy v)) := by intro _; rfl) : DTt X e (wBt w) := by
  obtain ⟨t, p, l⟩ := h
  exact ⟨_, pt_val p he, lt_B l⟩
theorem dt_cmp {op : CmpOp} {r : R2} {w : WR2} {a b : Expr} {wa wb : WE} {pos : Pos} (ho : OpR X.X (compareOp op) r ∧ LR2 X.S r w) (ha : DE X a wa) (hb : DE X b wb) (hm : behindInMarks op b = false) : DTt X (.Compare a [op] [b] pos) (wBt (wOp w wa wb)) := by
  obtain ⟨ta, pa, la⟩ := ha
  obtain ⟨tb, pb, lb⟩ := hb
  exact ⟨_, pt_cmpR ho.1 pa pb hm, lt_B (le_op ho.2 la lb)⟩
@[simp] def wAnd (a b : WT) : WT := fun ρ ms k => a ρ ms fun c ms1 => if c = true then b ρ ms1 k else k false ms1
@[simp] def wOr (a b : WT) : WT := fun ρ ms k => a ρ ms fun c ms1 => if c = true then k true ms1 else b ρ ms1 k
@[simp] def wNot (a : WT) : WT := fun ρ ms k => a ρ ms fun c ms1 => k (!c) ms1
theorem dw_and1 {a : Expr} {w : WT} {pos : Pos} (h : DTt X a w) : DW X (.BoolOp .And [a] pos) w := let ⟨t, p, l⟩ := h; ⟨t, pw_and1 p, l⟩
theorem dw_or1 {a : Expr} {w : WT} {pos : Pos} (h : DTt X a w) : DW X (.BoolOp .Or [a] pos) w := let ⟨t, p, l⟩ := h; ⟨t, pw_or1 p, l⟩
theorem dw_and {a b : Expr} {rest : List Expr} {pos : Pos} {w u : WT} (h : DTt X a w) (h2 : DW X (.BoolOp .And (b :: rest) pos) u) : DW X (.BoolOp .And (a :: b :: rest) pos) (wAnd w u) := by
  obtain ⟨t, p, l⟩ := h
  obtain ⟨t2, p2, l2⟩ := h2
  refine ⟨_, pw_and p p2, fun W σ ρ ms Q k hK R O hw q => ?_⟩
  refine l W σ ρ ms _ _ hK R O hw fun W1 b ms1 e1 O1 h1 => ?_
  cases b with
  | true => exact l2 W1 σ ρ ms1 _ _ (e1.s.trans hK) (R.mono e1) O1 h1 fun W2 b ms2 e2 O2 h2 => q W2 b ms2 (e1.trans e2) O2 h2
  | false => exact q W1 false ms1 e1 O1 h1
theorem dw_or {a b : Expr} {rest : List Expr} {pos : Pos} {w u : WT} (h : DTt X a w) (h2 : DW X (.BoolOp .Or (b :: rest) pos) u) : DW X (.BoolOp .Or (a :: b :: rest) pos) (wOr w u) := by
  obtain ⟨t, p, l⟩ := h
  obtain ⟨t2, p2, l2⟩ := h2
  refine ⟨_, pw_or p p2, fun W σ ρ ms Q k hK R O hw q => ?_⟩
  refine l W σ ρ ms _ _ hK R O hw fun W1 b ms1 e1 O1 h1 => ?_
  cases b with
  | true => exact q W1 true ms1 e1 O1 h1
  | false => exact l2 W1 σ ρ ms1 _ _ (e1.s.trans hK) (R.mono e1) O1 h1 fun W2 b ms2 e2 O2 h2 => q W2 b ms2 (e1.trans e2) O2 h2
theorem DW.dt {e : Expr} {w : WT} (h : DW X e w) : DTt X e w := let ⟨t, p, l⟩ := h; ⟨t, p.pt, l⟩
theorem dt_not {a : Expr} {pos : Pos} {w : WT} (h : DTt X a w) : DTt X (.UnaryOp .Not a pos) (wNot w) := by
  obtain ⟨t, p, l⟩ := h
  exact ⟨_, pt_not p, fun W σ ρ ms Q k hK R O hw q => l W σ ρ ms _ _ hK R O hw fun W1 b ms1 e1 O1 h1 => q W1 (!b) ms1 e1 O1 h1⟩
@[simp] def wAndV (a b : WE) : WE := fun ρ ms k => a ρ ms fun r ms1 => match r with
  | (.bl c) => if c = true then b ρ ms1 k else k (.bl false) ms1
  | _ => False
@[simp] def wOrV (a b : WE) : WE := fun ρ ms k => a ρ ms fun r ms1 => match r with
  | (.bl c) => if c = true then k (.bl true) ms1 else b ρ ms1 k
  | _ => False
@[simp] def wNotV (a : WE) : WE := fun ρ ms k => a ρ ms fun r ms1 => match r with
  | (.bl c) => k (.bl (!c)) ms1
  | _ => False
theorem de_one {op} {a : Expr} {pos : Pos} {w : WE} (h : DE X a w) : DE X (.BoolOp op [a] pos) w := let ⟨t, p, l⟩ := h; ⟨t, pe_one p, l⟩
theorem de_and {a b : Expr} {rest : List Expr} {pos : Pos} {w u : WE} (h : DE X a w) (h2 : DE X (.BoolOp .And (b :: rest) pos) u) : DE X (.BoolOp .And (a :: b :: rest) pos) (wAndV w u) := by
  obtain ⟨t, p, l⟩ := h
  obtain ⟨t2, p2, l2⟩ := h2
  refine ⟨_, pe_and p p2, fun W σ ρ ms Q k hK R O hw q => ?_⟩
  refine l W σ ρ ms _ _ hK R O hw fun W1 v r ms1 e1 O1 ok1 h1 => ?_
  split at h1
  · rename_i c
    cases ok1
    refine ⟨c, rfl, ?_⟩
    cases c with
    | true => exact l2 W1 σ ρ ms1 _ _ (e1.s.trans hK) (R.mono e1) O1 h1 fun W2 v b ms2 e2 O2 ok2 h2 => q W2 v b ms2 (e1.trans e2) O2 ok2 h2
    | false => exact q W1 _ (.bl false) ms1 e1 O1 (.bl _) h1
  · exact h1.elim
theorem de_or {a b : Expr} {rest : List Expr} {pos : Pos} {w u : WE} (h : DE X a w) (h2 : DE X (.BoolOp .Or (b :: rest) pos) u) : DE X (.BoolOp .Or (a :: b :: rest) pos) (wOrV w u) := by
  obtain ⟨t, p, l⟩ := h
  obtain ⟨t2, p2, l2⟩ := h2
  refine ⟨_, pe_or p p2, fun W σ ρ ms Q k hK R O hw q => ?_⟩
  refine l W σ ρ ms _ _ hK R O hw fun W1 v r ms1 e1 O1 ok1 h1 => ?_
  split at h1
  · rename_i c
    cases ok1
    refine ⟨c, rfl, ?_⟩
    cases c with
    | true => exact q W1 _ (.bl true) ms1 e1 O1 (.bl _) h1
    | false => exact l2 W1 σ ρ ms1 _ _ (e1.s.trans hK) (R.mono e1) O1 h1 fun W2 v b ms2 e2 O2 ok2 h2 => q W2 v b ms2 (e1.trans e2) O2 ok2 h2
  · exact h1.elim
theorem de_not {a : Expr} {pos : Pos} {w : WE} (h : DE X a w) : DE X (.UnaryOp .Not a pos) (wNotV w) := by
  obtain ⟨t, p, l⟩ := h
  refine ⟨_, pe_not p, fun W σ ρ ms Q k hK R O hw q => l W σ ρ ms _ _ hK R O hw fun W1 v r ms1 e1 O1 ok1 h1 => ?_⟩
  split at h1
  · rename_i c
    cases ok1
    exact ⟨c, rfl, q W1 _ (.bl (!c)) ms1 e1 O1 (.bl _) h1⟩
  · exact h1.elim
@[simp] def wIf (c : WT) (a b : WE) : WE := fun ρ ms k => c ρ ms fun t ms1 => if t = true then a ρ ms1 k else b ρ ms1 k
theorem de_if {c a b : Expr} {pos : Pos} {wc : WT} {wa wb : WE} (hc : DTt X c wc) (ha : DE X a wa) (hb : DE X b wb) : DE X (.IfExp c a b pos) (wIf wc wa wb) := by
  obtain ⟨t, p, l⟩ := hc
  obtain ⟨ta, pa, la⟩ := ha
  obtain ⟨tb, pb, lb⟩ := hb
  refine ⟨_, pe_ifExp p pa pb, fun W σ ρ ms Q k hK R O hw q => ?_⟩
  refine l W σ ρ ms _ _ hK R O hw fun W1 b ms1 e1 O1 h1 => ?_
  cases b with
  | true => exact la W1 σ ρ ms1 _ _ (e1.s.trans hK) (R.mono e1) O1 h1 fun W2 v b ms2 e2 O2 ok2 h2 => q W2 v b ms2 (e1.trans e2) O2 ok2 h2
  | false => exact lb W1 σ ρ ms1 _ _ (e1.s.trans hK) (R.mono e1) O1 h1 fun W2 v b ms2 e2 O2 ok2 h2 => q W2 v b ms2 (e1.trans e2) O2 ok2 h2
/-- a < b < c -/
@[simp] def wChain (w w' : WR2) (wa wb wc : WE) : WE := fun ρ ms k => wa ρ ms fun a ms1 => wb ρ ms1 fun b ms2 => w a b ms2 fun r ms3 => match r with
  | (.bl c) => if c = true then wc ρ ms3 fun z ms4 => w' b z ms4 k else k (.bl false) ms3
  | _ => False
theorem de_chain {op op' : CmpOp} {r r' : R2} {w w' : WR2} {a b c : Expr} {wa wb wc : WE} {pos : Pos} (ho : OpR X.X (compareOp op) r ∧ LR2 X.S r w) (ho' : OpR X.X (compareOp op') r' ∧ LR2 X.S r' w') (ha : DE X a wa) (hb : DE X b wb) (hc : DE X c wc) (hm : lastMarks [op, op'] [b, c] = false := by with_unfolding_all rfl) : DE X (.Compare a [op, op'] [b, c] pos) (wChain w w' wa wb wc) := by
  obtain ⟨ta, pa, la⟩ := ha
  obtain ⟨tb, pb, lb⟩ := hb
  obtain ⟨tc, pc, lc⟩ := hc
  refine ⟨_, pe_chain ho.1 ho'.1 pa pb pc hm, fun W σ ρ ms Q k hK R O hw q => ?_⟩
  refine la W σ ρ ms _ _ hK R O hw fun W1 x a ms1 e1 O1 ok1 h1 => lb W1 σ ρ ms1 _ _ (e1.s.trans hK) (R.mono e1) O1 h1 fun W2 y b ms2 e2 O2 ok2 h2 => ?_
  refine ho.2 W2 x y a b ms2 _ _ (e2.s.trans (e1.s.trans hK)) (up_v e2 ok1) ok2 O2 h2 fun W3 v r ms3 e3 O3 ok3 h3 => ?_
  have hK3 := e3.s.trans (e2.s.trans (e1.s.trans hK))
  split at h3
  · rename_i cc
    cases ok3
    refine ⟨cc, rfl, ?_⟩
    cases cc with
    | true => exact lc W3 σ ρ ms3 _ _ hK3 (((R.mono e1).mono e2).mono e3) O3 h3 fun W4 z zr ms4 e4 O4 ok4 h4 => ho'.2 W4 y z b zr ms4 _ _ (e4.s.trans hK3) (up_v e4 (up_v e3 ok2)) ok4 O4 h4 fun W5 v r ms5 e5 O5 ok5 h5 => q W5 v r ms5 ((((e1.trans e2).trans e3).trans e4).trans e5) O5 ok5 h5
    | false => exact q W3 _ (.bl false) ms3 ((e1.trans e2).trans e3) O3 (.bl _) h3
  · exact h3.elim
end
end Sy
namespace Sy
open PySem L2
section
variable {X : Cy} {pos : Pos}
/-! ## statements -/
@[simp] def wNext : WS := fun E ρ ms => E.nx ρ ms
@[simp] def wSeq (a b : WS) : WS := fun E ρ ms => a { E with nx := b E } ρ ms
theorem ls_seq {S : Sg} {t u : TS} {a b : WS} (h : LS S t a) (h' : LS S u b) : LS S (tSeq t u) (wSeq a b) := fun W σ ρ ms D E hK R O hw ok =>
  h W σ ρ ms _ _ hK R O hw ⟨fun W' σ' ρ' ms' e O' R' h1 => h' W' σ' ρ' ms' D E (e.s.trans hK) R' O' h1 (ok.mono e), ok.rt, ok.bk, ok.ct⟩
theorem dss_nil : DSs X [] wNext := ⟨_, pss_nil, fun W σ ρ ms D E hK R O hw ok => ok.nx W σ ρ ms (Ext.refl W) O R hw⟩
theorem dss_cons {st : Stmt} {rest : List Stmt} {a b : WS} (h : DS X st a) (h' : DSs X rest b) : DSs X (st :: rest) (wSeq a b) := by
  obtain ⟨t, p, l⟩ := h
  obtain ⟨t', p', l'⟩ := h'
  exact ⟨_, pss_cons p p', ls_seq l l'⟩
theorem dss_one {st : Stmt} {a : WS} (h : DS X st a) : DSs X [st] a := let ⟨t, p, l⟩ := h; ⟨t, pss_one p, l⟩
@[simp] def wNever : WS := fun _ _ _ => False
theorem ds_never {st : Stmt} : DS X st wNever := ⟨_, ps_never, fun W σ ρ ms D E hK R O hw ok => hw.elim⟩
theorem dss_never {sts : List Stmt} : DSs X sts wNever := ⟨_, pss_never, fun W σ ρ ms D E hK R O hw ok => hw.elim⟩
theorem ds_pass : DS X (.Pass pos) wNext := ⟨_, ps_pass, fun W σ ρ ms D E hK R O hw ok => ok.nx W σ ρ ms (Ext.refl W) O R hw⟩
@[simp] def wBreak : WS := fun E ρ ms => E.bk ρ ms
@[simp] def wCont : WS := fun E ρ ms => E.ct ρ ms
theorem ds_break : DS X (.Break pos) wBreak := ⟨_, ps_break, fun W σ ρ ms D E hK R O hw ok => ok.bk W σ ρ ms (Ext.refl W) O R hw⟩
theorem ds_cont : DS X (.Continue pos) wCont := ⟨_, ps_continue, fun W σ ρ ms D E hK R O hw ok => ok.ct W σ ρ ms (Ext.refl W) O R hw⟩
@[simp] def wDrop (we : WE) : WS := fun E ρ ms => we ρ ms fun _ ms1 => E.nx ρ ms1
theorem ds_expr {e : Expr} {we : WE} (h : DE X e we) (hs : swapsWith e none pos.line X.X.env = pure false := by rfl) : DS X (.Expr e pos) (wDrop we) := by
  obtain ⟨t, p, l⟩ := h
  exact ⟨_, ps_expr p hs, fun W σ ρ ms D E hK R O hw ok => l W σ ρ ms _ _ hK R O hw fun W1 v r ms1 e1 O1 ok1 h1 => ok.nx W1 σ ρ ms1 e1 O1 (R.mono e1) h1⟩
@[simp] def wRet (we : WE) : WS := fun E ρ ms => we ρ ms E.rt
theorem ds_ret {e : Expr} {we : WE} (h : DE X e we) : DS X (.Return (some e) pos) (wRet we) := by
  obtain ⟨t, p, l⟩ := h
  exact ⟨_, ps_ret p, fun W σ ρ ms D E hK R O hw ok => l W σ ρ ms _ _ hK R O hw fun W1 v r ms1 e1 O1 ok1 h1 => ok.rt W1 v r ms1 e1 O1 ok1 h1⟩
@[simp] def wRetN : WS := fun E _ ms => E.rt .non ms
theorem ds_retN : DS X (.Return none pos) wRetN := ⟨_, ps_retN, fun W σ ρ ms D E hK R O hw ok => ok.rt W .non .non ms (Ext.refl W) O .non hw⟩
@[simp] def wIfS (c : WT) (a b : WS) : WS := fun E ρ ms => c ρ ms fun t ms1 => if t = true then a E ρ ms1 else b E ρ ms1
theorem ds_if {c : Expr} {a b : List Stmt} {wc : WT} {wa wb : WS} (hc : DTt X c wc) (ha : DSs X a wa) (hb : DSs X b wb) : DS X (.If c a b pos) (wIfS wc wa wb) := by
  obtain ⟨t, p, l⟩ := hc
  obtain ⟨ta, pa, la⟩ := ha
  obtain ⟨tb, pb, lb⟩ := hb
  refine ⟨_, ps_if p pa pb, fun W σ ρ ms D E hK R O hw ok => l W σ ρ ms _ _ hK R O hw fun W1 b ms1 e1 O1 h1 => ?_⟩
  cases b with
  | true => exact la W1 σ ρ ms1 D E (e1.s.trans hK) (R.mono e1) O1 h1 (ok.mono e1)
  | false => exact lb W1 σ ρ ms1 D E (e1.s.trans hK) (R.mono e1) O1 h1 (ok.mono e1)
/-! ### targets, assignments -/
@[simp] def wgName (i : Nat) : WG := fun r ρ ms k => k (ρ.put i r) ms
theorem dg_name {i : Nat} {x : Str} (hN : X.X.N.Nodup) (hi : X.X.N[i]? = some x) (hx : Loc X.X.env.scope x) (hf : X.X.fn x = true ∨ X.X.env.scope.names.lookup x = some .local := by first | exact .inl rfl | exact .inr rfl | assumption) : DG X (.Name x pos) (wgName i) [i] :=
  ⟨_, pg_name hN hi hx hf, fun W σ ρ ms v r Q k hK R O ok h q => q W _ _ ms (Ext.refl W) O (R.set ok i) (by rw [List.length_set]) (fun j hj => by rw [List.getElem?_set_ne (fun e => hj (by simp [e]))]) h⟩
def WGs := List Dat → Env → Ms → (Env → Ms → Prop) → Prop
def LGs (S : Sg) (t : TGs) (w : WGs) (ss : List Nat) : Prop := ∀ (W : Wd) (σ : L2.St) (ρ : Env) (ms : Ms) (vs : List V) (ds : List Dat) (Q : L2.St → Hp → Prop) (k : Env → Ms → Prop), W.S = S → Rel W σ ρ → Own W ms → RvsOk W vs ds → w ds ρ ms k →
  (∀ W' σ' ρ' ms', Ext W W' → Own W' ms' → Rel W' σ' ρ' → σ'.length = σ.length → (∀ i, i ∉ ss → σ'[i]? = σ[i]?) → k ρ' ms' → Q σ' W'.H) → t vs σ W.H Q
def DGs (X : Cy) (es : List Expr) (w : WGs) (ss : List Nat) : Prop := ∃ t, PGs X.X es t ∧ LGs X.S t w ss
@[simp] def wgNil : WGs := fun ds ρ ms k => ds = [] ∧ k ρ ms
@[simp] def wgCons (w : WG) (u : WGs) : WGs := fun ds ρ ms k => match ds with
  | d :: r => w d ρ ms fun ρ' ms' => u r ρ' ms' k
  | [] => False
theorem dgs_nil : DGs X [] wgNil [] := ⟨_, pgs_nil, fun W σ ρ ms vs ds Q k hK R O h ⟨e, hk⟩ q => by
  subst e
  cases h
  exact ⟨rfl, q W σ ρ ms (Ext.refl W) O R rfl (fun _ _ => rfl) hk⟩⟩
theorem dgs_cons {e : Expr} {es : List Expr} {w : WG} {u : WGs} {ss ts : List Nat} (h : DG X e w ss) (h' : DGs X es u ts) (hs : (assignEach (e :: es) X.X.env).map (·.2) = assign e X.X.env :: (assignEach es X.X.env).map (·.2) := by rfl) : DGs X (e :: es) (wgCons w u) (ss ++ ts) := by
  obtain ⟨t, p, l⟩ := h
  obtain ⟨t', p', l'⟩ := h'
  refine ⟨_, pgs_cons p p' hs, fun W σ ρ ms vs ds Q k hK R O hd hw q => ?_⟩
  cases hd with
  | nil => exact hw.elim
  | cons hd hr =>
    refine ⟨_, _, rfl, l W σ ρ ms _ _ _ _ hK R O hd hw fun W1 σ1 ρ1 ms1 e1 O1 R1 n1 f1 h1 => ?_⟩
    refine l' W1 σ1 ρ1 ms1 _ _ _ _ (e1.s.trans hK) R1 O1 (up_vs e1 hr) h1 fun W2 σ2 ρ2 ms2 e2 O2 R2 n2 f2 h2 => ?_
    exact q W2 σ2 ρ2 ms2 (e1.trans e2) O2 R2 (n2.trans n1) (fun i hi => (f2 i fun z => hi (List.mem_append_right _ z)).trans (f1 i fun z => hi (List.mem_append_left _ z))) h2
@[simp] def wgTup (n : Nat) (u : WGs) : WG := fun r ρ ms k => match r with
  | .tup ds => ds.length = n ∧ u ds ρ ms k
  | _ => False
theorem dg_tup {es : List Expr} {kk : Nat} {u : WGs} {n : Nat} {ss : List Nat} (hc : X.X.calm = true) (h : DGs X es u ss) (hn : (assignEach es X.X.env).length = n := by rfl) (hst : (assignEach es X.X.env).findIdx? (·.1) = none := by rfl) : DG X (.Tuple es kk pos) (wgTup n u) ss := by
  obtain ⟨t, p, l⟩ := h
  refine ⟨_, pg_tup hc p hn hst, fun W σ ρ ms v r Q k hK R O ok hw q => ?_⟩
  unfold wgTup at hw
  split at hw
  · rename_i ds
    cases ok with
    | tup h1 h2 =>
      rw [show X.X.K = W.K from (congrArg Sg.K hK).symm]
      exact ⟨_, _, rfl, SqT.of (O.ex _ _ h1), by rw [h2.length]; exact hw.1, l W σ ρ ms _ _ _ _ hK R O h2 hw.2 q⟩
  · exact hw.elim
@[simp] def wAsg (we : WE) (wg : WG) : WS := fun E ρ ms => we ρ ms fun r ms1 => wg r ρ ms1 E.nx
theorem ls_asg {S : Sg} {te : TE} {g : TG} {we : WE} {wg : WG} {ss : List Nat} (l : LE S te we) (l' : LG S g wg ss) : LS S (tAsg te g) (wAsg we wg) := fun W σ ρ ms D E hK R O hw ok =>
  l W σ ρ ms _ _ hK R O hw fun W1 v r ms1 e1 O1 ok1 h1 => l' W1 σ ρ ms1 v r _ _ (e1.s.trans hK) (R.mono e1) O1 ok1 h1 fun W2 σ2 ρ2 ms2 e2 O2 R2 _ _ h2 => ok.nx W2 σ2 ρ2 ms2 (e1.trans e2) O2 R2 h2
theorem ds_asg {tg e : Expr} {we : WE} {wg : WG} {ss : List Nat} (h : DE X e we) (h' : DG X tg wg ss) (hs : swapsWithSole [tg] e pos.line X.X.env = pure false := by rfl) (hw : swappedStores [tg] e X.X.env = pure none := by rfl) (h1 : (assignEach [tg] X.X.env).map (·.2) = [assign tg X.X.env] := by rfl) : DS X (.Assign [tg] e pos) (wAsg we wg) := by
  obtain ⟨t, p, l⟩ := h
  obtain ⟨t', p', l'⟩ := h'
  exact ⟨_, ps_asg p p' hs hw h1, ls_asg l l'⟩
theorem ds_set {i : Nat} {x : Str} {e : Expr} {we : WE} {pos' : Pos} (hN : X.X.N.Nodup) (hi : X.X.N[i]? = some x) (hx : Loc X.X.env.scope x) (h : DE X e we) (hs : swapsWith e (some (.Name x pos')) pos.line X.X.env = pure false := by rfl) (hf : X.X.fn x = true ∨ X.X.env.scope.names.lookup x = some .local := by first | exact .inl rfl | exact .inr rfl | assumption) : DS X (.Assign [.Name x pos'] e pos) (wAsg we (wgName i)) := by
  obtain ⟨t, p, l⟩ := h
  exact ⟨_, ps_set hN hi hx p hs hf, ls_asg l (ss := [i]) fun W σ ρ ms v r Q k hK R O ok h q => q W _ _ ms (Ext.refl W) O (R.set ok i) (by rw [List.length_set]) (fun j hj => by rw [List.getElem?_set_ne (fun e => hj (by simp [e]))]) h⟩
@[simp] def wPar (i j : Nat) (wa : WA) : WS := fun E ρ ms => wa ρ ms fun rs ms1 => match rs with
  | [a, b] => E.nx ((ρ.put i a).put j b) ms1
  | _ => False
theorem ls_par {S : Sg} {i j : Nat} {ta : TA} {wa : WA} (l : LA S ta wa) : LS S (tPar i j ta) (wPar i j wa) := fun W σ ρ ms D E hK R O hw ok =>
  l W σ ρ ms _ _ hK R O hw fun W1 vs rs ms1 e1 O1 ok1 h1 => by
    split at h1
    · rename_i a b
      cases ok1 with
      | cons oa o2 =>
        cases o2 with
        | cons ob o3 =>
          cases o3
          exact ⟨_, _, rfl, ok.nx W1 _ _ ms1 e1 O1 (((R.mono e1).set oa i).set ob j) h1⟩
    · exact h1.elim
/-! ### loops -/
@[simp] def forW (wg : WG) (wb : WS) (E : WEnds) : List Dat → Env → Ms → Prop
  | [], ρ, ms => E.nx ρ ms
  | d :: ds, ρ, ms => wg d ρ ms fun ρ1 ms1 => wb { nx := forW wg wb E ds, ct := forW wg wb E ds, bk := E.nx, rt := E.rt } ρ1 ms1
@[simp] def wFor (wi : WI) (wg : WG) (wb : WS) : WS := fun E ρ ms => wi ρ ms fun ds ms1 => forW wg wb E ds ρ ms1
theorem ls_for {S : Sg} {ti : TI} {g : TG} {tb : TS} {wi : WI} {wg : WG} {wb : WS} {ss : List Nat} (li : LI S ti wi) (lg : LG S g wg ss) (lb : LS S tb wb) : LS S (tFor ti g tb) (wFor wi wg wb) := fun W σ ρ ms D E hK R O hw ok =>
  li W σ ρ ms _ _ hK R O hw fun W1 J ds ms1 e1 O1 wk h1 => by
    refine ⟨fun i m σ H => m = ds.length - i ∧ i ≤ ds.length ∧ ∃ W' ρ ms', H = W'.H ∧ Ext W1 W' ∧ Own W' ms' ∧ Rel W' σ ρ ∧ forW wg wb E (ds.drop i) ρ ms', ⟨ds.length, by simp, Nat.zero_le _, W1, ρ, ms1, rfl, Ext.refl _, O1, R.mono e1, h1⟩, ?_⟩
    rintro i m σ' H' ⟨rfl, hi, W', ρ', ms', rfl, e', O', R', hf⟩
    by_cases hlt : i < ds.length
    · have hdrop : ds.drop i = ds[i] :: ds.drop (i + 1) := List.drop_eq_getElem_cons hlt
      rw [hdrop] at hf
      have hget : ds[i]? = some ds[i] := List.getElem?_eq_getElem hlt
      refine .inr ⟨wk.goes W' ms' i e'.e0 O' hlt, fun σ H => ∃ W' ρ ms', H = W'.H ∧ Ext W1 W' ∧ Own W' ms' ∧ Rel W' σ ρ ∧ forW wg wb E (ds.drop (i + 1)) ρ ms', fun σ2 H2 h2 => ⟨ds.length - (i + 1), by omega, rfl, hlt, h2⟩, fun x H2 y => ?_⟩
      obtain ⟨W2, e2, O2, rfl, hd⟩ := wk.yields W' ms' i x H2 _ e'.e0 O' hget y
      refine lg W2 σ' ρ' ms' x ds[i] _ _ (e2.s.trans (e'.s.trans (e1.s.trans hK))) (R'.mono e2) O2 hd hf fun W3 σ3 ρ3 ms3 e3 O3 R3 _ _ h3 => ?_
      have e13 : Ext W1 W3 := (e'.trans e2).trans e3
      have again : ∀ W4 σ4 ρ4 ms4, Ext W3 W4 → Own W4 ms4 → Rel W4 σ4 ρ4 → forW wg wb E (ds.drop (i + 1)) ρ4 ms4 → ∃ W' ρ ms', W4.H = W'.H ∧ Ext W1 W' ∧ Own W' ms' ∧ Rel W' σ4 ρ ∧ forW wg wb E (ds.drop (i + 1)) ρ ms' := fun W4 σ4 ρ4 ms4 e4 O4 R4 h4 =>
        ⟨W4, _, _, rfl, e13.trans e4, O4, R4, h4⟩
      exact lb W3 σ3 ρ3 ms3 _ _ (e13.s.trans (e1.s.trans hK)) R3 O3 h3 ⟨again, fun W4 v r ms4 e4 O4 ok4 h4 => ok.rt W4 v r ms4 ((e1.trans e13).trans e4) O4 ok4 h4, fun W4 σ4 ρ4 ms4 e4 O4 R4 h4 => ok.nx W4 σ4 ρ4 ms4 ((e1.trans e13).trans e4) O4 R4 h4, again⟩
    · have hi' : i = ds.length := by omega
      subst hi'
      rw [List.drop_length] at hf
      exact .inl ⟨wk.stops W' ms' e'.e0 O', ok.nx W' σ' ρ' ms' (e1.trans e') O' R' hf⟩
theorem ds_for {tg iter : Expr} {body : List Stmt} {wi : WI} {wg : WG} {wb : WS} {ss : List Nat} (hp : PassesOwn (model X.X.prog X.X.w) X.X.A X.X.env X.X.xe) (hc : X.X.calm = true) (hi : DI X tg iter wi) (hg : DG X tg wg ss) (hb : DSs X body wb)
    (hs : ∀ x, foldedSetIterable iter X.X.env x = pure x := by intro _; rfl) : DS X (.For tg iter body [] pos) (wFor wi wg wb) := by
  obtain ⟨ti, pi, li⟩ := hi
  obtain ⟨tg', pg, lg⟩ := hg
  obtain ⟨tb, pb, lb⟩ := hb
  exact ⟨_, ps_for hp hc pi pg pb hs, ls_for li lg lb⟩
def whileW (wc : WT) (wb : WS) (E : WEnds) : Nat → Env → Ms → Prop
  | 0, _, _ => False
  | f + 1, ρ, ms => wc ρ ms fun b ms1 => if b = true then wb { nx := whileW wc wb E f, ct := whileW wc wb E f, bk := E.nx, rt := E.rt } ρ ms1 else E.nx ρ ms1
@[simp] def wWhile (wc : WT) (wb : WS) : WS := fun E ρ ms => ∃ f, whileW wc wb E f ρ ms
theorem ds_while {c : Expr} {body : List Stmt} {wc : WT} {wb : WS} (hp : PassesOwn (model X.X.prog X.X.w) X.X.A X.X.env X.X.xe) (hc : DTt X c wc) (hb : DSs X body wb) : DS X (.While c body [] pos) (wWhile wc wb) := by
  obtain ⟨tc, pc, lc⟩ := hc
  obtain ⟨tb, pb, lb⟩ := hb
  refine ⟨_, ps_while hp pc pb, fun W σ ρ ms D E hK R O ⟨f0, hw⟩ ok => ?_⟩
  refine ⟨fun m σ H => ∃ W' ρ ms', H = W'.H ∧ Ext W W' ∧ Own W' ms' ∧ Rel W' σ ρ ∧ whileW wc wb E m ρ ms', ⟨f0, W, ρ, ms, rfl, Ext.refl _, O, R, hw⟩, ?_⟩
  rintro m σ' H' ⟨W', ρ', ms', rfl, e', O', R', hf⟩
  cases m with
  | zero => exact hf.elim
  | succ f =>
    refine lc W' σ' ρ' ms' _ _ (e'.s.trans hK) R' O' hf fun W1 b ms1 e1 O1 h1 => ?_
    cases b with
    | true =>
      refine ⟨fun σ H => ∃ W' ρ ms', H = W'.H ∧ Ext W W' ∧ Own W' ms' ∧ Rel W' σ ρ ∧ whileW wc wb E f ρ ms', fun σ2 H2 h2 => ⟨f, Nat.lt_succ_self _, h2⟩, ?_⟩
      have e01 : Ext W W1 := e'.trans e1
      have again : ∀ W4 σ4 ρ4 ms4, Ext W1 W4 → Own W4 ms4 → Rel W4 σ4 ρ4 → whileW wc wb E f ρ4 ms4 → ∃ W' ρ ms', W4.H = W'.H ∧ Ext W W' ∧ Own W' ms' ∧ Rel W' σ4 ρ ∧ whileW wc wb E f ρ ms' := fun W4 σ4 ρ4 ms4 e4 O4 R4 h4 =>
        ⟨W4, _, _, rfl, e01.trans e4, O4, R4, h4⟩
      exact lb W1 σ' ρ' ms1 _ _ (e01.s.trans hK) (R'.mono e1) O1 h1 ⟨again, fun W4 v r ms4 e4 O4 ok4 h4 => ok.rt W4 v r ms4 (e01.trans e4) O4 ok4 h4, fun W4 σ4 ρ4 ms4 e4 O4 R4 h4 => ok.nx W4 σ4 ρ4 ms4 (e01.trans e4) O4 R4 h4, again⟩
    | false => exact ok.nx W1 σ' ρ' ms1 (e'.trans e1) O1 (R'.mono e1) h1
/-! ### what is walked -/
theorem walk_lst {W : Wd} {ms : Ms} {K : PySem.W.Frag} (O : Own W ms) {a : Addr} {xs : List V} {ds : List Dat} (h : W.G a = some (.lst xs)) (hd : RvsOk W xs ds) : WalkD W (Itl K a) ds := by
  have hH : ∀ W' ms', Ext0 W W' → Own W' ms' → W'.H a = some (.lst xs) := fun W' ms' e O' => O'.ex _ _ (e.ex _ _ h)
  refine ⟨fun W' ms' i e O' hi => ?_, fun W' ms' e O' => ⟨xs, SqL.of (hH W' ms' e O'), by rw [hd.length]; exact Nat.le_refl _⟩, fun W' ms' i x H' d e O' hget y => ?_⟩
  · obtain ⟨v, hv, _⟩ := hd.get (List.getElem?_eq_getElem hi)
    exact ⟨xs, v, SqL.of (hH W' ms' e O'), hv⟩
  · obtain ⟨rfl, y⟩ := y
    have hx := y xs (SqL.of (hH W' ms' e O'))
    obtain ⟨v, hv, ok⟩ := hd.get hget
    rw [hx] at hv; cases hv
    exact ⟨W', Ext.refl _, O', rfl, low_v e.low ok⟩
theorem walk_tp {W : Wd} {ms : Ms} {K : PySem.W.Frag} (O : Own W ms) {a : Addr} {xs : List V} {ds : List Dat} (h : W.G a = some (.tup xs)) (hd : RvsOk W xs ds) : WalkD W (Itt K a) ds := by
  have hH : ∀ W' ms', Ext0 W W' → Own W' ms' → W'.H a = some (.tup xs) := fun W' ms' e O' => O'.ex _ _ (e.ex _ _ h)
  refine ⟨fun W' ms' i e O' hi => ?_, fun W' ms' e O' => ⟨xs, SqT.of (hH W' ms' e O'), by rw [hd.length]; exact Nat.le_refl _⟩, fun W' ms' i x H' d e O' hget y => ?_⟩
  · obtain ⟨v, hv, _⟩ := hd.get (List.getElem?_eq_getElem hi)
    exact ⟨xs, v, SqT.of (hH W' ms' e O'), hv⟩
  · obtain ⟨rfl, y⟩ := y
    have hx := y xs (SqT.of (hH W' ms' e O'))
    obtain ⟨v, hv, ok⟩ := hd.get hget
    rw [hx] at hv; cases hv
    exact ⟨W', Ext.refl _, O', rfl, low_v e.low ok⟩
/-- a list, a tuple -/
@[simp] def wiSeq (we : WE) : WI := fun ρ ms k => we ρ ms fun r ms1 => match r with
  | .lst ds => k ds ms1
  | .tup ds => k ds ms1
  | _ => False
def iSeqA (K : PySem.W.Frag) (tl : TE) : TI := fun σ H R => tl σ H fun x H1 => ∃ a, x = .ref a ∧ (((∃ xs, SqL K H1 a xs) ∧ R (Itl K a) H1) ∨ ((∃ xs, SqT K H1 a xs) ∧ R (Itt K a) H1))
theorem pi_seqA {tg l : Expr} {tl : TE} (hl : PE X.X l tl) : PI X.X tg l (iSeqA X.X.K tl) := by
  refine ⟨fun pins s σ H R I h => ?_⟩
  refine thn (hl.run pins s σ H _ I h) fun v s1 ⟨x, H1, I1, r1, q1⟩ => ?_
  obtain ⟨a, e, q1⟩ := q1
  subst e
  cases r1
  rcases q1 with ⟨⟨xs, hq⟩, q⟩ | ⟨⟨xs, hq⟩, q⟩
  · obtain ⟨its, rv, p, hz⟩ := I1.list hq
    refine wpAny_pyIter_list p.isList ?_
    refine ⟨s1.heap.objs.size, [s1.heap.objs.size], _, _, H1, rfl, I1.kept (t' := s1.toks) fun b o e => Heap.get?_push_of_some _ e, turn_list a _, ⟨_, Heap.get?_push_size _ rfl, rfl, rfl⟩, fun b hb => ?_, q⟩
    have e : b = s1.heap.objs.size := by simpa using hb
    subst e
    exact I1.fpOk (Nat.le_refl _) (I1.hok.fresh (Nat.le_refl _))
  · obtain ⟨its, rv, p, hz⟩ := I1.tuple hq
    refine wpAny_pyIter_tuple (show s1.heap.IsTuple a its.toArray from p) ?_
    refine ⟨s1.heap.objs.size, [s1.heap.objs.size], _, _, H1, rfl, I1.kept (t' := s1.toks) fun b o e => Heap.get?_push_of_some _ e, turn_tuple a _, ⟨_, Heap.get?_push_size _ rfl, rfl, rfl⟩, fun b hb => ?_, q⟩
    have e : b = s1.heap.objs.size := by simpa using hb
    subst e
    exact I1.fpOk (Nat.le_refl _) (I1.hok.fresh (Nat.le_refl _))
theorem di_seq {tg l : Expr} {we : WE} (h : DE X l we) : DI X tg l (wiSeq we) := by
  obtain ⟨t, p, le⟩ := h
  refine ⟨_, pi_seqA p, fun W σ ρ ms R k hK Rl O hw q => ?_⟩
  refine le W σ ρ ms _ _ hK Rl O hw fun W1 v r ms1 e1 O1 ok1 h1 => ?_
  split at h1
  · rename_i ds
    cases ok1 with
    | lst h2 h3 => exact ⟨_, rfl, .inl ⟨⟨_, SqL.of (O1.ex _ _ h2)⟩, q W1 _ ds ms1 e1 O1 (walk_lst O1 h2 h3) h1⟩⟩
  · rename_i ds
    cases ok1 with
    | tup h2 h3 => exact ⟨_, rfl, .inr ⟨⟨_, SqT.of (O1.ex _ _ h2)⟩, q W1 _ ds ms1 e1 O1 (walk_tp O1 h2 h3) h1⟩⟩
  · exact h1.elim
/-- range(n) -/
def rngD (lo : Int) (n : Nat) : List Dat := (List.range n).map fun (i : Nat) => .int (lo + (i : Int))
theorem walk_rng {W : Wd} {lo : Int} {n : Nat} : WalkD W (Itr lo n) (rngD lo n) := by
  have hl : (rngD lo n).length = n := by unfold rngD; rw [List.length_map, List.length_range]
  refine ⟨fun W' ms' i e O' hi => by rw [hl] at hi; exact hi, fun W' ms' e O' => by rw [hl]; exact Nat.le_refl _, fun W' ms' i x H' d e O' hget y => ?_⟩
  obtain ⟨rfl, rfl⟩ := y
  have hi : i < n := by
    have := (List.getElem?_eq_some_iff.mp hget).1
    rw [hl] at this; exact this
  have hd : d = .int (lo + (i : Int)) := by
    unfold rngD at hget
    rw [List.getElem?_map, List.getElem?_range hi] at hget
    exact (Option.some.inj hget).symm
  subst hd
  exact ⟨W', Ext.refl _, O', rfl, .int _⟩
@[simp] def wiRng1 (wa : WA) : WI := fun ρ ms k => wa ρ ms fun rs ms1 => match rs with
  | [.int j] => -(2 ^ 62) ≤ j ∧ j < 2 ^ 62 ∧ k (rngD 0 j.toNat) ms1
  | _ => False
theorem di_range1 {tg a : Expr} {wa : WA} {p : Pos} (hg : Gl X.X "range") (hm : X.X.mg "range" = none) (ha : DA X [a] wa) (hs : starEach [a] X.X.env = [(false, eval a X.X.env)] := by rfl) : DI X tg (.Call (.Name "range" p) [a] [] pos) (wiRng1 wa) := by
  obtain ⟨t, pp, l⟩ := ha
  refine ⟨_, pi_range1 hg hm pp hs, fun W σ ρ ms R k hK Rl O hw q => l W σ ρ ms _ _ hK Rl O hw fun W1 vs rs ms1 e1 O1 ok1 h1 => ?_⟩
  split at h1
  · rename_i j
    cases ok1 with
    | cons o1 o2 =>
      cases o2
      cases o1
      exact ⟨j, rfl, h1.1, h1.2.1, q W1 _ _ ms1 e1 O1 walk_rng h1.2.2⟩
  · exact h1.elim
@[simp] def wiRng2 (wa : WA) : WI := fun ρ ms k => wa ρ ms fun rs ms1 => match rs with
  | [.int i, .int j] => (-(2 ^ 62) ≤ i ∧ i < 2 ^ 62 ∧ -(2 ^ 62) ≤ j ∧ j < 2 ^ 62) ∧ k (rngD i (j - i).toNat) ms1
  | _ => False
end
end Sy
namespace Sy
open PySem L2
/-! ## within a comprehension nothing is let out -/
def never : WX := fun _ _ _ _ => False
def neverX : KX := fun _ _ _ _ => False
/-- the same world with another wish -/
def Wd.wish (W : Wd) (Z : WX) : Wd := { W with S := { W.S with Z := Z } }
theorem wish_low {W : Wd} {Z : WX} : Low W (W.wish Z) := ⟨rfl, Same.refl _, fun _ _ h => h⟩
theorem wish_e0 {W : Wd} {Z : WX} : Ext0 W (W.wish Z) := ⟨rfl, Same.refl _, fun _ _ h => h, fun _ _ _ h => h⟩
theorem Own.wish {W : Wd} {ms : Ms} (O : Own W ms) {Z : WX} : Own (W.wish Z) ms :=
  ⟨O.ex, O.len, O.inj, O.all, O.px, O.pg, O.pl, fun i c e n => let ⟨a, o, h1, h2, h3, h4⟩ := O.cell i c e n; ⟨a, o, h1, h2, h3, h4.low wish_low⟩, O.tb⟩
theorem never_x {W : Wd} : XOk W neverX := fun _ _ _ _ _ _ _ _ _ _ _ _ _ z => z.elim
def Sg.nv (S : Sg) : Sg := { S with Z := never }
@[simp] def wipeE (ρ : Env) (vs : List Nat) : Env := ⟨vs.foldr (fun v sl => sl.set v none) ρ.sl, neverX, ρ.xc, ρ.xf⟩
theorem RelS.wipe {W : Wd} {σ : L2.St} {ρ : Sl} (R : RelS W σ ρ) : ∀ vs : List Nat, RelS W (L2.wipe σ vs) (vs.foldr (fun v sl => sl.set v none) ρ)
  | [] => R
  | v :: vs => RelS.unset v (RelS.wipe R vs)
theorem wipe_get {σ : L2.St} {i : Nat} : ∀ {vs : List Nat}, (L2.wipe σ vs)[i]? = if i ∈ vs then (if i < σ.length then some none else none) else σ[i]?
  | [] => by simp [L2.wipe]
  | v :: vs => by
    unfold L2.wipe
    by_cases h : v = i
    · subst h
      rw [if_pos List.mem_cons_self]
      by_cases hl : v < σ.length
      · rw [if_pos hl, List.getElem?_set_self (by rw [wipe_length]; exact hl)]
      · rw [if_neg hl, List.getElem?_eq_none (by rw [List.length_set, wipe_length]; omega)]
    · rw [List.getElem?_set_ne h, wipe_get]
      by_cases h2 : i ∈ vs
      · rw [if_pos h2, if_pos (List.mem_cons_of_mem _ h2)]
      · rw [if_neg h2, if_neg (by intro q; rcases List.mem_cons.mp q with z | z; exact h z.symm; exact h2 z)]
theorem wipe_same {σ σ' : L2.St} {vs ss : List Nat} (hs : ∀ i ∈ ss, i ∈ vs) (hl : σ'.length = (L2.wipe σ vs).length) (h : ∀ i, i ∉ ss → σ'[i]? = (L2.wipe σ vs)[i]?) : L2.wipe σ' vs = L2.wipe σ vs := by
  rw [wipe_length] at hl
  apply List.ext_getElem?
  intro i
  rw [wipe_get, wipe_get, hl]
  by_cases hi : i ∈ vs
  · rw [if_pos hi, if_pos hi]
  · rw [if_neg hi, if_neg hi, h i fun z => hi (hs i z), wipe_get, if_neg hi]
theorem upd_upd' {H : Hp} {D : Addr} {o u : HO} : upd (upd H D o) D u = upd H D u := upd_upd
/-- a thing D that is held from W1 on -/
structure Held (W1 W' : Wd) (D : Addr) (o : HO) : Prop where
  new : W1.H D = none
  gn : W1.G D = none
  pn : W1.P D = none
  e0 : Ext0 W1 W'
  p : W'.P = upd W1.P D o
theorem Held.at {W1 W' : Wd} {D : Addr} {o : HO} {ms : Ms} (h : Held W1 W' D o) (O : Own W' ms) : W'.H D = some o := O.px _ _ (by rw [h.p]; exact upd_same)
theorem Held.g {W1 W' : Wd} {D : Addr} {o : HO} {ms : Ms} (h : Held W1 W' D o) (O : Own W' ms) : W'.G D = none := O.pg _ o (by rw [h.p]; exact upd_same)
theorem Held.l {W1 W' : Wd} {D : Addr} {o : HO} {ms : Ms} (h : Held W1 W' D o) (O : Own W' ms) : ∀ (i : Nat) a, W'.A[i]? = some a → a ≠ D := fun i a ha z => by
  have := O.pl i a ha
  rw [h.p, z, upd_same] at this; cases this
theorem Held.on {W1 W' W2 : Wd} {D : Addr} {o : HO} (h : Held W1 W' D o) (e : Ext W' W2) : Held W1 W2 D o := ⟨h.new, h.gn, h.pn, h.e0.trans e.e0, e.p.trans h.p⟩
/-- D is written -/
theorem Held.put {W1 W' : Wd} {D : Addr} {o u : HO} {ms : Ms} (h : Held W1 W' D o) (O : Own W' ms) : Held W1 (W'.hold D u) D u ∧ Own (W'.hold D u) ms := by
  refine ⟨⟨h.new, h.gn, h.pn, ⟨h.e0.k, h.e0.ex, h.e0.adr, fun a ob v e => ?_⟩, ?_⟩, O.hold (h.g O) (h.l O)⟩
  · show upd W'.H D u a = _
    rw [upd_ne (ne_of_none e h.new)]; exact h.e0.frz a ob v e
  · show upd W'.P D u = _
    rw [h.p, upd_upd]
theorem Held.start {W1 W0 : Wd} {D : Addr} {o : HO} {ms : Ms} (O1 : Own W1 ms) (hD : W1.H D = none) : Held W1 (W1.hold D o) D o ∧ Own (W1.hold D o) ms := by
  refine ⟨⟨hD, O1.gnone hD, O1.pnone hD, ⟨rfl, Same.refl _, fun _ _ x => x, fun a ob v e => ?_⟩, rfl⟩, O1.hold (O1.gnone hD) fun i a ha => O1.fresh hD ha⟩
  show upd W1.H D o a = _
  rw [upd_ne (ne_of_none e hD)]; exact e
/-- behind: it stays as it is -/
def Wd.laid (W' : Wd) (S : Sg) (P : Hp) (D : Addr) (o : HO) : Wd := { W' with S := S, P := P, G := upd W'.G D o, H := upd W'.H D o }
theorem Held.lay {W1 W' : Wd} {D : Addr} {o u : HO} {ms : Ms} (h : Held W1 W' D o) (O : Own W' ms) (hk : W'.K = W1.K) : Ext W1 (W'.laid W1.S W1.P D u) ∧ Own (W'.laid W1.S W1.P D u) ms ∧ Low W' (W'.laid W1.S W1.P D u) := by
  have g := h.g O
  have low : Low W' (W'.laid W1.S W1.P D u) := ⟨hk.symm, same_new g, fun _ _ x => x⟩
  have pD : ∀ a v, W1.P a = some v → a ≠ D := fun a v e => ne_of_none e h.pn
  have pW : ∀ a v, W1.P a = some v → W'.P a = some v := fun a v e => by rw [h.p, upd_ne (pD a v e)]; exact e
  refine ⟨⟨rfl, h.e0.ex.trans (same_new g), h.e0.adr, fun a ob v e => ?_, rfl⟩, ⟨fun a v e => ?_, O.len, O.inj, fun i a e => ?_, fun a v e => ?_, fun a v e => ?_, fun i a e => ?_, fun i c e n => ?_, fun i p q e => by show W'.A[i]? = some (tabP W1.S.K p); rw [← show W'.S.K = W1.S.K from hk]; exact O.tb i p q e⟩, low⟩
  · show upd W'.H D u a = _
    rw [upd_ne (ne_of_none e h.new)]; exact h.e0.frz a ob v e
  · show upd W'.H D u a = some v
    by_cases z : a = D
    · subst z; rw [show (W'.laid W1.S W1.P a u).G a = some u from upd_same] at e; cases e; exact upd_same
    · rw [upd_ne z]; exact O.ex a v (upd_back z e)
  · obtain ⟨v, hv⟩ := O.all i a e
    exact ⟨v, by show upd W'.H D u a = _; rw [upd_ne (h.l O i a e)]; exact hv⟩
  · show upd W'.H D u a = some v
    rw [upd_ne (pD a v e)]; exact O.px a v (pW a v e)
  · show upd W'.G D u a = none
    rw [upd_ne (pD a v e)]; exact O.pg a v (pW a v e)
  · have := O.pl i a e
    rw [h.p, upd_ne (h.l O i a e)] at this; exact this
  · obtain ⟨a, v, ha, hg, hv, k⟩ := O.cell i c e n
    have z := h.l O i a ha
    exact ⟨a, v, ha, by show upd W'.G D u a = none; rw [upd_ne z]; exact hg, by show upd W'.H D u a = _; rw [upd_ne z]; exact hv, k.low low⟩
/-- behind: it has a label -/
def Wd.labl (W' : Wd) (S : Sg) (P : Hp) (D : Addr) (o : HO) : Wd := { W' with S := S, P := P, A := W'.A ++ [D], H := upd W'.H D o }
theorem Held.take {W1 W' : Wd} {D : Addr} {o u : HO} {ms : Ms} {c : Cell} (h : Held W1 W' D o) (O : Own W' ms) (hk : W'.K = W1.K) (hc : CObj (W'.labl W1.S W1.P D u) c u) (hnt : ∀ P q, c ≠ .tab P q := by intro _ _ z; cases z) : Ext W1 (W'.labl W1.S W1.P D u) ∧ Own (W'.labl W1.S W1.P D u) (ms ++ [c]) ∧ RvOk (W'.labl W1.S W1.P D u) (.ref D) (.own ms.length) := by
  have g := h.g O
  have adr : ∀ (i : Nat) a, W'.A[i]? = some a → (W'.A ++ [D])[i]? = some a := fun i a e => by rw [List.getElem?_append_left (List.getElem?_eq_some_iff.mp e).1]; exact e
  have low : Low W' (W'.labl W1.S W1.P D u) := ⟨hk.symm, Same.refl _, adr⟩
  have pD : ∀ a v, W1.P a = some v → a ≠ D := fun a v e => ne_of_none e h.pn
  have pW : ∀ a v, W1.P a = some v → W'.P a = some v := fun a v e => by rw [h.p, upd_ne (pD a v e)]; exact e
  have at_ : ∀ {i : Nat} {a : Addr}, (W'.A ++ [D])[i]? = some a → (W'.A[i]? = some a) ∨ (i = W'.A.length ∧ a = D) := fun {i a} e => by
    by_cases z : i < W'.A.length
    · rw [List.getElem?_append_left z] at e; exact .inl e
    · have hi : i = W'.A.length := by
        have := (List.getElem?_eq_some_iff.mp e).1
        rw [List.length_append, List.length_singleton] at this; omega
      subst hi
      rw [List.getElem?_append_right (Nat.le_refl _), Nat.sub_self] at e
      cases e
      exact .inr ⟨rfl, rfl⟩
  refine ⟨⟨rfl, h.e0.ex, fun i a e => adr i a (h.e0.adr i a e), fun a ob v e => ?_, rfl⟩, ⟨fun a v e => ?_, by show (W'.A ++ [D]).length = _; rw [List.length_append, List.length_append, O.len]; rfl, fun i j a e1 e2 => ?_, fun i a e => ?_, fun a v e => ?_, fun a v e => O.pg a v (pW a v e), fun i a e => ?_, fun i c' e n => ?_, fun i P q e => ?_⟩, ?_⟩
  · show upd W'.H D u a = _
    rw [upd_ne (ne_of_none e h.new)]; exact h.e0.frz a ob v e
  · show upd W'.H D u a = some v
    rw [upd_ne (ne_of_none e g)]; exact O.ex a v e
  · rcases at_ e1 with e1 | ⟨rfl, rfl⟩ <;> rcases at_ e2 with e2 | ⟨rfl, q⟩
    · exact O.inj i j a e1 e2
    · exact absurd q (h.l O i a e1)
    · exact absurd rfl (h.l O _ _ e2)
    · rfl
  · rcases at_ e with e | ⟨_, rfl⟩
    · obtain ⟨v, hv⟩ := O.all i a e
      exact ⟨v, by show upd W'.H D u a = _; rw [upd_ne (h.l O i a e)]; exact hv⟩
    · exact ⟨u, upd_same⟩
  · show upd W'.H D u a = some v
    rw [upd_ne (pD a v e)]; exact O.px a v (pW a v e)
  · rcases at_ e with e | ⟨_, rfl⟩
    · have := O.pl i a e
      rw [h.p, upd_ne (h.l O i a e)] at this; exact this
    · exact h.pn
  · by_cases z : i < ms.length
    · rw [List.getElem?_append_left z] at e
      obtain ⟨a, v, ha, hg, hv, k⟩ := O.cell i c' e n
      exact ⟨a, v, adr i a ha, hg, by show upd W'.H D u a = _; rw [upd_ne (h.l O i a ha)]; exact hv, k.low low⟩
    · have hi : i = ms.length := by
        have := (List.getElem?_eq_some_iff.mp e).1
        rw [List.length_append, List.length_singleton] at this; omega
      subst hi
      rw [List.getElem?_append_right (Nat.le_refl _), Nat.sub_self] at e
      cases e
      refine ⟨D, u, ?_, g, upd_same, hc⟩
      show (W'.A ++ [D])[ms.length]? = _
      rw [List.getElem?_append_right (by rw [O.len]; exact Nat.le_refl _), O.len, Nat.sub_self]; rfl
  · by_cases z : i < ms.length
    · rw [List.getElem?_append_left z] at e
      have := adr i _ (O.tb i P q e)
      rw [show W'.S.K = W1.S.K from hk] at this
      exact this
    · have hi : i = ms.length := by
        have := (List.getElem?_eq_some_iff.mp e).1
        rw [List.length_append, List.length_singleton] at this; omega
      subst hi
      rw [List.getElem?_append_right (Nat.le_refl _), Nat.sub_self] at e
      exact absurd (Option.some.inj e) (hnt P q)
  · exact .own (by show (W'.A ++ [D])[ms.length]? = _; rw [← O.len, List.getElem?_append_right (Nat.le_refl _), Nat.sub_self]; rfl)
/-! ## comprehensions -/
@[simp] def lcW (wg : WG) (wt : WT) (we : WE) (ρ : Env) (k : List Dat → Ms → Prop) : List Dat → List Dat → Ms → Prop
  | [], acc, ms => k acc ms
  | d :: ds, acc, ms => wg d ρ ms fun ρ1 ms1 => wt ρ1 ms1 fun b ms2 => if b = true then we ρ1 ms2 fun y ms3 => acc.length < sizeLine ∧ lcW wg wt we ρ k ds (acc ++ [y]) ms3 else lcW wg wt we ρ k ds acc ms2
@[simp] def wLc (wi : WI) (wg : WG) (wt : WT) (we : WE) (vs : List Nat) : WE := fun ρ ms k => wi ρ ms fun ds ms1 => lcW wg wt we (wipeE ρ vs) (fun acc ms2 => k (.lst acc) ms2) ds [] ms1
@[simp] def wLcO (wi : WI) (wg : WG) (wt : WT) (we : WE) (vs : List Nat) : WE := fun ρ ms k => wi ρ ms fun ds ms1 => lcW wg wt we (wipeE ρ vs) (fun acc ms2 => k (.own ms2.length) (ms2 ++ [.lst acc])) ds [] ms1
theorem lc_go {S : Sg} {ti : TI} {g : TG} {tt : TT} {te : TE} {wi : WI} {wg : WG} {wt : WT} {we : WE} {vs ss : List Nat} (hss : ∀ i ∈ ss, i ∈ vs) (li : LI S ti wi) (lg : LG (S.nv) g wg ss) (lt : LT (S.nv) tt wt) (le : LE (S.nv) te we)
    (W : Wd) (σ : L2.St) (ρ : Env) (ms : Ms) (Q : VK) (kf : List Dat → Ms → Prop) (hK : W.S = S) (R : Rel W σ ρ) (O : Own W ms) (hw : wi ρ ms fun ds ms1 => lcW wg wt we (wipeE ρ vs) kf ds [] ms1)
    (q : ∀ W1 W' ms' D xs acc, Ext W W1 → Held W1 W' D (.lst xs) → W'.K = W1.K → Own W' ms' → RvsOk W' xs acc → kf acc ms' → Q (.ref D) W'.H) : tLc ti g tt te vs σ W.H Q := by
  refine li W σ ρ ms _ _ hK R O hw fun W1 J ds ms1 e1 O1 wk h1 => ?_
  intro D hD
  have hS1 : W1.S = S := e1.s.trans hK
  obtain ⟨hd0, Oh0⟩ := Held.start (W0 := W1) (o := .lst []) O1 hD
  refine ⟨fun i m H => m = ds.length - i ∧ i ≤ ds.length ∧ ∃ W' ms' xs acc, H = W'.H ∧ W'.S = (S.nv) ∧ Held W1 W' D (.lst xs) ∧ Own W' ms' ∧ RvsOk W' xs acc ∧ lcW wg wt we (wipeE ρ vs) kf (ds.drop i) acc ms',
    ⟨ds.length, by simp, Nat.zero_le _, (W1.hold D (.lst [])).wish never, ms1, [], [], rfl, by show ({ W1.S with Z := never } : Sg) = _; rw [hS1]; rfl, ⟨hd0.new, hd0.gn, hd0.pn, hd0.e0.trans wish_e0, hd0.p⟩, Oh0.wish, .nil, h1⟩, ?_⟩
  rintro i m H' ⟨rfl, hi, W', ms', xs, acc, rfl, hS, hh, O', hacc, hf⟩
  have hk' : W'.K = W1.K := by show W'.S.K = W1.S.K; rw [hS, hS1]; rfl
  by_cases hlt : i < ds.length
  · rw [List.drop_eq_getElem_cons hlt] at hf
    refine .inr ⟨wk.goes W' ms' i hh.e0 O' hlt, fun H => ∃ W' ms' xs acc, H = W'.H ∧ W'.S = (S.nv) ∧ Held W1 W' D (.lst xs) ∧ Own W' ms' ∧ RvsOk W' xs acc ∧ lcW wg wt we (wipeE ρ vs) kf (ds.drop (i + 1)) acc ms', fun H2 h2 => ⟨ds.length - (i + 1), by omega, rfl, hlt, h2⟩, fun x H2 y => ?_⟩
    obtain ⟨W2, e2, O2, rfl, hd⟩ := wk.yields W' ms' i x H2 _ hh.e0 O' (List.getElem?_eq_getElem hlt) y
    have RS : RelS W2 (L2.wipe σ vs) (wipeE ρ vs).sl := (((R.sl.low e1.low).low hh.e0.low).low e2.low).wipe vs
    refine lg W2 (L2.wipe σ vs) (wipeE ρ vs) ms' x ds[i] _ _ (e2.s.trans hS) ⟨RS, never_x, ((R.hd.low e1.low (by rw [e1.s])).low (hh.e0.low) (by rw [hS, hS1]; rfl)).low e2.low (by rw [e2.s])⟩ O2 hd hf fun W3 σ3 ρ3 ms3 e3 O3 R3 n3 f3 h3 => ?_
    refine ⟨wipe_same hss n3 f3, ?_⟩
    refine lt W3 σ3 ρ3 ms3 _ _ (e3.s.trans (e2.s.trans hS)) R3 O3 h3 fun W4 b ms4 e4 O4 h4 => ?_
    have e24 : Ext W' W4 := (e2.trans e3).trans e4
    cases b with
    | false =>
      rw [if_neg Bool.false_ne_true] at h4 ⊢
      exact ⟨W4, ms4, xs, acc, rfl, e24.s.trans hS, hh.on e24, O4, up_vs e24 hacc, h4⟩
    | true =>
      rw [if_pos rfl] at h4 ⊢
      refine le W4 σ3 ρ3 ms4 _ _ (e24.s.trans hS) (R3.mono e4) O4 h4 fun W5 v r ms5 e5 O5 ok5 h5 => ?_
      have e25 : Ext W' W5 := e24.trans e5
      have hh5 := hh.on e25
      have ha5 := up_vs e25 hacc
      obtain ⟨hh6, O6⟩ := hh5.put (u := .lst (xs ++ [v])) O5
      refine ⟨xs, hh5.at O5, by rw [ha5.length]; exact h5.1, W5.hold D (.lst (xs ++ [v])), ms5, xs ++ [v], acc ++ [r], rfl, e25.s.trans hS, hh6, O6, ?_, h5.2⟩
      exact low_vs hold_low (Dts.append ha5 (.cons ok5 .nil))
  · have hi' : i = ds.length := by omega
    subst hi'
    rw [List.drop_length] at hf
    exact .inl ⟨wk.stops W' ms' hh.e0 O', q W1 W' ms' D xs acc e1 hh hk' O' hacc hf⟩
theorem upd_id {H : Hp} {D : Addr} {o : HO} (h : H D = some o) : upd H D o = H := by
  funext b; unfold upd; split
  · rename_i e; rw [e, h]
  · rfl
theorem le_lc {S : Sg} {ti : TI} {g : TG} {tt : TT} {te : TE} {wi : WI} {wg : WG} {wt : WT} {we : WE} {vs ss : List Nat} (hss : ∀ i ∈ ss, i ∈ vs) (li : LI S ti wi) (lg : LG (S.nv) g wg ss) (lt : LT (S.nv) tt wt) (le : LE (S.nv) te we) : LE S (tLc ti g tt te vs) (wLc wi wg wt we vs) :=
  fun W σ ρ ms Q k hK R O hw q => lc_go hss li lg lt le W σ ρ ms Q _ hK R O hw fun W1 W' ms' D xs acc e1 hh hk O' ha hkf => by
    obtain ⟨e, O2, low⟩ := hh.lay (u := .lst xs) O' hk
    have := q (W'.laid W1.S W1.P D (.lst xs)) (.ref D) (.lst acc) ms' (e1.trans e) O2 (.lst upd_same (low_vs low ha)) hkf
    have z : (W'.laid W1.S W1.P D (.lst xs)).H = W'.H := upd_id (hh.at O')
    rw [z] at this; exact this
theorem le_lcO {S : Sg} {ti : TI} {g : TG} {tt : TT} {te : TE} {wi : WI} {wg : WG} {wt : WT} {we : WE} {vs ss : List Nat} (hss : ∀ i ∈ ss, i ∈ vs) (li : LI S ti wi) (lg : LG (S.nv) g wg ss) (lt : LT (S.nv) tt wt) (le : LE (S.nv) te we) : LE S (tLc ti g tt te vs) (wLcO wi wg wt we vs) :=
  fun W σ ρ ms Q k hK R O hw q => lc_go hss li lg lt le W σ ρ ms Q _ hK R O hw fun W1 W' ms' D xs acc e1 hh hk O' ha hkf => by
    have low : Low W' (W'.labl W1.S W1.P D (.lst xs)) := ⟨hk.symm, Same.refl _, fun i a e => by show (W'.A ++ [D])[i]? = some a; rw [List.getElem?_append_left (List.getElem?_eq_some_iff.mp e).1]; exact e⟩
    obtain ⟨e, O2, ok⟩ := hh.take (u := .lst xs) (c := .lst acc) O' hk ⟨xs, rfl, low_vs low ha⟩
    have := q (W'.labl W1.S W1.P D (.lst xs)) (.ref D) (.own ms'.length) _ (e1.trans e) O2 ok hkf
    have z : (W'.labl W1.S W1.P D (.lst xs)).H = W'.H := upd_id (hh.at O')
    rw [z] at this; exact this
/-! ## one reading for each -/
def teOf (S : Sg) (w : WE) : TE := fun σ H Q => ∃ (W : Wd) (ρ : Env) (ms : Ms) (k : KR), W.H = H ∧ W.S = S ∧ Rel W σ ρ ∧ Own W ms ∧ w ρ ms k ∧ ∀ W' v r ms', Ext W W' → Own W' ms' → RvOk W' v r → k r ms' → Q v W'.H
def ttOf (S : Sg) (w : WT) : TT := fun σ H Q => ∃ (W : Wd) (ρ : Env) (ms : Ms) (k : Bool → Ms → Prop), W.H = H ∧ W.S = S ∧ Rel W σ ρ ∧ Own W ms ∧ w ρ ms k ∧ ∀ W' b ms', Ext W W' → Own W' ms' → k b ms' → Q b W'.H
def tgOf (S : Sg) (w : WG) (ss : List Nat) : TG := fun v σ H Q => ∃ (W : Wd) (ρ : Env) (ms : Ms) (r : Dat) (k : Env → Ms → Prop), W.H = H ∧ W.S = S ∧ Rel W σ ρ ∧ Own W ms ∧ RvOk W v r ∧ w r ρ ms k ∧
  ∀ W' σ' ρ' ms', Ext W W' → Own W' ms' → Rel W' σ' ρ' → σ'.length = σ.length → (∀ i, i ∉ ss → σ'[i]? = σ[i]?) → k ρ' ms' → Q σ' W'.H
def DTs (X : Cy) (es : List Expr) (w : WT) : Prop := ∃ t, PTs X.X es t ∧ LT X.S t w
section
variable {X : Cy} {pos : Pos}
theorem DE.pe {e : Expr} {w : WE} (h : DE X e w) : PE X.X e (teOf X.S w) := by
  obtain ⟨t, p, l⟩ := h
  exact ⟨fun pins s σ H Q I ⟨W, ρ, ms, k, hH, hK, R, O, hw, q⟩ => p.run pins s σ H Q I (by rw [← hH]; exact l W σ ρ ms Q k hK R O hw q)⟩
theorem DTs.pts {es : List Expr} {w : WT} (h : DTs X es w) : PTs X.X es (ttOf X.S w) := by
  obtain ⟨t, p, l⟩ := h
  exact ⟨fun pins s σ H Q I ⟨W, ρ, ms, k, hH, hK, R, O, hw, q⟩ => p.run pins s σ H Q I (by rw [← hH]; exact l W σ ρ ms Q k hK R O hw q)⟩
theorem DG.pg {e : Expr} {w : WG} {ss : List Nat} (h : DG X e w ss) : PG X.X e (tgOf X.S w ss) := by
  obtain ⟨t, p, l⟩ := h
  exact ⟨fun pins s σ H v u Q I r ⟨W, ρ, ms, rv, k, hH, hK, R, O, ok, hw, q⟩ => p.run pins s σ H v u Q I r (by rw [← hH]; exact l W σ ρ ms v rv Q k hK R O ok hw q)⟩
theorem le_of {S : Sg} {w : WE} : LE S (teOf S w) w := fun W σ ρ ms Q k hK R O hw q => ⟨W, ρ, ms, k, rfl, hK, R, O, hw, q⟩
theorem lt_of {S : Sg} {w : WT} : LT S (ttOf S w) w := fun W σ ρ ms Q k hK R O hw q => ⟨W, ρ, ms, k, rfl, hK, R, O, hw, q⟩
theorem lg_of {S : Sg} {w : WG} {ss : List Nat} : LG S (tgOf S w ss) w ss := fun W σ ρ ms v r Q k hK R O ok hw q => ⟨W, ρ, ms, r, k, rfl, hK, R, O, ok, hw, q⟩
@[simp] def wYes : WT := fun _ ms k => k true ms
theorem dts_nil : DTs X [] wYes := ⟨_, pts_nil, fun W σ ρ ms Q k hK R O h q => q W true ms (Ext.refl W) O h⟩
theorem dts_one {c : Expr} {w : WT} (h : DTt X c w) : DTs X [c] w := let ⟨t, p, l⟩ := h; ⟨t, pts_one p, l⟩
/-- the context of a comprehension's block -/
def Cy.blk (X : Cy) (s : Shared) (H : Hp) (scope : Scope) (cl : List (Str × Addr)) (C : Addr) (fp : List Addr) : Cy :=
  ⟨X.X.blk s H scope (compEnvC scope cl C X.X.env) fp, never, fun u s' ⟨_, _, _, _, _, _, _, _, _, _, _, _, _, _, _, _, w⟩ => w.elim, X.xh⟩
theorem lg_name {S : Sg} {i : Nat} : LG S (gName i) (wgName i) [i] := fun W σ ρ ms v r Q k hK R O ok h q => q W _ _ ms (Ext.refl W) O (R.set ok i) (by rw [List.length_set]) (fun j hj => by rw [List.getElem?_set_ne (fun e => hj (by simp [e]))]) h
/-- [e for x in xs if ..] -/
theorem de_lc {elt tg iter : Expr} {ifs : List Expr} {scope : Scope} {own : List (Str × Nat)} {wi : WI} {wg : WG} {wt : WT} {we : WE} {ss : List Nat} (hc : X.X.calm = true) (hN : X.X.N.Nodup) (hi : DI X tg iter wi) (ok : BlkOk X.X.N X.X.env.scope scope own)
    (hg : ∀ s H C cl fp, DG (X.blk s H scope cl C fp) tg wg ss) (ht : ∀ s H C cl fp, DTs (X.blk s H scope cl C fp) ifs wt)
    (he : ∀ s H C cl fp, DE (X.blk s H scope cl C fp) elt we) (hss : ∀ i ∈ ss, i ∈ own.map (·.2) := by decide) (hs : ∀ x, foldedSetIterable iter X.X.env x = pure x := by intro _; rfl) :
    DE X (.ListComp elt [⟨tg, iter, ifs, 0⟩] scope pos) (wLc wi wg wt we (own.map (·.2))) := by
  obtain ⟨ti, pi, li⟩ := hi
  exact ⟨_, pe_lc (g := tgOf (X.S.nv) wg ss) (tt := ttOf (X.S.nv) wt) (te := teOf (X.S.nv) we) hc hN pi ok (fun s H C cl fp => (hg s H C cl fp).pg) (fun s H C cl fp => (ht s H C cl fp).pts) (fun s H C cl fp => (he s H C cl fp).pe) hs, le_lc hss li lg_of lt_of le_of⟩
theorem de_lcO {elt tg iter : Expr} {ifs : List Expr} {scope : Scope} {own : List (Str × Nat)} {wi : WI} {wg : WG} {wt : WT} {we : WE} {ss : List Nat} (hc : X.X.calm = true) (hN : X.X.N.Nodup) (hi : DI X tg iter wi) (ok : BlkOk X.X.N X.X.env.scope scope own)
    (hg : ∀ s H C cl fp, DG (X.blk s H scope cl C fp) tg wg ss) (ht : ∀ s H C cl fp, DTs (X.blk s H scope cl C fp) ifs wt)
    (he : ∀ s H C cl fp, DE (X.blk s H scope cl C fp) elt we) (hss : ∀ i ∈ ss, i ∈ own.map (·.2) := by decide) (hs : ∀ x, foldedSetIterable iter X.X.env x = pure x := by intro _; rfl) :
    DE X (.ListComp elt [⟨tg, iter, ifs, 0⟩] scope pos) (wLcO wi wg wt we (own.map (·.2))) := by
  obtain ⟨ti, pi, li⟩ := hi
  exact ⟨_, pe_lc (g := tgOf (X.S.nv) wg ss) (tt := ttOf (X.S.nv) wt) (te := teOf (X.S.nv) we) hc hN pi ok (fun s H C cl fp => (hg s H C cl fp).pg) (fun s H C cl fp => (ht s H C cl fp).pts) (fun s H C cl fp => (he s H C cl fp).pe) hs, le_lcO hss li lg_of lt_of le_of⟩
/-- y = [e for x in xs if ..] -/
theorem ds_setLc {i : Nat} {y : Str} {py : Pos} {elt tg iter : Expr} {ifs : List Expr} {scope : Scope} {own : List (Str × Nat)} {pos spos : Pos} {wi : WI} {wg : WG} {wt : WT} {we : WE} {ss : List Nat} (hc : X.X.calm = true) (hN : X.X.N.Nodup) (hy : X.X.N[i]? = some y) (hyl : X.X.env.scope.names.lookup y = some .local)
    (hsw : swapsWith (.ListComp elt [⟨tg, iter, ifs, 0⟩] scope pos) (some (.Name y py)) spos.line X.X.env = pure true) (hi : DI X tg iter wi) (ok : BlkOk X.X.N X.X.env.scope scope own)
    (hg : ∀ s H C cl fp, DG (X.blk s H scope cl C fp) tg wg ss) (ht : ∀ s H C cl fp, DTs (X.blk s H scope cl C fp) ifs wt)
    (he : ∀ s H C cl fp, DE (X.blk s H scope cl C fp) elt we) (hss : ∀ i ∈ ss, i ∈ own.map (·.2) := by decide) (hs : ∀ x, foldedSetIterable iter X.X.env x = pure x := by intro _; rfl) :
    DS X (.Assign [.Name y py] (.ListComp elt [⟨tg, iter, ifs, 0⟩] scope pos) spos) (wAsg (wLc wi wg wt we (own.map (·.2))) (wgName i)) := by
  obtain ⟨ti, pi, li⟩ := hi
  exact ⟨_, L2.ps_setLc (g := tgOf (X.S.nv) wg ss) (tt := ttOf (X.S.nv) wt) (te := teOf (X.S.nv) we) hc hN hy hyl hsw pi ok (fun s H C cl fp => (hg s H C cl fp).pg) (fun s H C cl fp => (ht s H C cl fp).pts) (fun s H C cl fp => (he s H C cl fp).pe) hs, ls_asg (le_lc hss li lg_of lt_of le_of) lg_name⟩
theorem ds_setLcO {i : Nat} {y : Str} {py : Pos} {elt tg iter : Expr} {ifs : List Expr} {scope : Scope} {own : List (Str × Nat)} {pos spos : Pos} {wi : WI} {wg : WG} {wt : WT} {we : WE} {ss : List Nat} (hc : X.X.calm = true) (hN : X.X.N.Nodup) (hy : X.X.N[i]? = some y) (hyl : X.X.env.scope.names.lookup y = some .local)
    (hsw : swapsWith (.ListComp elt [⟨tg, iter, ifs, 0⟩] scope pos) (some (.Name y py)) spos.line X.X.env = pure true) (hi : DI X tg iter wi) (ok : BlkOk X.X.N X.X.env.scope scope own)
    (hg : ∀ s H C cl fp, DG (X.blk s H scope cl C fp) tg wg ss) (ht : ∀ s H C cl fp, DTs (X.blk s H scope cl C fp) ifs wt)
    (he : ∀ s H C cl fp, DE (X.blk s H scope cl C fp) elt we) (hss : ∀ i ∈ ss, i ∈ own.map (·.2) := by decide) (hs : ∀ x, foldedSetIterable iter X.X.env x = pure x := by intro _; rfl) :
    DS X (.Assign [.Name y py] (.ListComp elt [⟨tg, iter, ifs, 0⟩] scope pos) spos) (wAsg (wLcO wi wg wt we (own.map (·.2))) (wgName i)) := by
  obtain ⟨ti, pi, li⟩ := hi
  exact ⟨_, L2.ps_setLc (g := tgOf (X.S.nv) wg ss) (tt := ttOf (X.S.nv) wt) (te := teOf (X.S.nv) we) hc hN hy hyl hsw pi ok (fun s H C cl fp => (hg s H C cl fp).pg) (fun s H C cl fp => (ht s H C cl fp).pts) (fun s H C cl fp => (he s H C cl fp).pe) hs, ls_asg (le_lcO hss li lg_of lt_of le_of) lg_name⟩
end
end Sy
namespace Sy
open PySem PySem.Spec PyProof.Rows L2
/-! ## a def's promise over data -/
abbrev KXF := Str → List (Str × Dat) → Ms → Prop
abbrev FSpec := List Dat → Ms → KR → KXF → Prop
def spF (K : PySem.W.Frag) (R : FSpec) : Sp := fun vs H Q E => ∃ (W : Wd) (rs : List Dat) (ms : Ms) (k : KR) (kx : KXF), W.H = H ∧ W.K = K ∧ Own W ms ∧ RvsOk W vs rs ∧ R rs ms k kx ∧
  (∀ W' v r ms', Ext W W' → Own W' ms' → RvOk W' v r → k r ms' → Q v W'.H) ∧
  (∀ W' C dd xs fs ms', Ext W W' → Own W' ms' → W'.G dd = some (.xd xs) → Dtf W'.S.K W'.G W'.A xs fs → kx C fs ms' → E (.ref (He.ga K C)) (some dd) W'.H)
/-- the ends of a def's body for what is wanted of the call -/
def endsF (k : KR) : WEnds := { nx := fun _ ms => k .non ms, rt := k }
@[simp] theorem endsF_nx {k : KR} {ρ : Env} {ms : Ms} : (endsF k).nx ρ ms = k .non ms := rfl
@[simp] theorem endsF_rt {k : KR} {r : Dat} {ms : Ms} : (endsF k).rt r ms = k r ms := rfl
theorem rel_start {W : Wd} : ∀ {vs : List V} {rs : List Dat} (n : Nat), RvsOk W vs rs → RelS W (vs.map some ++ List.replicate n none) (rs.map some ++ List.replicate n none)
  | _, _, 0, .nil => .nil
  | _, _, n + 1, .nil => .gap (rel_start n .nil)
  | _, _, n, .cons h r => .has h (rel_start n r)
@[simp] def startE (N : List Str) (rs : List Dat) (kx : KXF) : Env := ⟨rs.map some ++ List.replicate (N.length - rs.length) none, fun _ C fs ms => kx C fs ms, Str.empty, []⟩
/-- the promise of a def wherever no guard stands -/
structure FnG (P : Program) (w : World) (K : PySem.W.Frag) (mg : Str → Option Value) (base : Heap) (CX : CXT) (k : Nat) (f : Addr) (fd : FuncData) (ps : List Str) (sp : Sp) : Prop where
  len : ∀ vs H Q E, sp vs H Q E → vs.length = ps.length
  go : ∀ (A : Around) (out : List PySem.Env) (s : Shared) (H : Hp) (args : Args) (us : List Value) (vs : List V) (Q : VK) (E : XK), A.guards = some [] → Room k A → Env0 P w K mg base A out s H → BindsTo s fd args (ps.zip us) → Vals vs us → sp vs H Q E →
    codeAny (model P w) A (.call (.ref f) args) (CR CX out P w H s Q E) s
section
variable {P : Program} {w : World} {K : PySem.W.Frag} {mg : Str → Option Value} {base : Heap} {CX : CXT}
theorem FnG.mono {j k : Nat} {f : Addr} {fd : FuncData} {ps : List Str} {sp : Sp} (F : FnG P w K mg base CX j f fd ps sp) (h : j ≤ k) : FnG P w K mg base CX k f fd ps sp :=
  ⟨F.len, fun A out s H args us vs Q E hg room => F.go A out s H args us vs Q E hg (room.mono h)⟩
def codeOfK (K : PySem.W.Frag) (f : Addr) : Option Value := match K.lookup f with
  | some ⟨_, _, .func fd, _⟩ => some fd.code
  | _ => none
theorem FnG.of_funD {x qual : Str} {params : Arguments} {body : List Stmt} {scope : Scope} {dvs : List V} {kws : List (Str × V)} {f : Addr} {fd : FuncData} {N ps : List Str} {k : Nat} {sp : Sp}
    (F : FunD K x qual params body scope dvs kws f fd) (S : FnScope N ps scope) (len : ∀ vs H Q E, sp vs H Q E → vs.length = ps.length)
    (body_ok : ∀ (cdv : Value) (hcd : codeOfK K f = some cdv) (A : Around) (out : List PySem.Env) (s : Shared) (H : Hp) (vs : List V) (Q : VK) (E : XK), A.guards = some [] → Room k (A.deeper (envOfC qual scope s.heap.objs.size f cdv)) → sp vs H Q E →
      ∃ t, PSs (cxOf CX P w K mg base N qual scope f cdv A out s H E) body t ∧ t { nx := fun _ H' => Q .non H', rt := Q } (L2.start N vs) H) : FnG P w K mg base CX (k + 1) f fd ps sp := by
  obtain ⟨oc, od, dV, kV, doc, pm, an, cdv, ct, osl, rfl, look_f, code_f, _, _⟩ := F.ex
  refine ⟨len, fun A out s H args us vs Q E hg room en bnd rel want => ?_⟩
  have kin : K.In s.heap := en.mod.kin.keeps fun c u z => (en.bs c u z).1
  have nolim : s.heap.NoLimit := en.mod.nolimit.keeps fun c u z => (en.bs c u z).1
  refine codeAny_call_function room.depth (kin _ _ look_f) rfl S.co S.gen rfl (PySem.W.codeRec_of kin code_f) (bnd _ _ _ _ ?_)
  refine wpAny_newFunctionEnv_cells S.kind (fun ⟨n, v⟩ hy => ?_) fun env he s1 laid => ?_
  · rcases S.par n (List.of_mem_zip hy).1 with z | z
    · exact Or.inl z
    · exact Or.inr ⟨z, PySem.W.cellsFrom_some _ _ _ (Or.inl z)⟩
  · subst he
    refine ⟨nolim.keeps laid.toInCall.keep, codeAny_func ?_⟩
    obtain ⟨t, ht, hq⟩ := body_ok cdv (by unfold codeOfK; rw [look_f]) A out s H vs Q E hg (room.deeper _) want
    have J : Inv (cxOf CX P w K mg base N qual scope f cdv A out s H E) [] (L2.start N vs) H s1 := inv_start S room.hd en (len _ _ _ _ want) rel laid
    refine wpAny_mono (ht.run [] s1 (L2.start N vs) H _ J hq) (fun fl s2 hs => ?_) fun _ _ z => z
    cases fl with
    | ret u => obtain ⟨v, σ2, H2, J2, rv, q2⟩ := hs; exact ⟨v, H2, J2.os, J2.bare, J2.base, J2.hok, rv, q2⟩
    | next => obtain ⟨σ2, H2, J2, q2⟩ := hs; exact ⟨.non, H2, J2.os, J2.bare, J2.base, J2.hok, rfl, q2⟩
    | brk => obtain ⟨_, _, _, q2⟩ := hs; exact q2.elim
    | cont => obtain ⟨_, _, _, q2⟩ := hs; exact q2.elim
/-- the context of a def's body -/
def cyOf (P : Program) (w : World) (K : PySem.W.Frag) (mg : Str → Option Value) (base : Heap) (N : List Str) (qual : Str) (scope : Scope) (f : Addr) (cdv : Value) (A : Around) (out : List PySem.Env) (s : Shared) (H : Hp) (E : XK) : Cy :=
  ⟨cxOf (L2.CX P w) P w K mg base N qual scope f cdv A out s H E, fun cls d _ H => E cls d H, takes_of rfl rfl rfl rfl, none⟩
theorem wish_back {W W' : Wd} {Z : WX} (h : W'.S = (W.wish Z).S) (e : Ext (W.wish Z) W') : Ext W { W' with S := W.S } := ⟨rfl, e.ex, e.adr, e.frz, e.p⟩
theorem sg_low {W : Wd} {S : Sg} (h : S.K = W.S.K) : Low W { W with S := S } := ⟨h, Same.refl _, fun _ _ x => x⟩
theorem Own.sg {W : Wd} {ms : Ms} (O : Own W ms) {S : Sg} (h : S.K = W.S.K) : Own { W with S := S } ms :=
  ⟨O.ex, O.len, O.inj, O.all, O.px, O.pg, O.pl, fun i c e n => let ⟨a, o, h1, h2, h3, h4⟩ := O.cell i c e n; ⟨a, o, h1, h2, h3, CObj.low (W' := { W with S := S }) (sg_low h) h4⟩, fun i p q e => by show W.A[i]? = some (tabP S.K p); rw [h]; exact O.tb i p q e⟩
/-- THE RULE for a def -/
theorem fn_okD {x qual : Str} {params : Arguments} {body : List Stmt} {scope : Scope} {dvs : List V} {kws : List (Str × V)} {f : Addr} {fd : FuncData} {N ps : List Str} {k : Nat} {R : FSpec} {ws : WS}
    (F : FunD K x qual params body scope dvs kws f fd) (S : FnScope N ps scope) (len : ∀ rs ms q qx, R rs ms q qx → rs.length = ps.length)
    (hbody : ∀ (cdv : Value) (hcd : codeOfK K f = some cdv) (A : Around) (out : List PySem.Env) (s : Shared) (H : Hp) (E : XK), A.guards = some [] → Room k (A.deeper (envOfC qual scope s.heap.objs.size f cdv)) → DSs (cyOf P w K mg base N qual scope f cdv A out s H E) body ws)
    (hR : ∀ rs ms q qx, R rs ms q qx → ws (endsF q) (startE N rs qx) ms) : FnG P w K mg base (L2.CX P w) (k + 1) f fd ps (spF K R) := by
  refine FnG.of_funD F S (fun vs H Q E ⟨W, rs, ms, q, qx, _, _, _, ok, hr, _⟩ => by rw [ok.length]; exact len rs ms q qx hr) fun cdv hcd A out s H vs Q E hg hr ⟨W, rs, ms, q, qx, hH, hK, O, ok, hRr, hq, hqx⟩ => ?_
  obtain ⟨t, p, l⟩ := hbody cdv hcd A out s H E hg hr
  refine ⟨t, p, ?_⟩
  rw [← hH]
  let S0 : Sg := ⟨K, fun cls d _ H => E cls d H, none⟩
  have hk0 : S0.K = W.S.K := hK.symm
  have back : ∀ W', Ext { W with S := S0 } W' → Ext W { W' with S := W.S } := fun W' e => ⟨rfl, e.ex, e.adr, e.frz, e.p⟩
  have hk' : ∀ W', Ext { W with S := S0 } W' → W.S.K = W'.S.K := fun W' e => by rw [e.s]; exact hK
  refine l { W with S := S0 } (L2.start N vs) (startE N rs qx) ms _ (endsF q) rfl ⟨?_, fun W' σ ρ C dd xs fs ms' e O' _ g d h => ?_, fun a cls d z => by cases z⟩ (O.sg hk0) (hR rs ms q qx hRr)
    ⟨fun W' σ' ρ' ms' e O' R' h1 => ?_, fun W' v r ms' e O' ok' h1 => ?_, fun _ _ _ _ _ _ _ h1 => h1.elim, fun _ _ _ _ _ _ _ h1 => h1.elim⟩
  · show RelS _ (L2.start N vs) (rs.map some ++ List.replicate (N.length - rs.length) none)
    unfold L2.start
    rw [ok.length]
    exact (rel_start _ ok).low (sg_low hk0)
  · exact hqx { W' with S := W.S } C dd xs fs ms' (back W' e) (O'.sg (hk' W' e)) g (Dtf.low (W := W') (W' := { W' with S := W.S }) (sg_low (hk' W' e)) d) h
  · exact hq { W' with S := W.S } .non .non ms' (back W' e) (O'.sg (hk' W' e)) .non h1
  · exact hq { W' with S := W.S } v r ms' (back W' e) (O'.sg (hk' W' e)) (low_v (sg_low (hk' W' e)) ok') h1
/-- a def of the text: where it stands -/
structure DefAt (K : PySem.W.Frag) (p : Str × Option Str) (name qual : Str) (st : Stmt) (ps : List Str) : Prop where
  ex : ∃ fd, FunD K name qual (defArgs st) (defBody st) (defScope st) [] [] (fA K p) fd ∧ Binds K fd ps [] ∧ PySem.W.keepIn K (.ref (fA K p)) = true
/-- a def keeps its promise -/
structure DefOk (P : Program) (w : World) (K : PySem.W.Frag) (mg : Str → Option Value) (base : Heap) (p : Str × Option Str) (ps : List Str) (k : Nat) (R : FSpec) : Prop where
  ex : ∃ fd, FnG P w K mg base (L2.CX P w) k (fA K p) fd ps (spF K R) ∧ Binds K fd ps [] ∧ PySem.W.keepIn K (.ref (fA K p)) = true
theorem DefOk.mono {p : Str × Option Str} {ps : List Str} {j k : Nat} {R : FSpec} (D : DefOk P w K mg base p ps j R) (h : j ≤ k) : DefOk P w K mg base p ps k R :=
  let ⟨fd, F, b, kp⟩ := D.ex; ⟨fd, F.mono h, b, kp⟩
theorem def_ok {p : Str × Option Str} {name qual : Str} {st : Stmt} {N ps : List Str} {k : Nat} {R : FSpec} {ws : WS} (D : DefAt K p name qual st ps) (S : FnScope N ps (defScope st)) (len : ∀ rs ms q qx, R rs ms q qx → rs.length = ps.length)
    (hbody : ∀ (f : Addr) (cdv : Value) (A : Around) (out : List PySem.Env) (s : Shared) (H : Hp) (E : XK), A.guards = some [] → Room k (A.deeper (envOfC qual (defScope st) s.heap.objs.size f cdv)) → DSs (cyOf P w K mg base N qual (defScope st) f cdv A out s H E) (defBody st) ws)
    (hR : ∀ rs ms q qx, R rs ms q qx → ws (endsF q) (startE N rs qx) ms) : DefOk P w K mg base p ps (k + 1) R :=
  let ⟨fd, F, b, kp⟩ := D.ex; ⟨fd, fn_okD F S len (fun cdv _ => hbody _ cdv) hR, b, kp⟩
/-- a def that makes lambdas: its code is known -/
theorem def_okL {p : Str × Option Str} {name qual : Str} {st : Stmt} {N ps : List Str} {k : Nat} {R : FSpec} {ws : WS} (D : DefAt K p name qual st ps) (S : FnScope N ps (defScope st)) (len : ∀ rs ms q qx, R rs ms q qx → rs.length = ps.length)
    (hbody : ∀ (f : Addr) (cdv : Value) (hcd : cdv = .ref (codeP K p)) (A : Around) (out : List PySem.Env) (s : Shared) (H : Hp) (E : XK), A.guards = some [] → Room k (A.deeper (envOfC qual (defScope st) s.heap.objs.size f cdv)) → DSs (cyOf P w K mg base N qual (defScope st) f cdv A out s H E) (defBody st) ws)
    (hR : ∀ rs ms q qx, R rs ms q qx → ws (endsF q) (startE N rs qx) ms) : DefOk P w K mg base p ps (k + 1) R := by
  obtain ⟨fd, F, b, kp⟩ := D.ex
  refine ⟨fd, fn_okD F S len (fun cdv hcd => hbody _ cdv ?_) hR, b, kp⟩
  obtain ⟨oc, od, dV, kV, doc, pm, an, cdv0, ct, osl, rfl, look_f, code_f, r1, r2⟩ := id F.ex
  unfold codeOfK at hcd
  rw [look_f] at hcd
  cases hcd
  show cdv0 = _
  cases cdv0 with
  | ref c => unfold codeP; rw [look_f]
  | _ => cases code_f
end
/-! ## calls -/
section
variable {X : Cy}
def exS (X : Cy) : L2.St → XK := fun σ cls d H => X.Z cls d σ H
theorem pass_s (σ : L2.St) : PassesAt (L2.CX X.X.prog X.X.w) X.X σ (exS X σ) := L2.passAt X.tk σ
variable {CX : CXT} {k : Nat} {f : Addr} {fd : FuncData} {ps : List Str} {sp : Sp} {E : XK}
theorem FnG.runS {X : Cx} {pins : List (Addr × Obj)} {σ : L2.St} {H : Hp} {s : Shared} {Q : VK} {us : List Value} {vs : List V} (F : FnG X.prog X.w X.K X.mg X.base CX k f fd ps sp) (hg : X.A.guards = some []) (room : Room k X.A) (hb : Binds X.K fd ps []) (hx : PassesAt CX X σ E)
    (J : Inv X pins σ H s) (r : Vals vs us) (want : sp vs H Q E) : wpAny (model X.prog X.w) X.A (call (.ref f) us) (EP X pins σ Q) X.xe s := by
  have hl : us.length = ps.length := by rw [← r.length]; exact F.len _ _ _ _ want
  have hb' := hb s us J.kIn (by rw [List.append_nil]; exact hl)
  rw [List.append_nil] at hb'
  refine wpAny_call (codeAny_mono (F.go X.A X.stack s H ⟨us, []⟩ us vs Q E hg room J.env0 hb' r want) fun res s2 hres => ?_)
  match res, hres with
  | .error e, z => exact hx pins H s e s2 J z
  | .ok (.ret u), z => exact J.after z
  | .ok .next, z => exact False.elim z
  | .ok .brk, z => exact False.elim z
  | .ok .cont, z => exact False.elim z
/-- what is wanted of a call, from the caller's world -/
theorem call_go {R : FSpec} {vs : List V} {rs : List Dat} {W : Wd} {σ : L2.St} {ρ : Env} {ms : Ms} {k : KR} {Q : VK} (hK : W.S = X.S) (Rl : Rel W σ ρ) (O : Own W ms) (ok : RvsOk W vs rs) (h : R rs ms k (ρ.ex ρ.sl))
    (q : ∀ W' v r ms', Ext W W' → Own W' ms' → RvOk W' v r → k r ms' → Q v W'.H) : spF X.X.K R vs W.H Q (exS X σ) := by
  have hKK : X.X.K = W.K := (congrArg Sg.K hK).symm
  refine ⟨W, rs, ms, k, _, rfl, hKK.symm, O, ok, h, q, fun W' C dd xs fs ms' e O' g d hx => ?_⟩
  have := Rl.ex W' σ ρ.sl C dd xs fs ms' e O' (Rl.sl.low e.low) g d hx
  rw [hKK]
  show X.Z _ _ _ _
  rw [show X.Z = W.S.Z from (congrArg Sg.Z hK).symm]
  exact this
@[simp] def wCall (R : FSpec) (wa : WA) : WE := fun ρ ms k => wa ρ ms fun rs ms1 => R rs ms1 k (ρ.ex ρ.sl)
def tCallG (sp : Sp) (E : L2.St → XK) (t : TA) : TE := fun σ H Q => t σ H fun vs H1 => sp vs H1 Q (E σ)
theorem de_call {x : Str} {p pos : Pos} {e : Expr} {es : List Expr} {k : Nat} {ps : List Str} {R : FSpec} {wa : WA} (D : DefOk X.X.prog X.X.w X.X.K X.X.mg X.X.base (x, none) ps k R) (hg : X.X.A.guards = some []) (room : Room k X.X.A) (gl : Gl X.X x) (hm : X.X.mg x = some (.ref (He.ga X.X.K x)))
    (ha : DA X (e :: es) wa) (hdb : (x == ("__debug__" : Str)) = false := by decide) (he : starEach (e :: es) X.X.env = (false, eval e X.X.env) :: starEach es X.X.env := by rfl) (hpl : (backTo pos (starEach es X.X.env)).any (·.1) = false := by rfl) :
    DE X (.Call (.Name x p) (e :: es) [] pos) (wCall R wa) := by
  obtain ⟨t, pa, la⟩ := ha
  obtain ⟨fd, F, hb, kp⟩ := D.ex
  refine ⟨tCallG (spF X.X.K R) (exS X) t, ⟨fun pins s σ H Q J h => wpAny_Call_Name_kw (ld_glob J gl hm (PySem.W.callWith_K (h₀ := X.X.base) J.ok.mod.kin kp (thn (pa.run pos pins s σ H _ J h) fun us s1 ⟨vs, H1, J1, r, z⟩ => ⟨J1.kIn, F.runS hg room hb (pass_s σ) J1 r z⟩) he hpl) hdb)⟩, fun W σ ρ ms Q k hK Rl O hw q => ?_⟩
  exact la W σ ρ ms _ _ hK Rl O hw fun W1 vs rs ms1 e1 O1 ok1 h1 => call_go (e1.s.trans hK) (Rl.mono e1) O1 ok1 h1 fun W2 v r ms2 e2 O2 ok2 h2 => q W2 v r ms2 (e1.trans e2) O2 ok2 h2
theorem de_call0 {x : Str} {p pos : Pos} {k : Nat} {ps : List Str} {R : FSpec} (D : DefOk X.X.prog X.X.w X.X.K X.X.mg X.X.base (x, none) ps k R) (hg : X.X.A.guards = some []) (room : Room k X.X.A) (gl : Gl X.X x) (hm : X.X.mg x = some (.ref (He.ga X.X.K x)))
    (hdb : (x == ("__debug__" : Str)) = false := by decide) : DE X (.Call (.Name x p) [] [] pos) (wCall R wNil) := by
  obtain ⟨fd, F, hb, kp⟩ := D.ex
  refine ⟨tCallG (spF X.X.K R) (exS X) tNil, ⟨fun pins s σ H Q J h => wpAny_Call_Name_kw (ld_glob J gl hm (PySem.W.callWith_K0 J.kIn kp (F.runS (us := []) hg room hb (pass_s σ) J .nil h)) hdb)⟩, fun W σ ρ ms Q k hK Rl O hw q => ?_⟩
  exact call_go hK Rl O .nil hw q
/-! ### instances -/
/-- the class and the fields of an instance -/
@[simp] def insOf (ms : Ms) : Dat → Option (Str × List (Str × Dat))
  | .ins C fs => some (C, fs)
  | .own i => (match ms[i]? with
    | some (.ins C fs) => some (C, fs)
    | _ => none)
  | _ => none
theorem Dtf.rk {W : Wd} : ∀ {xs : List (Str × V)} {fs : List (Str × Dat)}, Dtf W.S.K W.G W.A xs fs → RkOk W xs fs
  | _, _, .nil => .nil
  | _, _, .cons h r => .cons h (Dtf.rk r)
theorem RkOk.dtf {W : Wd} : ∀ {xs : List (Str × V)} {fs : List (Str × Dat)}, RkOk W xs fs → Dtf W.S.K W.G W.A xs fs
  | _, _, .nil => .nil
  | _, _, .cons h r => .cons h (RkOk.dtf r)
theorem RkOk.lookup {W : Wd} {f : Str} : ∀ {xs : List (Str × V)} {fs : List (Str × Dat)}, RkOk W xs fs → (fs.lookup f = none → xs.lookup f = none) ∧ ∀ d, fs.lookup f = some d → ∃ v, xs.lookup f = some v ∧ RvOk W v d
  | _, _, .nil => ⟨fun _ => rfl, fun d h => by cases h⟩
  | (k, v) :: xs, (_, d) :: fs, .cons h r => by
    obtain ⟨h1, h2⟩ := RkOk.lookup (f := f) r
    cases e : f == k with
    | true => simp only [List.lookup, e]; exact ⟨fun z => (by cases z), fun d' z => (by cases z; exact ⟨v, rfl, h⟩)⟩
    | false => simp only [List.lookup, e]; exact ⟨h1, h2⟩
theorem RkOk.length {κ : Type} {W : Wd} : ∀ {xs : List (κ × V)} {fs : List (κ × Dat)}, RkOk W xs fs → xs.length = fs.length
  | _, _, .nil => rfl
  | _, _, .cons _ r => by simp [RkOk.length r]
theorem Own.inst {W : Wd} {ms : Ms} {v : V} {r : Dat} {C : Str} {fs : List (Str × Dat)} (O : Own W ms) (ok : RvOk W v r) (h : insOf ms r = some (C, fs)) : ∃ a dx xs, v = .ref a ∧ W.H a = some (.ins (He.ga W.K C) dx xs) ∧ RkOk W xs fs := by
  cases r <;> simp only [insOf] at h <;> first | (cases h; done) | skip
  · rename_i i
    split at h
    · rename_i C' fs' e
      cases h
      cases ok with
      | own ha =>
        obtain ⟨b, o, hb, _, ho, dx, xs, rfl, q⟩ := O.cell i _ e (fun z => by cases z)
        rw [ha] at hb; cases hb
        exact ⟨_, dx, xs, rfl, ho, q⟩
    · cases h
  · cases h
    cases ok with
    | ins h1 h2 => exact ⟨_, _, _, rfl, O.ex _ _ h1, h2.rk⟩
@[simp] def wFld (C f : Str) (wo : WE) : WE := fun ρ ms k => wo ρ ms fun r ms1 => match insOf ms1 r with
  | some (C', fs) => C' = C ∧ (match fs.lookup f with
    | some d => k d ms1
    | none => False)
  | none => False
theorem de_fld {o : Expr} {C f : Str} {pos : Pos} {wo : WE} (c : Cls X.X.K (He.ga X.X.K C)) (n : NoAttr X.X.K (He.ga X.X.K C) f) (ho : DE X o wo) (hb : attributeBase o f X.X.env (eval o X.X.env) = eval o X.X.env := by rfl) : DE X (.Attribute o f pos) (wFld C f wo) := by
  obtain ⟨t, p, l⟩ := ho
  refine ⟨_, pe_fld p hb, fun W σ ρ ms Q k hK Rl O hw q => l W σ ρ ms _ _ hK Rl O hw fun W1 v r ms1 e1 O1 ok1 h1 => ?_⟩
  have hKK : X.X.K = W1.K := (congrArg Sg.K (e1.s.trans hK)).symm
  split at h1
  · rename_i C' fs e
    obtain ⟨rfl, h1⟩ := h1
    split at h1
    · rename_i d e2
      obtain ⟨a, dx, xs, rfl, ha, rk⟩ := O1.inst ok1 e
      obtain ⟨u, hu, oku⟩ := rk.lookup.2 d e2
      exact ⟨a, _, dx, xs, u, rfl, ha, by rw [← hKK]; exact c, by rw [← hKK]; exact n, hu, q W1 u d ms1 e1 O1 oku h1⟩
    · exact h1.elim
  · exact h1.elim
@[simp] def putFd (f : Str) (d : Dat) : List (Str × Dat) → List (Str × Dat)
  | [] => [(f, d)]
  | (g, e) :: fs => if g = f then (g, d) :: fs else (g, e) :: putFd f d fs
theorem RkOk.putF {W : Wd} {f : Str} {v : V} {d : Dat} (h : RvOk W v d) : ∀ {xs : List (Str × V)} {fs : List (Str × Dat)}, RkOk W xs fs → RkOk W (L2.putF f v xs) (putFd f d fs)
  | _, _, .nil => .cons h .nil
  | (g, x) :: xs, (_, e) :: fs, .cons q r => by
    unfold L2.putF putFd
    by_cases z : g = f
    · rw [if_pos z, if_pos z]; exact .cons h r
    · rw [if_neg z, if_neg z]; exact .cons q (RkOk.putF h r)
/-- o.f = e -/
@[simp] def wSetF (C f : Str) (wo we : WE) : WS := fun E ρ ms => we ρ ms fun d ms1 => wo ρ ms1 fun r ms2 => match r with
  | .own i => (match ms2[i]? with
    | some (.ins C' fs) => C' = C ∧ fs.length < 1000 ∧ E.nx ρ (ms2.set i (.ins C' (putFd f d fs)))
    | _ => False)
  | _ => False
theorem ds_fld {o e : Expr} {C f : Str} {pos pos' : Pos} {wo we : WE} (c : Cls X.X.K (He.ga X.X.K C)) (n : NoAttr X.X.K (He.ga X.X.K C) f) (ho : DE X o wo) (he : DE X e we) (hs : swapsWith e (some (.Attribute o f pos')) pos.line X.X.env = pure false := by rfl) : DS X (.Assign [.Attribute o f pos'] e pos) (wSetF C f wo we) := by
  obtain ⟨to, po, lo⟩ := ho
  obtain ⟨te, pe, le⟩ := he
  refine ⟨_, ps_fld po pe hs, fun W σ ρ ms D E hK Rl O hw ok => le W σ ρ ms _ _ hK Rl O hw fun W1 v d ms1 e1 O1 ok1 h1 => lo W1 σ ρ ms1 _ _ (e1.s.trans hK) (Rl.mono e1) O1 h1 fun W2 u r ms2 e2 O2 ok2 h2 => ?_⟩
  have hKK : X.X.K = W2.K := (congrArg Sg.K (e2.s.trans (e1.s.trans hK))).symm
  split at h2
  · rename_i i
    split at h2
    · rename_i C' fs e
      obtain ⟨rfl, hl, h2⟩ := h2
      cases ok2 with
      | own ha =>
        obtain ⟨b, o, hb, hg, ho, dx, xs, rfl, q⟩ := O2.cell i _ e (fun z => by cases z)
        rw [ha] at hb; cases hb
        have rk := RkOk.putF (f := f) (up_v e2 ok1) q
        refine ⟨_, _, dx, xs, rfl, ho, by rw [← hKK]; exact c, by rw [← hKK]; exact n, by rw [q.length]; exact hl, ?_⟩
        have O3 := O2.put (o := .ins (He.ga W2.K C') dx (L2.putF f v xs)) (c := .ins C' (putFd f d fs)) ha hg ⟨dx, _, rfl, rk⟩
        have e3 := Ext.put (W := W2) (o := .ins (He.ga W2.K C') dx (L2.putF f v xs)) ho (fun _ _ z => by cases z)
        exact ok.nx _ σ ρ _ ((e1.trans e2).trans e3) O3 (((Rl.mono e1).mono e2).mono e3) h2
    · exact h2.elim
  · exact h2.elim
/-- o.m(e, ..) -/
@[simp] def wMeth (C m : Str) (R : FSpec) (wo : WE) (wa : WA) : WE := fun ρ ms k => wo ρ ms fun o ms1 => match insOf ms1 o with
  | some (C', fs) => C' = C ∧ fs.lookup m = none ∧ wa ρ ms1 fun rs ms2 => R (o :: rs) ms2 k (ρ.ex ρ.sl)
  | none => False
def tMethG (C : Addr) (m : Str) (sp : Sp) (E : L2.St → XK) (ta : TE) (t : TA) : TE := fun σ H Q => ta σ H fun x H1 => ∃ a dx fs, x = .ref a ∧ H1 a = some (.ins C dx fs) ∧ fs.lookup m = none ∧ t σ H1 fun vs H2 => sp (.ref a :: vs) H2 Q (E σ)
theorem le_meth {C m : Str} {R : FSpec} {to : TE} {ta : TA} {wo : WE} {wa : WA} (lo : LE X.S to wo) (la : LA X.S ta wa) : LE X.S (tMethG (He.ga X.X.K C) m (spF X.X.K R) (exS X) to ta) (wMeth C m R wo wa) := fun W σ ρ ms Q k hK Rl O hw q =>
  lo W σ ρ ms _ _ hK Rl O hw fun W1 v r ms1 e1 O1 ok1 h1 => by
    have hKK : X.X.K = W1.K := (congrArg Sg.K (e1.s.trans hK)).symm
    split at h1
    · rename_i C' fs e
      obtain ⟨rfl, hl, h1⟩ := h1
      obtain ⟨a, dx, xs, rfl, ha, rk⟩ := O1.inst ok1 e
      refine ⟨a, dx, xs, rfl, by rw [hKK]; exact ha, rk.lookup.1 hl, la W1 σ ρ ms1 _ _ (e1.s.trans hK) (Rl.mono e1) O1 h1 fun W2 vs rs ms2 e2 O2 ok2 h2 => ?_⟩
      exact call_go (e2.s.trans (e1.s.trans hK)) ((Rl.mono e1).mono e2) O2 (.cons (up_v e2 ok1) ok2) h2 fun W3 v r ms3 e3 O3 ok3 h3 => q W3 v r ms3 ((e1.trans e2).trans e3) O3 ok3 h3
    · exact h1.elim
theorem de_meth {pl : Sem Bool} {o e : Expr} {es : List Expr} {C m : Str} {apos pos : Pos} {k : Nat} {ps : List Str} {R : FSpec} {wo : WE} {wa : WA} (c : Cls X.X.K (He.ga X.X.K C)) (hm : Meth X.X.K (He.ga X.X.K C) m (fA X.X.K (C, some m))) (D : DefOk X.X.prog X.X.w X.X.K X.X.mg X.X.base (C, some m) ps k R) (hg : X.X.A.guards = some []) (room : Room k X.X.A)
    (ho : DE X o wo) (ha : DA X (e :: es) wa)
    (hst : starEach (e :: es) X.X.env = (false, eval e X.X.env) :: starEach es X.X.env := by rfl) (hpl : (backTo pos (starEach es X.X.env)).any (·.1) = false := by rfl)
    (ht : eval (.Call (.Attribute o m apos) (e :: es) [] pos) X.X.env = (do
      let ov ← eval o X.X.env
      standAt apos.atName
      let (f, first) ← holding [ov] (getMethod ov m pl)
      callWith pos f first (backTo pos (starEach (e :: es) X.X.env)) (backToKw pos (keywordEach [] X.X.env))) := by rfl) :
    DE X (.Call (.Attribute o m apos) (e :: es) [] pos) (wMeth C m R wo wa) := by
  obtain ⟨to, po, lo⟩ := ho
  obtain ⟨ta, pa, la⟩ := ha
  obtain ⟨fd, F, hb, kp⟩ := D.ex
  refine ⟨tMethG (He.ga X.X.K C) m (spF X.X.K R) (exS X) to ta, ⟨fun pins s σ H Q I h => ?_⟩, le_meth lo la⟩
  refine PySem.W.methodCall_KW (pl := pl) (thn (po.run pins s σ H _ I h) fun u s1 ⟨x, H1, I1, rx, a, dx, fs, ex, ea, l, q⟩ => ?_) ht
  subst ex
  obtain rfl : u = Value.ref a := rx
  refine getmeth_ok I1 ea c hm l ?_
  refine PySem.W.callWith_K (first := [.ref a]) (h₀ := X.X.base) I.ok.mod.kin hm.kp (thn (pa.run pos pins s1 σ H1 _ I1 q) fun us s2 ⟨vs, H2, I2, r, q2⟩ => ⟨I2.kIn, ?_⟩) hst hpl
  exact F.runS (us := .ref a :: us) (vs := .ref a :: vs) hg room hb (pass_s σ) I2 (.cons rfl r) q2
theorem de_meth0 {pl : Sem Bool} {o : Expr} {C m : Str} {apos pos : Pos} {k : Nat} {ps : List Str} {R : FSpec} {wo : WE} (c : Cls X.X.K (He.ga X.X.K C)) (hm : Meth X.X.K (He.ga X.X.K C) m (fA X.X.K (C, some m))) (D : DefOk X.X.prog X.X.w X.X.K X.X.mg X.X.base (C, some m) ps k R) (hg : X.X.A.guards = some []) (room : Room k X.X.A)
    (ho : DE X o wo)
    (ht : eval (.Call (.Attribute o m apos) [] [] pos) X.X.env = (do
      let ov ← eval o X.X.env
      standAt apos.atName
      let (f, first) ← holding [ov] (getMethod ov m pl)
      callWith pos f first (backTo pos (starEach [] X.X.env)) (backToKw pos (keywordEach [] X.X.env))) := by rfl) :
    DE X (.Call (.Attribute o m apos) [] [] pos) (wMeth C m R wo wNil) := by
  obtain ⟨to, po, lo⟩ := ho
  obtain ⟨fd, F, hb, kp⟩ := D.ex
  refine ⟨tMethG (He.ga X.X.K C) m (spF X.X.K R) (exS X) to tNil, ⟨fun pins s σ H Q I h => ?_⟩, le_meth lo (fun W σ ρ ms Q k hK R O h q => q W [] [] ms (Ext.refl W) O .nil h)⟩
  refine PySem.W.methodCall_KW (pl := pl) (thn (po.run pins s σ H _ I h) fun u s1 ⟨x, H1, I1, rx, a, dx, fs, ex, ea, l, q⟩ => ?_) ht
  subst ex
  obtain rfl : u = Value.ref a := rx
  refine getmeth_ok I1 ea c hm l ?_
  exact PySem.W.callWith_K0 (first := [.ref a]) I1.kIn hm.kp (F.runS (us := [.ref a]) (vs := [.ref a]) hg room hb (pass_s σ) I1 (.cons rfl .nil) q)
/-! ### C(e, ..) -/
@[simp] def wMake (C : Str) (R : FSpec) (wa : WA) : WE := fun ρ ms k => wa ρ ms fun rs ms1 => R (.own ms1.length :: rs) (ms1 ++ [.ins C []]) (fun r ms2 => r = .non ∧ k (.own ms1.length) ms2) (ρ.ex ρ.sl)
def tMakeG (C : Addr) (sp : Sp) (E : L2.St → XK) (t : TA) : TE := fun σ H Q => t σ H fun vs H1 => ∀ x dx, H1 x = none → H1 dx = none → dx ≠ x → sp (.ref x :: vs) (upd (upd H1 dx (.own x)) x (.ins C dx [])) (fun v H2 => v = .non ∧ Q (.ref x) H2) (E σ)
/-- one more thing in the heap -/
def Wd.more (W : Wd) (p : Addr) (o : HO) : Wd := { W with H := upd W.H p o }
theorem Own.more {W : Wd} {ms : Ms} (O : Own W ms) {p : Addr} {o : HO} (h : W.H p = none) : Own (W.more p o) ms ∧ Ext W (W.more p o) := by
  have low : Low W (W.more p o) := ⟨rfl, Same.refl _, fun _ _ e => e⟩
  refine ⟨⟨O.ex.trans (same_new h), O.len, O.inj, fun i a e => ?_, O.px.trans (same_new h), O.pg, O.pl, fun i c e n => ?_, O.tb⟩, ⟨rfl, Same.refl _, fun _ _ e => e, fun a u v e => same_new h a _ e, rfl⟩⟩
  · obtain ⟨u, hu⟩ := O.all i a e
    exact ⟨u, same_new h a u hu⟩
  · obtain ⟨a, u, ha, g, hu, k⟩ := O.cell i c e n
    exact ⟨a, u, ha, g, same_new h a u hu, k.low low⟩
theorem le_make {C : Str} {R : FSpec} {ta : TA} {wa : WA} (la : LA X.S ta wa) : LE X.S (tMakeG (He.ga X.X.K C) (spF X.X.K R) (exS X) ta) (wMake C R wa) := fun W σ ρ ms Q k hK Rl O hw q =>
  la W σ ρ ms _ _ hK Rl O hw fun W1 vs rs ms1 e1 O1 ok1 h1 x dx hx hdx hne => by
    have hKK : X.X.K = W1.K := (congrArg Sg.K (e1.s.trans hK)).symm
    obtain ⟨O2, e2⟩ := O1.more (o := .own x) hdx
    have hx2 : (W1.more dx (.own x)).H x = none := by show upd W1.H dx (.own x) x = none; rw [upd_ne (fun z => hne z.symm)]; exact hx
    obtain ⟨O3, e3⟩ := O2.take (o := .ins (He.ga X.X.K C) dx []) (c := .ins C []) hx2 ⟨dx, [], by rw [hKK]; rfl, .nil⟩
    have e13 := e2.trans e3
    refine call_go (W := (W1.more dx (.own x)).take x (.ins (He.ga X.X.K C) dx [])) (e13.s.trans (e1.s.trans hK)) ((Rl.mono e1).mono e13) O3 (.cons (take_own O2) (up_vs e13 ok1)) h1 fun W4 v r ms4 e4 O4 ok4 h4 => ?_
    obtain ⟨rfl, h4⟩ := h4
    cases ok4
    exact ⟨rfl, q W4 (.ref x) (.own ms1.length) ms4 ((e1.trans e13).trans e4) O4 (up_v e4 (take_own O2)) h4⟩
theorem run_makeG {X : Cx} {C f : Addr} {fd : FuncData} {ps : List Str} {sp : Sp} {CX : CXT} {E : XK} {k : Nat} {pins : List (Addr × Obj)} {σ : L2.St} {H : Hp} {s : Shared} {Q : VK} {us : List Value} {vs : List V} (M : Mk X.K C f) (F : FnG X.prog X.w X.K X.mg X.base CX k f fd ps sp) (hg : X.A.guards = some []) (hr : Room (k + 1) X.A) (hb : Binds X.K fd ps [])
    (hx : PassesAt CX X σ E) (I : Inv X pins σ H s) (r : Vals vs us)
    (h : ∀ x dx, H x = none → H dx = none → dx ≠ x → sp (.ref x :: vs) (upd (upd H dx (.own x)) x (.ins C dx [])) (fun v H2 => v = .non ∧ Q (.ref x) H2) E) :
    wpAny (model X.prog X.w) X.A (call (.ref C) us) (EP X pins σ Q) X.xe s := by
  have hq := h (s.heap.objs.size + 1) s.heap.objs.size (I.hok.fresh (Nat.le_succ _)) (I.hok.fresh (Nat.le_refl _)) (Nat.ne_of_lt (Nat.lt_succ_self _))
  have I2 := Inv.made (C := C) I
  have r2 : Vals (V.ref (s.heap.objs.size + 1) :: vs) (Value.ref (s.heap.objs.size + 1) :: us) := .cons rfl r
  have hl : (Value.ref (s.heap.objs.size + 1) :: us).length = ps.length := by
    have e := r2.length
    rw [F.len _ _ _ _ hq] at e
    exact e.symm
  have hb' := hb _ (Value.ref (s.heap.objs.size + 1) :: us) I2.kIn (by rw [List.append_nil]; exact hl)
  rw [List.append_nil] at hb'
  refine wpAny_call (make_map (f := f) I.kIn M.makes M.init (beq_iff_eq.mp M.fn) (codeAny_mono (F.go _ X.stack _ _ ⟨Value.ref (s.heap.objs.size + 1) :: us, []⟩ (Value.ref (s.heap.objs.size + 1) :: us) _ _ E hg (hr.make C us [])
    (I2.env0.make C us []) hb' r2 hq) fun r s' hq' => ?_))
  cases r with
  | error e => exact hx pins _ _ e s' I2 hq'
  | ok fl =>
    cases fl with
    | ret u =>
      obtain ⟨v, H', I3, rv, ev, q3⟩ := I2.after hq'
      subst ev
      exact ⟨rv, ⟨V.ref (s.heap.objs.size + 1), H', I3, rfl, q3⟩⟩
    | next => exact False.elim hq'
    | brk => exact False.elim hq'
    | cont => exact False.elim hq'
theorem de_make {x : Str} {p pos : Pos} {e : Expr} {es : List Expr} {k : Nat} {ps : List Str} {R : FSpec} {wa : WA} (M : Mk X.X.K (He.ga X.X.K x) (fA X.X.K (x, some "__init__"))) (D : DefOk X.X.prog X.X.w X.X.K X.X.mg X.X.base (x, some "__init__") ps k R) (hg : X.X.A.guards = some []) (room : Room (k + 1) X.X.A) (gl : Gl X.X x) (hm : X.X.mg x = some (.ref (He.ga X.X.K x)))
    (ha : DA X (e :: es) wa) (hdb : (x == ("__debug__" : Str)) = false := by decide) (he : starEach (e :: es) X.X.env = (false, eval e X.X.env) :: starEach es X.X.env := by rfl) (hpl : (backTo pos (starEach es X.X.env)).any (·.1) = false := by rfl) :
    DE X (.Call (.Name x p) (e :: es) [] pos) (wMake x R wa) := by
  obtain ⟨t, pa, la⟩ := ha
  obtain ⟨fd, F, hb, kp⟩ := D.ex
  exact ⟨tMakeG (He.ga X.X.K x) (spF X.X.K R) (exS X) t, ⟨fun pins s σ H Q J h => wpAny_Call_Name_kw (ld_glob J gl hm (PySem.W.callWith_K (h₀ := X.X.base) J.ok.mod.kin M.kp (thn (pa.run pos pins s σ H _ J h) fun us s1 ⟨vs, H1, J1, r, z⟩ => ⟨J1.kIn, run_makeG M F hg room hb (pass_s σ) J1 r z⟩) he hpl) hdb)⟩, le_make la⟩
theorem de_make0 {x : Str} {p pos : Pos} {k : Nat} {ps : List Str} {R : FSpec} (M : Mk X.X.K (He.ga X.X.K x) (fA X.X.K (x, some "__init__"))) (D : DefOk X.X.prog X.X.w X.X.K X.X.mg X.X.base (x, some "__init__") ps k R) (hg : X.X.A.guards = some []) (room : Room (k + 1) X.X.A) (gl : Gl X.X x) (hm : X.X.mg x = some (.ref (He.ga X.X.K x)))
    (hdb : (x == ("__debug__" : Str)) = false := by decide) : DE X (.Call (.Name x p) [] [] pos) (wMake x R wNil) := by
  obtain ⟨fd, F, hb, kp⟩ := D.ex
  exact ⟨tMakeG (He.ga X.X.K x) (spF X.X.K R) (exS X) tNil, ⟨fun pins s σ H Q J h => wpAny_Call_Name_kw (ld_glob J gl hm (PySem.W.callWith_K0 J.kIn M.kp (run_makeG (us := []) M F hg room hb (pass_s σ) J .nil h)) hdb)⟩, le_make (fun W σ ρ ms Q k hK R O h q => q W [] [] ms (Ext.refl W) O .nil h)⟩
/-! ### what is made stays as it is from now on -/
@[simp] def wFix (we : WE) : WE := fun ρ ms k => we ρ ms fun r ms1 => match r with
  | .own i => (match ms1[i]? with
    | some (.ins C fs) => k (.ins C fs) (ms1.set i .gone)
    | some (.lst ds) => k (.lst ds) (ms1.set i .gone)
    | some (.dic ds) => k (.dic ds) (ms1.set i .gone)
    | _ => False)
  | x => k x ms1
def tFrzO (t : TE) : TE := fun σ H Q => t σ H fun v H1 => Q v H1 ∨ ∃ d u, v = .ref d ∧ H1 d = some u ∧ Mut (some u) ∧ ∀ od, Q v (upd H1 d (.frz od u))
theorem pe_frz {X : Cx} {e : Expr} {t : TE} (h : PE X e t) : PE X e (tFrzO t) := ⟨fun pins s σ H Q I hw => thn (h.run pins s σ H _ I hw) fun v s1 ⟨x, H1, I1, r, q⟩ => by
  rcases q with q | ⟨d, u, rfl, hd, mu, q⟩
  · exact ⟨x, H1, I1, r, q⟩
  · obtain ⟨od, I2⟩ := I1.lock hd mu
    exact ⟨_, _, I2, r, q od⟩⟩
theorem le_fix {S : Sg} {t : TE} {we : WE} (l : LE S t we) : LE S (tFrzO t) (wFix we) := fun W σ ρ ms Q k hK Rl O hw q =>
  l W σ ρ ms _ _ hK Rl O hw fun W1 v r ms1 e1 O1 ok1 h1 => by
    split at h1
    · rename_i i
      split at h1
      · rename_i C fs e
        cases ok1 with
        | own ha =>
          obtain ⟨b, o, hb, hg, ho, dx, xs, rfl, rk⟩ := O1.cell i _ e (fun z => by cases z)
          rw [ha] at hb; cases hb
          have O2 := O1.fix (o := .ins (He.ga W1.K C) dx xs) ha hg
          have e2 := Ext.fix (W := W1) (o := .ins (He.ga W1.K C) dx xs) hg ho (.inr rfl)
          have := q _ _ (.ins C fs) _ (e1.trans e2) O2 (.ins upd_same (rk.up e2).dtf) h1
          rw [show (W1.fix _ (HO.ins (He.ga W1.K C) dx xs)).H = W1.H from upd_id ho] at this
          exact .inl this
      · rename_i ds e
        cases ok1 with
        | own ha =>
          obtain ⟨b, o, hb, hg, ho, xs, rfl, rk⟩ := O1.cell i _ e (fun z => by cases z)
          rw [ha] at hb; cases hb
          have O2 := O1.fix (o := .lst xs) ha hg
          have e2 := Ext.fix (W := W1) (o := .lst xs) hg ho (.inr rfl)
          have := q _ _ (.lst ds) _ (e1.trans e2) O2 (.lst upd_same (up_vs e2 rk)) h1
          rw [show (W1.fix _ (HO.lst xs)).H = W1.H from upd_id ho] at this
          exact .inl this
      · rename_i ds e
        cases ok1 with
        | own ha =>
          obtain ⟨b, o, hb, hg, ho, xs, rfl, rk⟩ := O1.cell i _ e (fun z => by cases z)
          rw [ha] at hb; cases hb
          refine .inr ⟨_, _, rfl, ho, trivial, fun od => ?_⟩
          have O2 := O1.fix (o := .frz od (.dK xs)) ha hg
          have e2 := Ext.fix (W := W1) (o := .frz od (.dK xs)) hg ho (.inl fun _ _ z => by cases z)
          exact q _ _ (.dic ds) _ (e1.trans e2) O2 (.dic upd_same (rk.up e2).dtk) h1
      · exact h1.elim
    · exact .inl (q W1 v r ms1 e1 O1 ok1 h1)
theorem de_fix {e : Expr} {we : WE} (h : DE X e we) : DE X e (wFix we) := let ⟨t, p, l⟩ := h; ⟨_, pe_frz p, le_fix l⟩
end
end Sy
namespace Sy
open PySem L2
section
variable {X : Cy}
/-! ### built-ins -/
abbrev WC := List Dat → Ms → KR → Prop
def LC (S : Sg) (r : List V → Hp → VK → Prop) (w : WC) : Prop := ∀ (W : Wd) (vs : List V) (rs : List Dat) (ms : Ms) (Q : VK) (k : KR), W.S = S → RvsOk W vs rs → Own W ms → w rs ms k →
  (∀ W' v r ms', Ext W W' → Own W' ms' → RvOk W' v r → k r ms' → Q v W'.H) → r vs W.H Q
@[simp] def wCB (w : WC) (wa : WA) : WE := fun ρ ms k => wa ρ ms fun rs ms1 => w rs ms1 k
theorem le_cb {S : Sg} {r : List V → Hp → VK → Prop} {w : WC} {ta : TA} {wa : WA} (h : LC S r w) (ha : LA S ta wa) : LE S (tCB r ta) (wCB w wa) := fun W σ ρ ms Q k hK R O hw q =>
  ha W σ ρ ms _ _ hK R O hw fun W1 vs rs ms1 e1 O1 ok1 h1 => h W1 vs rs ms1 _ _ (e1.s.trans hK) ok1 O1 h1 fun W2 v r ms2 e2 O2 ok2 h2 => q W2 v r ms2 (e1.trans e2) O2 ok2 h2
theorem de_bi {x : Str} {p pos : Pos} {e : Expr} {es : List Expr} {id : String} {r : List V → Hp → VK → Prop} {w : WC} {wa : WA} (hc : CallR X.X (.builtin id) r ∧ LC X.S r w) (hg : Gl X.X x) (hm : X.X.mg x = none) (hv : bootBuiltins x = some (.builtin id)) (ha : DA X (e :: es) wa)
    (hn : x ≠ "__name__" := by decide) (hd : (x == ("__debug__" : Str)) = false := by decide) (he : starEach (e :: es) X.X.env = (false, eval e X.X.env) :: starEach es X.X.env := by rfl) (hpl : (backTo pos (starEach es X.X.env)).any (·.1) = false := by rfl) : DE X (.Call (.Name x p) (e :: es) [] pos) (wCB w wa) := by
  obtain ⟨t, pa, la⟩ := ha
  exact ⟨_, pe_callB hc.1 hg hm hv pa hn hd he hpl, le_cb hc.2 la⟩
theorem de_bt {x : Str} {p pos : Pos} {e : Expr} {es : List Expr} {T : String} {r : List V → Hp → VK → Prop} {w : WC} {wa : WA} (hc : CallR X.X (.type T) r ∧ LC X.S r w) (hg : Gl X.X x) (hm : X.X.mg x = none) (hv : bootBuiltins x = some (.type T)) (ha : DA X (e :: es) wa)
    (hn : x ≠ "__name__" := by decide) (hd : (x == ("__debug__" : Str)) = false := by decide) (he : starEach (e :: es) X.X.env = (false, eval e X.X.env) :: starEach es X.X.env := by rfl) (hpl : (backTo pos (starEach es X.X.env)).any (·.1) = false := by rfl) : DE X (.Call (.Name x p) (e :: es) [] pos) (wCB w wa) := by
  obtain ⟨t, pa, la⟩ := ha
  exact ⟨_, pe_callTy hc.1 hg hm hv pa hn hd he hpl, le_cb hc.2 la⟩
end
theorem callr_or {X : Cy} {f : Value} {r r' : List V → Hp → VK → Prop} {w w' : WC} (h : CallR X.X f r ∧ LC X.S r w) (h' : CallR X.X f r' ∧ LC X.S r' w') : CallR X.X f (fun x H Q => r x H Q ∨ r' x H Q) ∧ LC X.S (fun x H Q => r x H Q ∨ r' x H Q) (fun a ms k => w a ms k ∨ w' a ms k) :=
  ⟨fun pins s σ H xs us Q I rv hh => hh.elim (h.1 pins s σ H xs us Q I rv) (h'.1 pins s σ H xs us Q I rv), fun W vs rs ms Q k hK ok O hw q => hw.elim (fun z => .inl (h.2 W vs rs ms Q k hK ok O z q)) fun z => .inr (h'.2 W vs rs ms Q k hK ok O z q)⟩
theorem callr_imp {X : Cy} {f : Value} {r : List V → Hp → VK → Prop} {w w' : WC} (h : CallR X.X f r ∧ LC X.S r w) (i : ∀ a ms k, w' a ms k → w a ms k) : CallR X.X f r ∧ LC X.S r w' :=
  ⟨h.1, fun W vs rs ms Q k hK ok O hw q => h.2 W vs rs ms Q k hK ok O (i rs ms k hw) q⟩
theorem Dts.one {W : Wd} {vs : List V} {r : Dat} (h : RvsOk W vs [r]) : ∃ v, vs = [v] ∧ RvOk W v r := by
  cases h with
  | cons h t => cases t; exact ⟨_, rfl, h⟩
theorem Dts.two {W : Wd} {vs : List V} {r s : Dat} (h : RvsOk W vs [r, s]) : ∃ v w, vs = [v, w] ∧ RvOk W v r ∧ RvOk W w s := by
  cases h with
  | cons h t =>
    obtain ⟨w, e, k⟩ := t.one
    subst e
    exact ⟨_, _, rfl, h, k⟩
section
variable {K : PySem.W.Frag} {G : Hp} {A : List Addr}
theorem Dts.ints : ∀ {vs : List V} {ns : List Int}, Dts K G A vs (ns.map Dat.int) → vs = ns.map V.int
  | _, [], .nil => rfl
  | _, n :: ns, .cons h r => by cases h; rw [Dts.ints r]; rfl
theorem Dts.strs : ∀ {vs : List V} {ns : List Str}, Dts K G A vs (ns.map Dat.str) → vs = ns.map V.str
  | _, [], .nil => rfl
  | _, n :: ns, .cons h r => by cases h; rw [Dts.strs r]; rfl
theorem Dts.bls : ∀ {vs : List V} {ns : List Bool}, Dts K G A vs (ns.map Dat.bl) → vs = ns.map V.bl
  | _, [], .nil => rfl
  | _, n :: ns, .cons h r => by cases h; rw [Dts.bls r]; rfl
theorem dts_ints : ∀ (ns : List Int), Dts K G A (ns.map V.int) (ns.map Dat.int)
  | [] => .nil
  | n :: ns => .cons (.int n) (dts_ints ns)
theorem dts_strs : ∀ (ns : List Str), Dts K G A (ns.map V.str) (ns.map Dat.str)
  | [] => .nil
  | n :: ns => .cons (.str n) (dts_strs ns)
end
section
variable {X : Cy} {pos : Pos}
/-! ### len -/
@[simp] def wLen : WC := fun rs ms k => match rs with
  | [r] => (match look ms r with
    | some (.lst ds) => k (.int (ds.length : Nat)) ms
    | some (.tup ds) => k (.int (ds.length : Nat)) ms
    | some (.str z) => z.length ≤ sizeLine ∧ k (.int (z.length : Nat)) ms
    | some (.scr ns) => k (.int (ns.length : Nat)) ms
    | _ => False)
  | _ => False
theorem dc_len : CallR X.X (.builtin "len") (fun xs H Q => ∃ x n, xs = [x] ∧ LenV X.X.K x H n ∧ Q (.int n) H) ∧ LC X.S (fun xs H Q => ∃ x n, xs = [x] ∧ LenV X.X.K x H n ∧ Q (.int n) H) wLen := ⟨call_len, fun W vs rs ms Q k hK ok O hw q => by
  unfold wLen at hw
  split at hw
  · rename_i r
    obtain ⟨v, rfl, o1⟩ := ok.one
    rw [show X.X.K = W.K from (congrArg Sg.K hK).symm]
    split at hw
    · rename_i ds e
      obtain ⟨a, xs, rfl, h1, h2⟩ := O.list o1 e
      exact ⟨_, ds.length, rfl, .inl ⟨xs, SqL.of h1, h2.length.symm⟩, q W _ (.int _) ms (Ext.refl W) O (.int _) hw⟩
    · rename_i ds e
      obtain ⟨a, xs, rfl, _, h1, h2⟩ := O.tuple o1 e
      exact ⟨_, ds.length, rfl, .inr ⟨xs, SqT.of h1, h2.length.symm⟩, q W _ (.int _) ms (Ext.refl W) O (.int _) hw⟩
    · rename_i z e
      have := O.strv o1 e
      subst this
      exact ⟨_, z.length, rfl, ⟨hw.1, rfl⟩, q W _ (.int _) ms (Ext.refl W) O (.int _) hw.2⟩
    · rename_i ns e
      obtain ⟨a, rfl, h1⟩ := O.scr o1 e
      exact ⟨_, ns.length, rfl, .inl ⟨_, h1, by rw [List.length_map]⟩, q W _ (.int _) ms (Ext.refl W) O (.int _) hw⟩
    · exact hw.elim
  · exact hw.elim⟩
/-! ### isinstance, built-in classes -/
theorem Own.nonv {W : Wd} {ms : Ms} {v : V} {r : Dat} (O : Own W ms) (ok : RvOk W v r) (h : look ms r = some .non) : v = .non := by
  rcases look_cases h with ⟨_, rfl⟩ | ⟨i, rfl⟩
  · cases ok; rfl
  · rcases look_kind h with ⟨_, e⟩ | ⟨_, e⟩ <;> cases e
theorem Own.blv {W : Wd} {ms : Ms} {v : V} {r : Dat} {b : Bool} (O : Own W ms) (ok : RvOk W v r) (h : look ms r = some (.bl b)) : v = .bl b := by
  rcases look_cases h with ⟨_, rfl⟩ | ⟨i, rfl⟩
  · cases ok; rfl
  · rcases look_kind h with ⟨_, e⟩ | ⟨_, e⟩ <;> cases e
@[simp] def isTy : Dat → String → Bool
  | .non, T => T == "NoneType"
  | .bl _, T => T == "bool" || T == "int"
  | .int _, T => T == "int"
  | .str _, T => T == "str"
  | .lst _, T => T == "list"
  | .tup _, T => T == "tuple"
  | .dic _, T => T == "dict"
  | _, _ => false
def tyTag : Dat → String
  | .non => "NoneType"
  | .bl _ => "bool"
  | .int _ => "int"
  | .str _ => "str"
  | .lst _ => "list"
  | .tup _ => "tuple"
  | .dic _ => "dict"
  | _ => ""
@[simp] def hasTy : Dat → Bool
  | .non => true
  | .bl _ => true
  | .int _ => true
  | .str _ => true
  | .lst _ => true
  | .tup _ => true
  | .dic _ => true
  | _ => false
def tyNames : List String := ["int", "bool", "str", "list", "tuple", "dict"]
theorem kit_all : ∀ T ∈ tyNames, kitB "NoneType" T = some (T == "NoneType") ∧ kitB "bool" T = some (T == "bool" || T == "int") ∧ kitB "int" T = some (T == "int") ∧ kitB "str" T = some (T == "str") ∧ kitB "list" T = some (T == "list") ∧ kitB "tuple" T = some (T == "tuple") ∧ kitB "dict" T = some (T == "dict") := by decide +kernel
theorem kit_is {T : String} (h : T ∈ tyNames) {d : Dat} (hd : hasTy d = true) : kitB (tyTag d) T = some (isTy d T) := by
  obtain ⟨h1, h2, h3, h4, h5, h6, h7⟩ := kit_all T h
  cases d <;> first | assumption | cases hd
theorem Own.tyx {W : Wd} {ms : Ms} {v : V} {r : Dat} {x : Dat} (O : Own W ms) (ok : RvOk W v r) (h : look ms r = some x) (hx : hasTy x = true) : TyX W.K W.H v (.type (tyTag x)) := by
  cases x with
  | non => rw [O.nonv ok h]; exact .base .non
  | bl b => rw [O.blv ok h]; exact .base (.bl b)
  | int b => rw [O.intv ok h]; exact .base (.int b)
  | str b => rw [O.strv ok h]; exact .base (.str b)
  | lst ds => obtain ⟨a, xs, rfl, h1, _⟩ := O.list ok h; exact .base (.lst h1)
  | tup ds => obtain ⟨a, xs, rfl, _, h1, _⟩ := O.tuple ok h; exact .base (.tup h1)
  | dic ds =>
    obtain ⟨a, xs, rfl, h1, _⟩ := O.dict ok h
    rcases h1 with h1 | ⟨o, h1⟩
    · exact .base (.dK h1)
    · exact .fDict h1
  | _ => cases hx
@[simp] def wIsi : WC := fun rs ms k => match rs with
  | [r, (.ty T)] => ∃ x, look ms r = some x ∧ hasTy x = true ∧ T ∈ tyNames ∧ k (.bl (isTy x T)) ms
  | _ => False
theorem dc_isi : CallR X.X (.builtin "isinstance") (rIsi X.X.K) ∧ LC X.S (rIsi X.X.K) wIsi := ⟨call_isi, fun W vs rs ms Q k hK ok O hw q => by
  unfold wIsi at hw
  split at hw
  · rename_i r T
    obtain ⟨v, c, rfl, o1, oc⟩ := ok.two
    obtain ⟨x, e, hx, hT, hk⟩ := hw
    cases oc
    rw [show X.X.K = W.K from (congrArg Sg.K hK).symm]
    exact ⟨v, .ty T, .type (tyTag x), .type T, isTy x T, rfl, .ty T, O.tyx o1 e hx, kit_ty (kit_is hT hx), q W _ (.bl _) ms (Ext.refl W) O (.bl _) hk⟩
  · exact hw.elim⟩
@[simp] def wIsi2 : WC := fun rs ms k => match rs with
  | [r, (.tup [.ty T, .ty U])] => ∃ x, look ms r = some x ∧ hasTy x = true ∧ T ∈ tyNames ∧ U ∈ tyNames ∧ k (.bl (isTy x T || isTy x U)) ms
  | _ => False
theorem dc_isi2 : CallR X.X (.builtin "isinstance") (rIsiT X.X.K) ∧ LC X.S (rIsiT X.X.K) wIsi2 := ⟨call_isiT, fun W vs rs ms Q k hK ok O hw q => by
  unfold wIsi2 at hw
  split at hw
  · rename_i r T U
    obtain ⟨v, c, rfl, o1, oc⟩ := ok.two
    obtain ⟨x, e, hx, hT, hU, hk⟩ := hw
    cases oc with
    | tup h1 h2 =>
      cases h2 with
      | cons a1 h2 =>
        cases h2 with
        | cons a2 h2 =>
          cases h2
          cases a1
          cases a2
          rw [show X.X.K = W.K from (congrArg Sg.K hK).symm]
          refine ⟨v, _, [.ty T, .ty U], .type (tyTag x), [.type T, .type U], isTy x T || isTy x U, rfl, O.ex _ _ h1, .cons (.ty T) (.cons (.ty U) .nil), O.tyx o1 e hx, ?_, q W _ (.bl _) ms (Ext.refl W) O (.bl _) hk⟩
          refine kitAny_cons (kit_ty (kit_is hT hx)) (fun hf => ?_) (fun ht => by rw [ht]; rfl)
          rw [hf]
          refine kitAny_cons (kit_ty (kit_is hU hx)) (fun hf => ?_) (fun ht => by rw [ht]; rfl)
          rw [hf]
          rfl
  · exact hw.elim⟩
/-! ### numbers -/
@[simp] def wMax2 : WC := fun rs ms k => match rs with
  | [(.int i), (.int j)] => k (.int (if j > i then j else i)) ms
  | _ => False
theorem dc_max2 (hc : X.X.calm = true) : CallR X.X (.builtin "max") (fun xs H Q => ∃ i j, xs = [.int i, .int j] ∧ Q (.int (if j > i then j else i)) H) ∧ LC X.S (fun xs H Q => ∃ i j, xs = [.int i, .int j] ∧ Q (.int (if j > i then j else i)) H) wMax2 := ⟨call_max2 hc, fun W vs rs ms Q k hK ok O hw q => by
  unfold wMax2 at hw
  split at hw
  · obtain ⟨v, c, rfl, o1, o2⟩ := ok.two
    cases o1
    cases o2
    exact ⟨_, _, rfl, q W _ (.int _) ms (Ext.refl W) O (.int _) hw⟩
  · exact hw.elim⟩
@[simp] def wMin2 : WC := fun rs ms k => match rs with
  | [(.int i), (.int j)] => k (.int (if j < i then j else i)) ms
  | _ => False
theorem dc_min2 (hc : X.X.calm = true) : CallR X.X (.builtin "min") (fun xs H Q => ∃ i j, xs = [.int i, .int j] ∧ Q (.int (if j < i then j else i)) H) ∧ LC X.S (fun xs H Q => ∃ i j, xs = [.int i, .int j] ∧ Q (.int (if j < i then j else i)) H) wMin2 := ⟨call_min2 hc, fun W vs rs ms Q k hK ok O hw q => by
  unfold wMin2 at hw
  split at hw
  · obtain ⟨v, c, rfl, o1, o2⟩ := ok.two
    cases o1
    cases o2
    exact ⟨_, _, rfl, q W _ (.int _) ms (Ext.refl W) O (.int _) hw⟩
  · exact hw.elim⟩
@[simp] def wAbs : WC := fun rs ms k => match rs with
  | [(.int i)] => k (.int (if i < 0 then -i else i)) ms
  | _ => False
theorem dc_abs : CallR X.X (.builtin "abs") (fun xs H Q => ∃ i, xs = [.int i] ∧ Q (.int (if i < 0 then -i else i)) H) ∧ LC X.S (fun xs H Q => ∃ i, xs = [.int i] ∧ Q (.int (if i < 0 then -i else i)) H) wAbs := ⟨call_abs, fun W vs rs ms Q k hK ok O hw q => by
  unfold wAbs at hw
  split at hw
  · obtain ⟨v, rfl, o1⟩ := ok.one
    cases o1
    exact ⟨_, rfl, q W _ (.int _) ms (Ext.refl W) O (.int _) hw⟩
  · exact hw.elim⟩
@[simp] def wInt1 : WC := fun rs ms k => match rs with
  | [(.int i)] => k (.int i) ms
  | [(.bl b)] => k (.int (if b then 1 else 0)) ms
  | _ => False
theorem dc_int1 : CallR X.X (.type "int") (fun xs H Q => (∃ i, xs = [.int i] ∧ Q (.int i) H) ∨ ∃ k, xs = [.bl k] ∧ Q (.int (if k then 1 else 0)) H) ∧ LC X.S (fun xs H Q => (∃ i, xs = [.int i] ∧ Q (.int i) H) ∨ ∃ k, xs = [.bl k] ∧ Q (.int (if k then 1 else 0)) H) wInt1 := ⟨call_int1, fun W vs rs ms Q k hK ok O hw q => by
  unfold wInt1 at hw
  split at hw
  · obtain ⟨v, rfl, o1⟩ := ok.one
    cases o1
    exact .inl ⟨_, rfl, q W _ (.int _) ms (Ext.refl W) O (.int _) hw⟩
  · obtain ⟨v, rfl, o1⟩ := ok.one
    cases o1
    exact .inr ⟨_, rfl, q W _ (.int _) ms (Ext.refl W) O (.int _) hw⟩
  · exact hw.elim⟩
@[simp] def wUn (g : Int → Int) (we : WE) : WE := fun ρ ms k => we ρ ms fun r ms1 => match r with
  | (.int i) => k (.int (g i)) ms1
  | _ => False
theorem de_neg {a : Expr} {we : WE} (h : DE X a we) : DE X (.UnaryOp .USub a pos) (wUn (fun i => -i) we) := by
  obtain ⟨t, p, l⟩ := h
  refine ⟨_, pe_un un_neg p, fun W σ ρ ms Q k hK R O hw q => l W σ ρ ms _ _ hK R O hw fun W1 v r ms1 e1 O1 ok1 h1 => ?_⟩
  split at h1
  · cases ok1
    exact ⟨_, rfl, q W1 _ (.int _) ms1 e1 O1 (.int _) h1⟩
  · exact h1.elim
/-! ### all, any, max, min, sorted of lists -/
@[simp] def wAllL : WC := fun rs ms k => match rs with
  | [r] => ∃ bs : List Bool, look ms r = some (.lst (bs.map Dat.bl)) ∧ k (.bl (bs.all id)) ms
  | _ => False
@[simp] def wAnyL : WC := fun rs ms k => match rs with
  | [r] => ∃ bs : List Bool, look ms r = some (.lst (bs.map Dat.bl)) ∧ k (.bl (bs.any id)) ms
  | _ => False
theorem dc_all (hc : X.X.calm = true) : CallR X.X (.builtin "all") (rAll X.X.K) ∧ LC X.S (rAll X.X.K) wAllL := ⟨cr_all hc, fun W vs rs ms Q k hK ok O hw q => by
  unfold wAllL at hw
  split at hw
  · obtain ⟨v, rfl, o1⟩ := ok.one
    obtain ⟨bs, e, hk⟩ := hw
    obtain ⟨a, xs, rfl, h1, h2⟩ := O.list o1 e
    rw [h2.bls] at h1
    exact ⟨a, bs, rfl, SqL.of h1, q W _ (.bl _) ms (Ext.refl W) O (.bl _) hk⟩
  · exact hw.elim⟩
theorem dc_any (hc : X.X.calm = true) : CallR X.X (.builtin "any") (rAny X.X.K) ∧ LC X.S (rAny X.X.K) wAnyL := ⟨cr_any hc, fun W vs rs ms Q k hK ok O hw q => by
  unfold wAnyL at hw
  split at hw
  · obtain ⟨v, rfl, o1⟩ := ok.one
    obtain ⟨bs, e, hk⟩ := hw
    obtain ⟨a, xs, rfl, h1, h2⟩ := O.list o1 e
    rw [h2.bls] at h1
    exact ⟨a, bs, rfl, SqL.of h1, q W _ (.bl _) ms (Ext.refl W) O (.bl _) hk⟩
  · exact hw.elim⟩
@[simp] def wMaxL : WC := fun rs ms k => match rs with
  | [r] => ∃ ns : List Int, look ms r = some (.lst (ns.map Dat.int)) ∧ 0 < ns.length ∧ ∀ m, m ∈ ns → (∀ y, y ∈ ns → y ≤ m) → k (.int m) ms
  | _ => False
@[simp] def wMinL : WC := fun rs ms k => match rs with
  | [r] => ∃ ns : List Int, look ms r = some (.lst (ns.map Dat.int)) ∧ 0 < ns.length ∧ ∀ m, m ∈ ns → (∀ y, y ∈ ns → m ≤ y) → k (.int m) ms
  | _ => False
theorem dc_maxL (hc : X.X.calm = true) : CallR X.X (.builtin "max") (rMax X.X.K) ∧ LC X.S (rMax X.X.K) wMaxL := ⟨cr_max hc, fun W vs rs ms Q k hK ok O hw q => by
  unfold wMaxL at hw
  split at hw
  · obtain ⟨v, rfl, o1⟩ := ok.one
    obtain ⟨ns, e, hl, hk⟩ := hw
    obtain ⟨a, xs, rfl, h1, h2⟩ := O.list o1 e
    rw [h2.ints] at h1
    exact ⟨a, ns, rfl, SqL.of h1, hl, fun m hm hy => q W _ (.int _) ms (Ext.refl W) O (.int _) (hk m hm hy)⟩
  · exact hw.elim⟩
theorem dc_minL (hc : X.X.calm = true) : CallR X.X (.builtin "min") (rMin X.X.K) ∧ LC X.S (rMin X.X.K) wMinL := ⟨cr_min hc, fun W vs rs ms Q k hK ok O hw q => by
  unfold wMinL at hw
  split at hw
  · obtain ⟨v, rfl, o1⟩ := ok.one
    obtain ⟨ns, e, hl, hk⟩ := hw
    obtain ⟨a, xs, rfl, h1, h2⟩ := O.list o1 e
    rw [h2.ints] at h1
    exact ⟨a, ns, rfl, SqL.of h1, hl, fun m hm hy => q W _ (.int _) ms (Ext.refl W) O (.int _) (hk m hm hy)⟩
  · exact hw.elim⟩
@[simp] def wSortI : WC := fun rs ms k => match rs with
  | [r] => ∃ ns : List Int, look ms r = some (.lst (ns.map Dat.int)) ∧ ∀ ns' : List Int, ns'.Perm ns → ns'.Pairwise (· ≤ ·) → k (.lst (ns'.map Dat.int)) ms
  | _ => False
theorem dc_sortI : CallR X.X (.builtin "sorted") (rSortedI X.X.K) ∧ LC X.S (rSortedI X.X.K) wSortI := ⟨cr_sortedI, fun W vs rs ms Q k hK ok O hw q => by
  unfold wSortI at hw
  split at hw
  · obtain ⟨v, rfl, o1⟩ := ok.one
    obtain ⟨ns, e, hk⟩ := hw
    obtain ⟨a, xs, rfl, h1, h2⟩ := O.list o1 e
    rw [h2.ints] at h1
    refine ⟨a, ns, rfl, SqL.of h1, fun ns' p hp hs hnew => ?_⟩
    obtain ⟨O2, e2⟩ := O.lay (o := .lst (ns'.map V.int)) hnew
    exact q (W.lay p _) (.ref p) (.lst (ns'.map Dat.int)) ms e2 O2 (.lst upd_same (dts_ints ns')) (hk ns' hp hs)
  · exact hw.elim⟩
/-! ### list(..), tuple(..) -/
@[simp] def wTupleOf : WC := fun rs ms k => match rs with
  | [r] => (match look ms r with
    | some (.lst ds) => k (.tup ds) ms
    | some (.tup ds) => k (.tup ds) ms
    | _ => False)
  | _ => False
theorem dc_tupleOf : CallR X.X (.type "tuple") (fun xs H Q => ∃ p ys, xs = [.ref p] ∧ ((SqL X.X.K H p ys ∧ ∀ l, H l = none → Q (.ref l) (upd H l (.tup ys))) ∨ (SqT X.X.K H p ys ∧ Q (.ref p) H))) ∧
    LC X.S (fun xs H Q => ∃ p ys, xs = [.ref p] ∧ ((SqL X.X.K H p ys ∧ ∀ l, H l = none → Q (.ref l) (upd H l (.tup ys))) ∨ (SqT X.X.K H p ys ∧ Q (.ref p) H))) wTupleOf := ⟨call_tuple_of, fun W vs rs ms Q k hK ok O hw q => by
  unfold wTupleOf at hw
  split at hw
  · obtain ⟨v, rfl, o1⟩ := ok.one
    split at hw
    · rename_i ds e
      obtain ⟨a, xs, rfl, h1, h2⟩ := O.list o1 e
      refine ⟨a, xs, rfl, .inl ⟨SqL.of h1, fun p hp => ?_⟩⟩
      obtain ⟨O2, e2⟩ := O.lay (o := .tup xs) hp
      exact q (W.lay p _) (.ref p) (.tup ds) ms e2 O2 (.tup upd_same (up_vs e2 (h2))) hw
    · rename_i ds e
      obtain ⟨a, xs, rfl, h0, h1, h2⟩ := O.tuple o1 e
      exact ⟨a, xs, rfl, .inr ⟨SqT.of h1, q W _ (.tup ds) ms (Ext.refl W) O (.tup h0 h2) hw⟩⟩
    · exact hw.elim
  · exact hw.elim⟩
@[simp] def wListOf : WC := fun rs ms k => match rs with
  | [r] => (match look ms r with
    | some (.lst ds) => k (.lst ds) ms
    | some (.tup ds) => k (.lst ds) ms
    | _ => False)
  | _ => False
theorem dc_listOf : CallR X.X (.type "list") (fun xs H Q => ∃ p ys, xs = [.ref p] ∧ (SqL X.X.K H p ys ∨ SqT X.X.K H p ys) ∧ ∀ l, H l = none → Q (.ref l) (upd H l (.lst ys))) ∧
    LC X.S (fun xs H Q => ∃ p ys, xs = [.ref p] ∧ (SqL X.X.K H p ys ∨ SqT X.X.K H p ys) ∧ ∀ l, H l = none → Q (.ref l) (upd H l (.lst ys))) wListOf := ⟨call_list_of, fun W vs rs ms Q k hK ok O hw q => by
  unfold wListOf at hw
  split at hw
  · obtain ⟨v, rfl, o1⟩ := ok.one
    split at hw
    · rename_i ds e
      obtain ⟨a, xs, rfl, h1, h2⟩ := O.list o1 e
      refine ⟨a, xs, rfl, .inl (SqL.of h1), fun p hp => ?_⟩
      obtain ⟨O2, e2⟩ := O.lay (o := .lst xs) hp
      exact q (W.lay p _) (.ref p) (.lst ds) ms e2 O2 (.lst upd_same (up_vs e2 (h2))) hw
    · rename_i ds e
      obtain ⟨a, xs, rfl, _, h1, h2⟩ := O.tuple o1 e
      refine ⟨a, xs, rfl, .inr (SqT.of h1), fun p hp => ?_⟩
      obtain ⟨O2, e2⟩ := O.lay (o := .lst xs) hp
      exact q (W.lay p _) (.ref p) (.lst ds) ms e2 O2 (.lst upd_same (up_vs e2 (h2))) hw
    · exact hw.elim
  · exact hw.elim⟩
/-! ### lists and tuples put together, cut -/
def wCatL : WR2 := fun a b ms k => match look ms a, look ms b with
  | some (.lst x), some (.lst y) => x.length + y.length ≤ sizeLine ∧ k (.lst (x ++ y)) ms
  | _, _ => False
theorem do_catL : OpR X.X (binaryOp .Add) rCat ∧ LR2 X.S rCat wCatL := ⟨op_cat, fun W x y a b ms Q k hK oa ob O hw q => by
  unfold wCatL at hw
  split at hw
  · rename_i xs ys e1 e2
    obtain ⟨p, us, rfl, h1, h2⟩ := O.list oa e1
    obtain ⟨p', us', rfl, h1', h2'⟩ := O.list ob e2
    refine ⟨p, p', us, us', rfl, rfl, h1, h1', by rw [h2.length, h2'.length]; exact hw.1, fun n hn => ?_⟩
    obtain ⟨O2, e2⟩ := O.lay (o := .lst (us ++ us')) hn
    exact q (W.lay n _) (.ref n) (.lst (xs ++ ys)) ms e2 O2 (.lst upd_same (up_vs e2 ((h2.append h2')))) hw.2
  · exact hw.elim⟩
def wRepL : WR2 := fun a b ms k => match look ms a, b with
  | some (.lst x), (.int n) => -(2 ^ 63) ≤ n ∧ n < 2 ^ 63 ∧ x.length * n.toNat ≤ sizeLine ∧ k (.lst (List.replicate n.toNat x).flatten) ms
  | _, _ => False
theorem do_repL : OpR X.X (binaryOp .Mult) rRep ∧ LR2 X.S rRep wRepL := ⟨op_rep, fun W x y a b ms Q k hK oa ob O hw q => by
  unfold wRepL at hw
  split at hw
  · rename_i xs n e1
    obtain ⟨p, us, rfl, h1, h2⟩ := O.list oa e1
    cases ob
    refine ⟨p, n, us, rfl, rfl, h1, hw.1, hw.2.1, by rw [h2.length]; exact hw.2.2.1, fun m hm => ?_⟩
    obtain ⟨O2, e2⟩ := O.lay (o := .lst (List.replicate n.toNat us).flatten) hm
    exact q (W.lay m _) (.ref m) (.lst _) ms e2 O2 (.lst upd_same (up_vs e2 ((h2.repl n.toNat)))) hw.2.2.2
  · exact hw.elim⟩
abbrev WO := Env → Ms → (Option Int → Ms → Prop) → Prop
def LO (S : Sg) (t : TO) (w : WO) : Prop := ∀ (W : Wd) (σ : L2.St) (ρ : Env) (ms : Ms) (Q : Option Int → Hp → Prop) (k : Option Int → Ms → Prop), W.S = S → Rel W σ ρ → Own W ms → w ρ ms k →
  (∀ W' b ms', Ext W W' → Own W' ms' → k b ms' → Q b W'.H) → t σ W.H Q
def DO (X : Cy) (e : Option Expr) (w : WO) : Prop := ∃ t, PO X.X e t ∧ LO X.S t w
@[simp] def wNoPart : WO := fun _ ms k => k none ms
@[simp] def wPart (we : WE) : WO := fun ρ ms k => we ρ ms fun r ms1 => match r with
  | (.int i) => k (some i) ms1
  | _ => False
theorem dpo_none : DO X none wNoPart := ⟨_, po_none, fun W σ ρ ms Q k hK R O h q => q W none ms (Ext.refl W) O h⟩
theorem dpo_some {e : Expr} {we : WE} (h : DE X e we) : DO X (some e) (wPart we) := by
  obtain ⟨t, p, l⟩ := h
  refine ⟨_, po_some p, fun W σ ρ ms Q k hK R O hw q => l W σ ρ ms _ _ hK R O hw fun W1 v r ms1 e1 O1 ok1 h1 => ?_⟩
  split at h1
  · cases ok1
    exact ⟨_, rfl, q W1 _ ms1 e1 O1 h1⟩
  · exact h1.elim
def cutD (xs : List Dat) (lo hi : Option Int) : List Dat := (xs.drop (HT.sIx xs.length 0 lo)).take (HT.sIx xs.length xs.length hi - HT.sIx xs.length 0 lo)
theorem Dts.cut {K : PySem.W.Frag} {G : Hp} {A : List Addr} {vs : List V} {ds : List Dat} (h : Dts K G A vs ds) (lo hi : Option Int) : Dts K G A (cutV vs lo hi) (cutD ds lo hi) := by
  unfold cutV cutD
  rw [h.length]
  exact (h.drop _).take _
@[simp] def wSl (we : WE) (wl wh : WO) : WE := fun ρ ms k => we ρ ms fun r ms1 => wl ρ ms1 fun lo ms2 => wh ρ ms2 fun hi ms3 => match look ms3 r with
  | some (.lst ds) => k (.lst (cutD ds lo hi)) ms3
  | some (.tup ds) => k (.tup (cutD ds lo hi)) ms3
  | _ => False
theorem SlR.or {r r' : V → Option Int → Option Int → Hp → VK → Prop} (h : SlR X.X r) (h' : SlR X.X r') : SlR X.X (fun x lo hi H Q => r x lo hi H Q ∨ r' x lo hi H Q) := fun pins s σ H x v vl vu lo hi sl Q I rx hs pl pu hh =>
  hh.elim (h pins s σ H x v vl vu lo hi sl Q I rx hs pl pu) (h' pins s σ H x v vl vu lo hi sl Q I rx hs pl pu)
theorem cut_whole {α : Type} (xs : List α) (lo hi : Option Int) (h : HT.sIx xs.length 0 lo = 0 ∧ HT.sIx xs.length xs.length hi = xs.length) : (xs.drop (HT.sIx xs.length 0 lo)).take (HT.sIx xs.length xs.length hi - HT.sIx xs.length 0 lo) = xs := by
  rw [h.1, h.2, List.drop_zero, Nat.sub_zero, List.take_length]
theorem de_slice {e : Expr} {lo hi : Option Expr} {p2 : Pos} {we : WE} {wl wh : WO} (he : DE X e we) (hl : DO X lo wl) (hu : DO X hi wh) : DE X (.Subscript e (.Slice lo hi none p2) pos) (wSl we wl wh) := by
  obtain ⟨t, p, l⟩ := he
  obtain ⟨tl, pl, ll⟩ := hl
  obtain ⟨th, ph, lh⟩ := hu
  refine ⟨_, pe_slice (sl_list.or sl_tupA) p pl ph, fun W σ ρ ms Q k hK R O hw q => ?_⟩
  refine l W σ ρ ms _ _ hK R O hw fun W1 v r ms1 e1 O1 ok1 h1 => ll W1 σ ρ ms1 _ _ (e1.s.trans hK) (R.mono e1) O1 h1 fun W2 a ms2 e2 O2 h2 => lh W2 σ ρ ms2 _ _ (e2.s.trans (e1.s.trans hK)) ((R.mono e1).mono e2) O2 h2 fun W3 b ms3 e3 O3 h3 => ?_
  have hK3 := e3.s.trans (e2.s.trans (e1.s.trans hK))
  have ok3 := up_v e3 (up_v e2 ok1)
  have e03 := (e1.trans e2).trans e3
  rw [show X.X.K = W3.K from (congrArg Sg.K hK3).symm]
  split at h3
  · rename_i ds e
    obtain ⟨p, us, rfl, g1, g2⟩ := O3.list ok3 e
    refine .inl ⟨p, us, rfl, SqL.of g1, fun n hn => ?_⟩
    obtain ⟨O4, e4⟩ := O3.lay (o := .lst (cutV us a b)) hn
    exact q (W3.lay n _) (.ref n) (.lst _) ms3 (e03.trans e4) O4 (.lst upd_same (up_vs e4 (g2.cut a b))) h3
  · rename_i ds e
    obtain ⟨p, us, rfl, g0, g1, g2⟩ := O3.tuple ok3 e
    refine .inr ⟨p, us, rfl, SqT.of g1, fun hwh => ?_, fun _ n hn => ?_⟩
    · have hd : cutD ds a b = ds := by
        unfold cutD
        rw [g2.length] at hwh
        exact cut_whole ds a b hwh
      rw [hd] at h3
      exact q W3 _ (.tup ds) ms3 e03 O3 (.tup g0 g2) h3
    · obtain ⟨O4, e4⟩ := O3.lay (o := .tup (cutV us a b)) hn
      exact q (W3.lay n _) (.ref n) (.tup _) ms3 (e03.trans e4) O4 (.tup upd_same (up_vs e4 (g2.cut a b))) h3
  · exact h3.elim
/-! ### owned lists are changed -/
/-- xs.append(e) -/
@[simp] def wApp (wo we : WE) : WE := fun ρ ms k => wo ρ ms fun r ms1 => match r with
  | .own j => (match ms1[j]? with
    | some (.lst _) => we ρ ms1 fun d ms2 => (match ms2[j]? with
      | some (.lst ds) => ds.length < sizeLine ∧ k .non (ms2.set j (.lst (ds ++ [d])))
      | _ => False)
    | _ => False)
  | _ => False
theorem Own.lstAt {W : Wd} {ms : Ms} {j : Nat} {ds : List Dat} (O : Own W ms) (h : ms[j]? = some (.lst ds)) : ∃ a xs, W.A[j]? = some a ∧ W.G a = none ∧ W.H a = some (.lst xs) ∧ RvsOk W xs ds := by
  obtain ⟨b, o, hb, hg, ho, xs, rfl, q⟩ := O.cell j _ h (fun z => by cases z)
  exact ⟨b, xs, hb, hg, ho, q⟩
theorem Own.dicAt {W : Wd} {ms : Ms} {j : Nat} {ds : List (Key × Dat)} (O : Own W ms) (h : ms[j]? = some (.dic ds)) : ∃ a xs, W.A[j]? = some a ∧ W.G a = none ∧ W.H a = some (.dK xs) ∧ RkOk W xs ds := by
  obtain ⟨b, o, hb, hg, ho, xs, rfl, q⟩ := O.cell j _ h (fun z => by cases z)
  exact ⟨b, xs, hb, hg, ho, q⟩
/-- a list is written -/
theorem Own.putLst {W : Wd} {ms : Ms} {j : Nat} {a : Addr} {xs ys : List V} {ds : List Dat} (O : Own W ms) (ha : W.A[j]? = some a) (hg : W.G a = none) (ho : W.H a = some (.lst xs)) (q : RvsOk W ys ds) : Own (W.put a (.lst ys)) (ms.set j (.lst ds)) ∧ Ext W (W.put a (.lst ys)) :=
  ⟨O.put ha hg ⟨ys, rfl, q⟩, Ext.put ho fun _ _ z => by cases z⟩
theorem Own.putDic {W : Wd} {ms : Ms} {j : Nat} {a : Addr} {xs ys : List (Key × V)} {ds : List (Key × Dat)} (O : Own W ms) (ha : W.A[j]? = some a) (hg : W.G a = none) (ho : W.H a = some (.dK xs)) (q : RkOk W ys ds) : Own (W.put a (.dK ys)) (ms.set j (.dic ds)) ∧ Ext W (W.put a (.dK ys)) :=
  ⟨O.put ha hg ⟨ys, rfl, q⟩, Ext.put ho fun _ _ z => by cases z⟩
theorem de_append {o e : Expr} {apos cpos : Pos} {wo we : WE} (ho : DE X o wo) (he : DE X e we) (hbase : attributeBase o "append" X.X.env (eval o X.X.env) = eval o X.X.env := by rfl) (hs : starEach [e] X.X.env = (false, eval e X.X.env) :: starEach [] X.X.env := by rfl) (hpl : (backTo cpos (starEach [] X.X.env)).any (·.1) = false := by rfl)
    (hfew : ((backTo cpos (starEach [e] X.X.env)).all (fun x => !x.1) && (backToKw cpos (keywordEach [] X.X.env)).all (fun x => x.1.isSome)
      && decide ([e].length + ([] : List Keyword).length + (if ([] : List Keyword).isEmpty then 0 else 1) < 30)) = true := by rfl) (hline : (apos.endLine == cpos.line) = true := by rfl) :
    DE X (.Call (.Attribute o "append" apos) [e] [] cpos) (wApp wo we) := by
  obtain ⟨t, p, l⟩ := ho
  obtain ⟨te, pe, le⟩ := he
  refine ⟨_, pe_bm PySem.F.plainAttrs_list PySem.F.slot_list_append PySem.F.type_list_append mt_append p (pa_cons pe pa_nil hs) hbase hfew hline hs hpl, fun W σ ρ ms Q k hK R O hw q => ?_⟩
  refine l W σ ρ ms _ _ hK R O hw fun W1 v r ms1 e1 O1 ok1 h1 => ?_
  split at h1
  · rename_i j
    split at h1
    · rename_i ds0 hj
      obtain ⟨b, xs0, hb, hg, g1, g2⟩ := O1.lstAt hj
      cases ok1 with
      | own ha =>
        rw [ha] at hb; cases hb
        refine ⟨.inl ⟨rfl, xs0, SqL.of g1⟩, ?_⟩
        refine le W1 σ ρ ms1 _ _ (e1.s.trans hK) (R.mono e1) O1 h1 fun W2 y d ms2 e2 O2 ok2 h2 => ?_
        split at h2
        · rename_i ds e3
          obtain ⟨b, xs, hb, hg2, k1, k2⟩ := O2.lstAt e3
          rw [e2.adr j _ ha] at hb; cases hb
          refine ⟨_, xs, y, rfl, rfl, k1, by rw [k2.length]; exact h2.1, ?_⟩
          obtain ⟨O3, e4⟩ := O2.putLst (e2.adr j _ ha) hg2 k1 (Dts.append k2 (.cons ok2 .nil))
          exact q _ .non .non _ ((e1.trans e2).trans e4) O3 .non h2.2
        · exact h2.elim
    · exact h1.elim
  · exact h1.elim
end
end Sy
namespace Sy
open PySem PySem.Spec PyProof.Rows L2
section
variable {X : Cy} {pos : Pos}
/-! ## operators that look at what they get -/
@[simp] def wAdd : WR2 := fun a b ms k => match look ms a, look ms b with
  | some (.int i), some (.int j) => k (.int (i + j)) ms
  | some (.str x), some (.str y) => x.length + y.length ≤ sizeLine ∧ k (.str (x ++ y)) ms
  | some (.lst x), some (.lst y) => x.length + y.length ≤ sizeLine ∧ k (.lst (x ++ y)) ms
  | some (.tup x), some (.tup y) => x.length + y.length ≤ sizeLine ∧ k (.tup (x ++ y)) ms
  | _, _ => False
def rAdd4 (K : PySem.W.Frag) : R2 := fun x y H Q => (rI0 (fun i j => .int (i + j)) x y H Q ∨ (∃ i j, x = .str i ∧ y = .str j ∧ i.length + j.length ≤ sizeLine ∧ Q (.str (i ++ j)) H)) ∨ (rCat x y H Q ∨ rCatA K x y H Q)
theorem do_add : OpR X.X (binaryOp .Add) (rAdd4 X.X.K) ∧ LR2 X.S (rAdd4 X.X.K) wAdd := by
  refine ⟨OpR.or (OpR.or op_add op_add_str) (OpR.or op_cat op_catA), fun W x y a b ms Q k hK oa ob O hw q => ?_⟩
  unfold wAdd at hw
  split at hw
  · rename_i i j e1 e2
    rw [O.intv oa e1, O.intv ob e2]
    exact .inl (.inl ⟨i, j, rfl, rfl, q W _ (.int _) ms (Ext.refl W) O (.int _) hw⟩)
  · rename_i i j e1 e2
    rw [O.strv oa e1, O.strv ob e2]
    exact .inl (.inr ⟨i, j, rfl, rfl, hw.1, q W _ (.str _) ms (Ext.refl W) O (.str _) hw.2⟩)
  · rename_i xs ys e1 e2
    refine .inr (.inl ((do_catL (X := X)).2 W x y a b ms Q k hK oa ob O ?_ q))
    unfold wCatL
    rw [e1, e2]
    exact hw
  · rename_i xs ys e1 e2
    obtain ⟨p, us, rfl, g0, g1, g2⟩ := O.tuple oa e1
    obtain ⟨p', us', rfl, g0', g1', g2'⟩ := O.tuple ob e2
    rw [show X.X.K = W.K from (congrArg Sg.K hK).symm]
    refine .inr (.inr ⟨p, p', us, us', rfl, rfl, SqT.of g1, SqT.of g1', by rw [g2.length, g2'.length]; exact hw.1, fun he => ?_, fun _ he => ?_, fun _ _ n hn => ?_⟩)
    · subst he
      cases g2
      exact q W _ (.tup ys) ms (Ext.refl W) O (.tup g0' g2') hw.2
    · subst he
      cases g2'
      have hh := hw.2
      rw [List.append_nil] at hh
      exact q W _ (.tup xs) ms (Ext.refl W) O (.tup g0 g2) hh
    · obtain ⟨O2, x2⟩ := O.lay (o := .tup (us ++ us')) hn
      exact q (W.lay n _) (.ref n) (.tup (xs ++ ys)) ms x2 O2 (.tup upd_same (up_vs x2 (g2.append g2'))) hw.2
  · exact hw.elim
@[simp] def wMul : WR2 := fun a b ms k => match look ms a, look ms b with
  | some (.int i), some (.int j) => CMul i j ∧ k (.int (i * j)) ms
  | some (.lst x), some (.int n) => -(2 ^ 63) ≤ n ∧ n < 2 ^ 63 ∧ x.length * n.toNat ≤ sizeLine ∧ k (.lst (List.replicate n.toNat x).flatten) ms
  | _, _ => False
theorem do_mulA : OpR X.X (binaryOp .Mult) (fun x y H Q => rI CMul (fun i j => .int (i * j)) x y H Q ∨ rRep x y H Q) ∧ LR2 X.S (fun x y H Q => rI CMul (fun i j => .int (i * j)) x y H Q ∨ rRep x y H Q) wMul := by
  refine ⟨OpR.or op_mul op_rep, fun W x y a b ms Q k hK oa ob O hw q => ?_⟩
  unfold wMul at hw
  split at hw
  · rename_i i j e1 e2
    rw [O.intv oa e1, O.intv ob e2]
    exact .inl ⟨i, j, rfl, rfl, hw.1, q W _ (.int _) ms (Ext.refl W) O (.int _) hw.2⟩
  · rename_i xs n e1 e2
    obtain ⟨p, us, rfl, h1, h2⟩ := O.list oa e1
    rw [O.intv ob e2]
    refine .inr ⟨p, n, us, rfl, rfl, h1, hw.1, hw.2.1, by rw [h2.length]; exact hw.2.2.1, fun m hm => ?_⟩
    obtain ⟨O2, x2⟩ := O.lay (o := .lst (List.replicate n.toNat us).flatten) hm
    exact q (W.lay m _) (.ref m) (.lst _) ms x2 O2 (.lst upd_same (up_vs x2 (h2.repl n.toNat))) hw.2.2.2
  · exact hw.elim
/-- < and its like: ints, texts -/
@[simp] def wOrd (fi : Int → Int → Bool) (fs : List Nat → List Nat → Bool) : WR2 := fun a b ms k => match look ms a, look ms b with
  | some (.int i), some (.int j) => k (.bl (fi i j)) ms
  | some (.str x), some (.str y) => k (.bl (fs x.cps.toList y.cps.toList)) ms
  | _, _ => False
theorem lr_ord {S : Sg} {fi : Int → Int → Bool} {fs : List Nat → List Nat → Bool} : LR2 S (fun x y H Q => rI0 (fun i j => .bl (fi i j)) x y H Q ∨ ∃ i j, x = .str i ∧ y = .str j ∧ Q (.bl (fs i.cps.toList j.cps.toList)) H) (wOrd fi fs) := fun W x y a b ms Q k hK oa ob O hw q => by
  unfold wOrd at hw
  split at hw
  · rename_i i j e1 e2
    rw [O.intv oa e1, O.intv ob e2]
    exact .inl ⟨i, j, rfl, rfl, q W _ (.bl _) ms (Ext.refl W) O (.bl _) hw⟩
  · rename_i i j e1 e2
    rw [O.strv oa e1, O.strv ob e2]
    exact .inr ⟨i, j, rfl, rfl, q W _ (.bl _) ms (Ext.refl W) O (.bl _) hw⟩
  · exact hw.elim
@[simp] def wLt : WR2 := wOrd (fun i j => decide (i < j)) (fun x y => decide (x < y))
@[simp] def wLe : WR2 := wOrd (fun i j => decide (i ≤ j)) (fun x y => !decide (y < x))
@[simp] def wGt : WR2 := wOrd (fun i j => decide (j < i)) (fun x y => decide (y < x))
@[simp] def wGe : WR2 := wOrd (fun i j => decide (j ≤ i)) (fun x y => !decide (x < y))
theorem do_lt : OpR X.X (compareOp .Lt) (fun x y H Q => rI0 (fun i j => .bl (decide (i < j))) x y H Q ∨ ∃ i j, x = .str i ∧ y = .str j ∧ Q (.bl (decide (i.cps.toList < j.cps.toList))) H) ∧ LR2 X.S (fun x y H Q => rI0 (fun i j => .bl (decide (i < j))) x y H Q ∨ ∃ i j, x = .str i ∧ y = .str j ∧ Q (.bl (decide (i.cps.toList < j.cps.toList))) H) wLt := ⟨OpR.or op_lt op_lt_str, lr_ord⟩
theorem do_le : OpR X.X (compareOp .LtE) (fun x y H Q => rI0 (fun i j => .bl (decide (i ≤ j))) x y H Q ∨ ∃ i j, x = .str i ∧ y = .str j ∧ Q (.bl (!decide (j.cps.toList < i.cps.toList))) H) ∧ LR2 X.S (fun x y H Q => rI0 (fun i j => .bl (decide (i ≤ j))) x y H Q ∨ ∃ i j, x = .str i ∧ y = .str j ∧ Q (.bl (!decide (j.cps.toList < i.cps.toList))) H) wLe := ⟨OpR.or op_le op_le_str, lr_ord⟩
theorem do_gt : OpR X.X (compareOp .Gt) (fun x y H Q => rI0 (fun i j => .bl (decide (j < i))) x y H Q ∨ ∃ i j, x = .str i ∧ y = .str j ∧ Q (.bl (decide (j.cps.toList < i.cps.toList))) H) ∧ LR2 X.S (fun x y H Q => rI0 (fun i j => .bl (decide (j < i))) x y H Q ∨ ∃ i j, x = .str i ∧ y = .str j ∧ Q (.bl (decide (j.cps.toList < i.cps.toList))) H) wGt := ⟨OpR.or op_gt op_gt_str, lr_ord⟩
theorem do_ge : OpR X.X (compareOp .GtE) (fun x y H Q => rI0 (fun i j => .bl (decide (j ≤ i))) x y H Q ∨ ∃ i j, x = .str i ∧ y = .str j ∧ Q (.bl (!decide (i.cps.toList < j.cps.toList))) H) ∧ LR2 X.S (fun x y H Q => rI0 (fun i j => .bl (decide (j ≤ i))) x y H Q ∨ ∃ i j, x = .str i ∧ y = .str j ∧ Q (.bl (!decide (i.cps.toList < j.cps.toList))) H) wGe := ⟨OpR.or op_ge op_ge_str, lr_ord⟩
/-- is, of bools -/
@[simp] def wIsB (neg : Bool) : WR2 := fun a b ms k => match a, b with
  | (.bl x), (.bl y) => k ((.bl (if neg then !decide (x = y) else decide (x = y)))) ms
  | _, _ => False
theorem do_isB : OpR X.X (compareOp .Is) rIsB ∧ LR2 X.S rIsB (wIsB false) := ⟨op_isBl, fun W x y a b ms Q k hK oa ob O hw q => by
  unfold wIsB at hw
  split at hw
  · cases oa
    cases ob
    exact ⟨_, _, rfl, rfl, q W _ (.bl _) ms (Ext.refl W) O (.bl _) hw⟩
  · exact hw.elim⟩
theorem do_notB : OpR X.X (compareOp .IsNot) rNotB ∧ LR2 X.S rNotB (wIsB true) := ⟨op_notBl, fun W x y a b ms Q k hK oa ob O hw q => by
  unfold wIsB at hw
  split at hw
  · cases oa
    cases ob
    exact ⟨_, _, rfl, rfl, q W _ (.bl _) ms (Ext.refl W) O (.bl _) hw⟩
  · exact hw.elim⟩
/-- a < b < c as a test -/
theorem dt_chain2 {op op' : CmpOp} {r r' : R2} {w w' : WR2} {a b c : Expr} {wa wb wc : WE} (ho : OpR X.X (compareOp op) r ∧ LR2 X.S r w) (ho' : OpR X.X (compareOp op') r' ∧ LR2 X.S r' w') (ha : DE X a wa) (hb : DE X b wb) (hc : DE X c wc) (hm : lastMarks [op, op'] [b, c] = false := by with_unfolding_all rfl) : DTt X (.Compare a [op, op'] [b, c] pos) (wBt (wChain w w' wa wb wc)) := by
  obtain ⟨ta, pa, la⟩ := ha
  obtain ⟨tb, pb, lb⟩ := hb
  obtain ⟨tc, pc, lc⟩ := hc
  refine ⟨_, pt_chain ho.1 ho'.1 pa pb pc hm, ?_⟩
  refine lt_B (fun W σ ρ ms Q k hK R O hw q => ?_)
  refine la W σ ρ ms _ _ hK R O hw fun W1 x a ms1 e1 O1 ok1 h1 => lb W1 σ ρ ms1 _ _ (e1.s.trans hK) (R.mono e1) O1 h1 fun W2 y b ms2 e2 O2 ok2 h2 => ?_
  refine ho.2 W2 x y a b ms2 _ _ (e2.s.trans (e1.s.trans hK)) (up_v e2 ok1) ok2 O2 h2 fun W3 v r ms3 e3 O3 ok3 h3 => ?_
  have hK3 := e3.s.trans (e2.s.trans (e1.s.trans hK))
  split at h3
  · rename_i cc
    cases ok3
    refine ⟨cc, rfl, ?_⟩
    cases cc with
    | true => exact lc W3 σ ρ ms3 _ _ hK3 (((R.mono e1).mono e2).mono e3) O3 h3 fun W4 z zr ms4 e4 O4 ok4 h4 => ho'.2 W4 y z b zr ms4 _ _ (e4.s.trans hK3) (up_v e4 (up_v e3 ok2)) ok4 O4 h4 fun W5 v r ms5 e5 O5 ok5 h5 => q W5 v r ms5 ((((e1.trans e2).trans e3).trans e4).trans e5) O5 ok5 h5
    | false => exact q W3 _ (.bl false) ms3 ((e1.trans e2).trans e3) O3 (.bl _) h3
  · exact h3.elim
/-! ## several targets -/
theorem ds_par {i j : Nat} {x y : Str} {a b : Expr} {wa : WA} {px py pt : Pos} {kt k2 pt2} (hc : X.X.calm = true) (hN : X.X.N.Nodup) (hi : X.X.N[i]? = some x) (hj : X.X.N[j]? = some y) (hij : i ≠ j)
    (hx : X.X.env.scope.names.lookup x = some .local) (hy : X.X.env.scope.names.lookup y = some .local) (ha : DA X [a, b] wa)
    (hw : swappedStores [.Tuple [.Name x px, .Name y py] kt pt] (.Tuple [a, b] k2 pt2) X.X.env = pure (some [x, y]) := by rfl)
    (hs : swapsWithSole [.Tuple [.Name x px, .Name y py] kt pt] (.Tuple [a, b] k2 pt2) pos.line X.X.env = pure false := by rfl) :
    DS X (.Assign [.Tuple [.Name x px, .Name y py] kt pt] (.Tuple [a, b] k2 pt2) pos) (wPar i j wa) := by
  obtain ⟨t, p, l⟩ := ha
  exact ⟨_, L2.ps_par hc hN hi hj hij hx hy p hw hs, ls_par l⟩
@[simp] def wPar3 (i j n : Nat) (wa : WA) : WS := fun E ρ ms => wa ρ ms fun rs ms1 => match rs with
  | [a, b, c] => E.nx (((ρ.put i a).put j b).put n c) ms1
  | _ => False
theorem ds_par3 {i j n : Nat} {x y z : Str} {a b c : Expr} {wa : WA} {px py pz pt : Pos} {kt k2 pt2} (hc : X.X.calm = true) (hN : X.X.N.Nodup) (hi : X.X.N[i]? = some x) (hj : X.X.N[j]? = some y) (hn : X.X.N[n]? = some z) (hij : i ≠ j) (hil : i ≠ n) (hjl : j ≠ n)
    (hx : X.X.env.scope.names.lookup x = some .local) (hy : X.X.env.scope.names.lookup y = some .local) (hz : X.X.env.scope.names.lookup z = some .local) (ha : DA X [a, b, c] wa)
    (hw : swappedStores [.Tuple [.Name x px, .Name y py, .Name z pz] kt pt] (.Tuple [a, b, c] k2 pt2) X.X.env = pure (some [x, y, z]) := by rfl)
    (hs : swapsWithSole [.Tuple [.Name x px, .Name y py, .Name z pz] kt pt] (.Tuple [a, b, c] k2 pt2) pos.line X.X.env = pure false := by rfl) :
    DS X (.Assign [.Tuple [.Name x px, .Name y py, .Name z pz] kt pt] (.Tuple [a, b, c] k2 pt2) pos) (wPar3 i j n wa) := by
  obtain ⟨t, p, l⟩ := ha
  refine ⟨_, L2.ps_par3 hc hN hi hj hn hij hil hjl hx hy hz p hw hs, fun W σ ρ ms D E hK R O hw ok => l W σ ρ ms _ _ hK R O hw fun W1 vs rs ms1 e1 O1 ok1 h1 => ?_⟩
  split at h1
  · cases ok1 with
    | cons oa o2 =>
      obtain ⟨v, u, rfl, ob, oc⟩ := o2.two
      exact ⟨_, _, _, rfl, ok.nx W1 _ _ ms1 e1 O1 ((((R.mono e1).set oa i).set ob j).set oc n) h1⟩
  · exact h1.elim
/-- names, each to its slot -/
inductive PNames (X : Cy) : List Expr → List Nat → TGs → Prop
  | nil : PNames X [] [] gNil
  | cons {x : Str} {pp : Pos} {i : Nat} {es : List Expr} {is : List Nat} {t : TGs} : PG X.X (.Name x pp) (gName i) → PNames X es is t → (assignEach (.Name x pp :: es) X.X.env).map (·.2) = assign (.Name x pp) X.X.env :: (assignEach es X.X.env).map (·.2) → PNames X (.Name x pp :: es) (i :: is) (gCons (gName i) t)
theorem PNames.pgs {es : List Expr} {is : List Nat} {t : TGs} (h : PNames X es is t) : PGs X.X es t := by
  induction h with
  | nil => exact pgs_nil
  | cons h _ hs ih => exact pgs_cons h ih hs
@[simp] def setAll : Env → List Nat → List Dat → Env
  | ρ, i :: is, r :: rs => setAll (ρ.put i r) is rs
  | ρ, _, _ => ρ
@[simp] def wParN (is : List Nat) (wa : WA) : WS := fun E ρ ms => wa ρ ms fun rs ms1 => rs.length = is.length ∧ rs.length ≤ sizeLine ∧ E.nx (setAll ρ is rs) ms1
theorem PNames.go {es : List Expr} {is : List Nat} {t : TGs} (h : PNames X es is t) : ∀ {W : Wd} {vs : List V} {rs : List Dat} {σ : L2.St} {ρ : Env} {Q : L2.St → Hp → Prop}, Rel W σ ρ → RvsOk W vs rs → rs.length = is.length → (∀ σ', Rel W σ' (setAll ρ is rs) → Q σ' W.H) → t vs σ W.H Q := by
  induction h with
  | nil =>
    intro W vs rs σ ρ Q R ok hl q
    cases ok with
    | nil => exact ⟨rfl, q σ R⟩
    | cons _ _ => cases hl
  | @cons x pp i es is t h hr hs ih =>
    intro W vs rs σ ρ Q R ok hl q
    cases ok with
    | nil => cases hl
    | cons o r => exact ⟨_, _, rfl, ih (R.set o i) r (Nat.succ.inj hl) fun σ' R' => q σ' R'⟩
theorem ds_parN {es ts : List Expr} {wa : WA} {is : List Nat} {tg : TGs} {kt k2 : Nat} {pt pt2 : Pos} (hc : X.X.calm = true) (ha : DA X es wa) (hn : PNames X ts is tg) (hl : (assignEach ts X.X.env).length = is.length := by rfl) (hst : (assignEach ts X.X.env).findIdx? (·.1) = none := by rfl)
    (hs : swapsWithSole [.Tuple ts kt pt] (.Tuple es k2 pt2) pos.line X.X.env = pure false := by rfl) (hw : swappedStores [.Tuple ts kt pt] (.Tuple es k2 pt2) X.X.env = pure none := by rfl) (h1 : (assignEach [.Tuple ts kt pt] X.X.env).map (·.2) = [assign (.Tuple ts kt pt) X.X.env] := by rfl) :
    DS X (.Assign [.Tuple ts kt pt] (.Tuple es k2 pt2) pos) (wParN is wa) := by
  obtain ⟨t, p, l⟩ := ha
  refine ⟨_, ps_asg (pe_tup p) (pg_tup hc hn.pgs hl hst) hs hw h1, fun W σ ρ ms D E hK R O hw ok => l W σ ρ ms _ _ hK R O hw fun W1 vs rs ms1 e1 O1 ok1 ⟨hlen, hsz, h2⟩ => ?_⟩
  refine ⟨by rw [ok1.length]; exact hsz, fun n hnew => ⟨n, vs, rfl, SqT.of upd_same, by rw [ok1.length]; exact hlen, ?_⟩⟩
  obtain ⟨O2, x2⟩ := O1.lay (o := .tup vs) hnew
  exact hn.go (W := W1.lay n (.tup vs)) ((R.mono e1).mono x2) (up_vs x2 ok1) hlen fun σ' R' => ok.nx (W1.lay n (.tup vs)) σ' _ ms1 (e1.trans x2) O2 R' h2
/-! ## range(a, b) -/
theorem di_range2 {tg a b : Expr} {wa : WA} {p : Pos} (hg : Gl X.X "range") (hm : X.X.mg "range" = none) (ha : DA X [a, b] wa) (hs : starEach [a, b] X.X.env = [(false, eval a X.X.env), (false, eval b X.X.env)] := by rfl) (hs2 : starEach [b] X.X.env = [(false, eval b X.X.env)] := by rfl) : DI X tg (.Call (.Name "range" p) [a, b] [] pos) (wiRng2 wa) := by
  obtain ⟨t, pp, l⟩ := ha
  refine ⟨_, pi_range2 hg hm pp hs hs2, fun W σ ρ ms R k hK Rl O hw q => l W σ ρ ms _ _ hK Rl O hw fun W1 vs rs ms1 e1 O1 ok1 h1 => ?_⟩
  split at h1
  · rename_i i j
    obtain ⟨v, u, rfl, oa, ob⟩ := ok1.two
    cases oa
    cases ob
    exact ⟨i, j, rfl, h1.1, q W1 _ _ ms1 e1 O1 walk_rng h1.2⟩
  · exact h1.elim
/-! ## repr -/
def rRepr (K : PySem.W.Frag) : List V → Hp → VK → Prop := fun xs H Q => ∃ v d, xs = [v] ∧ Dp K H v d ∧ d.showable = true ∧ d.depth ≤ 64 ∧ d.hasDict = false ∧ d.shown.length ≤ sizeLine ∧ Q (.str d.shown) H
theorem call_reprD (hg : X.X.A.guards = some []) (hu : X.X.A.units + 65 < cLine) : CallR X.X (.builtin "repr") (rRepr X.X.K) := by
  rintro pins s σ H xs us Q J r ⟨v, d, rfl, hd, hs, hdep, hnd, hsz, q⟩
  obtain ⟨u, rfl, ru⟩ := vals1 r
  obtain ⟨as, rd⟩ := Dp.reads J d v u hd ru
  have far : ∀ a, u = .ref a → wpAny (model X.X.prog X.X.w) X.X.A (call (.builtin "repr") [u]) (EP X.X pins σ Q) X.X.xe s := fun a e => by
    subst e
    exact repr_of_reads' (h₀ := s.heap) rd hs (fun z => by rw [hnd] at z; cases z) hg (by omega) (fun _ _ z => z) (fun h' t tk kept => ⟨.str d.shown, H, J.kept (t' := tk) kept, ⟨t, rfl⟩, q⟩) hsz
  cases hd with
  | non =>
    obtain rfl : u = Value.none := ru
    simp only [PyData.shown] at q
    exact PySem.P.repr_of_none ⟨.str _, H, J.tok _, ⟨_, rfl⟩, q⟩
  | bl b =>
    obtain rfl : u = Value.bool b := ru
    simp only [PyData.shown] at q
    exact PySem.P.repr_of_bool ⟨.str _, H, J.tok _, ⟨_, rfl⟩, q⟩
  | int i =>
    obtain ⟨t, rfl⟩ := ru
    simp only [PyData.shown] at q
    exact PySem.P.repr_of_int (by simpa [PyData.showable] using hs) ⟨.str _, H, J.tok _, ⟨_, rfl⟩, q⟩
  | str x =>
    obtain ⟨t, rfl⟩ := ru
    simp only [PyData.shown] at q hsz
    exact PySem.P.repr_of_str ⟨.str _, H, J.tok _, ⟨_, rfl⟩, q⟩ hsz
  | lst _ _ => exact far _ ru
  | tup _ _ => exact far _ ru
@[simp] def wRepr : WC := fun rs ms k => match rs with
  | [r] => ∃ x, look ms r = some x ∧ plain x = true ∧ (toPy x).showable = true ∧ (toPy x).depth ≤ 64 ∧ (toPy x).hasDict = false ∧ (toPy x).shown.length ≤ sizeLine ∧ k (.str (toPy x).shown) ms
  | _ => False
theorem dc_repr (hg : X.X.A.guards = some []) (hu : X.X.A.units + 65 < cLine) : CallR X.X (.builtin "repr") (rRepr X.X.K) ∧ LC X.S (rRepr X.X.K) wRepr := ⟨call_reprD hg hu, fun W vs rs ms Q k hK ok O hw q => by
  unfold wRepr at hw
  split at hw
  · obtain ⟨v, rfl, o1⟩ := ok.one
    obtain ⟨x, e, p, h1, h2, h3, h4, hk⟩ := hw
    rw [show X.X.K = W.K from (congrArg Sg.K hK).symm]
    exact ⟨v, _, rfl, O.dp o1 e p, h1, h2, h3, h4, q W _ (.str _) ms (Ext.refl W) O (.str _) hk⟩
  · exact hw.elim⟩
end
theorem room_u {A : Around} {k : Nat} (h : Room k A) : A.units + 65 < cLine := by have := h.un; omega
end Sy
namespace Sy
open PySem PySem.Spec PyProof.Rows L2
open AutoSeq1 (wpAny_loadPart')
/-! ## enumerate of a tuple begins -/
theorem meets_enumT (l : Addr) (items : Array Value) (n : Nat) (dct : Option Addr) (sl : Array (Option Value)) :
    Meets (Builtin.«enumerate.__new__» ⟨[.type "enumerate", .ref l], []⟩) (fun _ R s => s.heap.get? l = some { cls := .type "tuple", dict := dct, data := .seq items n, slots := sl } ∧
      R (.ok (.ret (.ref (s.heap.push { cls := .type "tuple_iterator", data := .fields #[.ref l, .int 0 0] }).objs.size)))
        { s with heap := (s.heap.push { cls := .type "tuple_iterator", data := .fields #[.ref l, .int 0 0] }).push { cls := .type "enumerate", data := .fields #[.none, .bool false, .ref s.heap.objs.size, rawInt 0, .none, .none] } }) :=
  .of_wp fun prog w A R s hh => by
    obtain ⟨hp, g, d, tk, os⟩ := s; obtain ⟨hl, hh⟩ := hh
    have hsub := sub_enumerate
    have ht : Heap.IsTuple (Shared.heap ⟨hp, g, d, tk, os⟩) l items := ⟨_, hl, rfl, n, rfl⟩
    wp_walk using wpAny_loadPart' hl
    refine wpAny_stack_any fun st => wpAny_pure ?_
    split
    · rename_i c _ _ _ _ _
      cases (c == Value.type "enumerate") <;> (wp_walk using wpAny_loadPart' hl, wpAny_pyIter_tuple ht; exact ⟨_, rfl, hh⟩)
    · wp_walk using wpAny_loadPart' hl, wpAny_pyIter_tuple ht
      exact ⟨_, rfl, hh⟩
/-- what a list and a tuple have in common as sources -/
structure Src where
  sq : PySem.W.Frag → Hp → Addr → List V → Prop
  is : Heap → Addr → Array Value → Prop
  iter : Heap → Addr → Addr → Nat → Prop
  cls : String
  rd : ∀ {X : Cx} {pins : List (Addr × Obj)} {σ : L2.St} {H : Hp} {s : Shared} {a : Addr} {xs : List V}, Inv X pins σ H s → sq X.K H a xs → ∃ its : List Value, Vals xs its ∧ is s.heap a its.toArray
  inj : ∀ {X : Cx} {pins : List (Addr × Obj)} {σ : L2.St} {H : Hp} {s : Shared} {a : Addr} {xs ys : List V}, Inv X pins σ H s → sq X.K H a xs → sq X.K H a ys → xs = ys
  draws : ∀ {prog : Program} {w : World} {A : Around}, A.handled = none → ∀ (it a : Addr), a ≠ it → ∀ items : Array Value, Draws prog w A it [it, a] items.size (fun i v => items[i]? = some v) (fun i h => iter h it a i ∧ is h a items)
  begins : ∀ (a : Addr) (items : Array Value), Begins (.ref a) { cls := .type cls, data := .fields #[.ref a, .int 0 0] } fun h => is h a items
  first : ∀ {h : Heap} {it a : Addr}, h.get? it = some { cls := .type cls, data := .fields #[.ref a, .int 0 0] } → iter h it a 0
  at_ : ∀ {h h' : Heap} {it a : Addr} {i : Nat}, iter h it a i → (∀ o, h.get? it = some o → h'.get? it = some o) → iter h' it a i
  obj : ∀ {h : Heap} {it a : Addr} {i : Nat}, iter h it a i → ∃ o, h.get? it = some o ∧ ∀ v, o.data ≠ .cell v
  lt : ∀ {h : Heap} {a : Addr} {items : Array Value}, is h a items → a < h.objs.size
  enum : ∀ {prog : Program} {w : World} {A : Around} {E : Value → Shared → Prop} {s : Shared} {a : Addr} {items : Array Value} {Q : Value → Shared → Prop}, is s.heap a items →
    (∀ h', IsEnum h' (s.heap.objs.size + 1) s.heap.objs.size 0 .none → iter h' s.heap.objs.size a 0 → h'.objs.size = s.heap.objs.size + 2 →
      (∀ b o, s.heap.get? b = some o → h'.get? b = some o) → Q (.ref (s.heap.objs.size + 1)) { s with heap := h' }) → wpAny (model prog w) A (call (.type "enumerate") [.ref a]) Q E s
def srcL : Src where
  sq := SqL
  is := fun h a its => h.IsList a its
  iter := fun h it a i => h.IsListIter it a i
  cls := "list_iterator"
  rd := fun J h => let ⟨its, r, p, _⟩ := J.list h; ⟨its, r, p.isList⟩
  inj := fun J h h' => J.list_inj h h'
  draws := fun hh it a hne items => Draws.list hh it a hne items
  begins := fun a items => begins_list a items
  first := fun e => ⟨_, e, rfl, rfl⟩
  at_ := fun x e => x.at e
  obj := fun ⟨o, e, _, d⟩ => ⟨o, e, fun v q => by rw [d] at q; cases q⟩
  lt := fun ⟨_, e, _⟩ => Heap.lt_size e
  enum := fun hl h => call_enumerate_list hl h
def srcT : Src where
  sq := SqT
  is := fun h a its => h.IsTuple a its
  iter := fun h it a i => h.IsTupleIter it a i
  cls := "tuple_iterator"
  rd := fun J h => let ⟨its, r, p, _⟩ := J.tuple h; ⟨its, r, p⟩
  inj := fun J h h' => J.tuple_inj h h'
  draws := fun hh it a hne items => Draws.tuple hh it a hne items
  begins := fun a items => begins_tuple a items
  first := fun e => ⟨_, e, rfl, rfl⟩
  at_ := fun x e => x.at e
  obj := fun ⟨o, e, _, d⟩ => ⟨o, e, fun v q => by rw [d] at q; cases q⟩
  lt := fun ⟨_, e, _⟩ => Heap.lt_size e
  enum := fun {prog w A E s a items Q} hl h => by
    obtain ⟨⟨c, dct, dt, sl⟩, hg, hc, n, hd⟩ := hl
    replace hc : c = .type "tuple" := hc
    replace hd : dt = .seq items n := hd
    subst hc hd
    refine callType_new F.called_enumerate (by decide) (F.typeCall_enumerate_1 _) (F.newCall_enumerate_1 _) (fun obj => F.args_object_init_2 obj _) F.entry_enumerate_new (meets_enumT a items n dct sl) ⟨hg, ?_⟩
    have hz : (s.heap.push { cls := .type "tuple_iterator", data := .fields #[.ref a, .int 0 0] }).objs.size = s.heap.objs.size + 1 := Heap.size_push ..
    show _ ∧ _
    rw [hz]
    have he : IsEnum ((s.heap.push { cls := .type "tuple_iterator", data := .fields #[.ref a, .int 0 0] }).push { cls := .type "enumerate", data := .fields #[.none, .bool false, .ref s.heap.objs.size, rawInt 0, .none, .none] }) (s.heap.objs.size + 1) s.heap.objs.size 0 .none := by
      have z := Heap.get?_push_size (s.heap.push { cls := .type "tuple_iterator", data := .fields #[.ref a, .int 0 0] }) (o := { cls := .type "enumerate", data := .fields #[.none, .bool false, .ref s.heap.objs.size, rawInt 0, .none, .none] }) rfl
      rw [hz] at z; exact z
    exact ⟨⟨_, he, rfl⟩, h _ he ⟨_, Heap.get?_push_of_some _ (Heap.get?_push_size _ rfl), rfl, rfl⟩ (by rw [Heap.size_push, hz]) fun b o x => Heap.get?_push_of_some _ (Heap.get?_push_of_some _ x)⟩
/-! ## for i, x in enumerate(..) -/
def itEn (S : Src) (K : PySem.W.Frag) (a : Addr) : It where
  go := fun i H => ∃ (xs : List V) (x : V), S.sq K H a xs ∧ xs[i]? = some x
  yld := fun i H v H' => ∃ T x, v = .ref T ∧ H T = none ∧ H' = upd H T (.tup [.int (i : Nat), x]) ∧ ∀ xs, S.sq K H a xs → xs[i]? = some x
  stop := fun i H => ∃ xs : List V, S.sq K H a xs ∧ xs.length = i
theorem tup_new {X : Cx} {pins : List (Addr × Obj)} {σ : L2.St} {H : Hp} {s : Shared} {h' : Heap} {tk : Nat} {T : Addr} {u w' : Value} {x y : V} {ch : List Addr} (J : Inv X pins σ H s) (k : ∀ b o, b ∉ ch → s.heap.get? b = some o → h'.get? b = some o) (hf : ∀ b ∈ ch, FpOk X pins H b) (hT : s.heap.objs.size ≤ T)
    (ht : h'.IsTuple T #[u, w']) (rx : RelV x u) (ry : RelV y w') : Inv X pins σ (upd H T (.tup [x, y])) { s with heap := h', toks := tk } :=
  J.turnedNew (t' := tk) (ch := ch) k hf hT ⟨by show 2 ≤ sizeLine; decide, [u, w'], .cons rx (.cons ry .nil), ht⟩
theorem inv_turned {X : Cx} {pins : List (Addr × Obj)} {σ : L2.St} {H : Hp} {s : Shared} {h' : Heap} {tk : Nat} {ch : List Addr} (J : Inv X pins σ H s) (k : ∀ b o, b ∉ ch → s.heap.get? b = some o → h'.get? b = some o) (hf : ∀ b ∈ ch, FpOk X pins H b) : Inv X pins σ H { s with heap := h', toks := tk } := by
  have off : ∀ b u, H b = some u → b ∉ ch := fun b u e z => by
    have q := (hf b z).1
    rw [e] at q
    cases q
  refine J.step (g' := s.gens) (d' := s.drawn) (ch := ch) (fun b hb => let f := hf b hb; ⟨f.2.2.2.1, f.2.1, f.2.2.2.2.1, f.2.2.2.2.2⟩) (fun b o _ _ hn q _ => k b o hn q) (fun b o _ _ hn q _ => ⟨o.slots, k b o hn q⟩)
    (fun _ _ _ _ n => n) (fun b o hn q => ⟨o, k b o hn q⟩) (fun _ _ q => q) (fun _ _ _ q => q) (fun b ps q => ⟨#[], by rw [q]; simp⟩) (fun m ⟨o, es, ep, ho, r⟩ => ⟨o, es, ep, k _ o (fun z => (hf _ z).2.1 rfl) ho, r⟩) (fun b u q => ?_) J.bare
  refine (J.hok b u q).stay (fun c v hc z => k c v ?_ z) (fun _ z => z) fun _ _ z => z
  rcases hc with y | y
  · rw [y]; exact off b u q
  · exact off c _ y
theorem turn_en {P : Program} {w : World} {K : PySem.W.Frag} {elts : List Expr} {kk : Nat} {tpos : Pos} (S : Src) (a e it : Addr) :
    Turn P w K (.Tuple elts kk tpos) (itEn S K a) [e, it] e (fun i h => (∃ old, IsEnum h e it ((i : Nat) : Int) old) ∧ S.iter h it a i ∧ e ≠ it ∧ e ≠ a ∧ a ≠ it) where
  mem := List.mem_cons_self
  obj := fun i h ⟨⟨old, he⟩, hi, _⟩ b hb => by
    rcases List.mem_cons.mp hb with z | z
    · subst z; exact ⟨_, he, fun v q => nomatch q⟩
    · rw [List.mem_singleton.mp z]; exact S.obj hi
  keep := fun i h h' ⟨⟨old, he⟩, hi, r⟩ k => ⟨⟨old, k e List.mem_cons_self _ he⟩, S.at_ hi fun o q => k it (List.mem_cons_of_mem _ List.mem_cons_self) o q, r⟩
  item := by
    rintro X rfl rfl rfl hc i pins s σ H E J hf ⟨⟨old, he⟩, hi, n1, n2, n3⟩ ⟨xs, x, hq, hx⟩
    obtain ⟨its, rv, hs⟩ := S.rd J hq
    have hlt : i < its.toArray.size := by rw [List.size_toArray, ← rv.length]; exact (List.getElem?_eq_some_iff.mp hx).1
    have G := GoesN.enumFrom (elts := elts) (x1 := kk) (pos := tpos) 0 (S.draws (prog := X.prog) (w := X.w) (A := X.A.in1) (J.ok.hd hc) it a n3 its.toArray) e n1 (by simp [n1, n2]) (by simp)
    refine G.goes i s _ E hlt ⟨⟨old, by rw [Int.zero_add]; exact he⟩, hi, hs⟩ fun v h' tk ⟨T, t, u, ev, hnew, hu, hT⟩ ⟨⟨old', he'⟩, hi', _⟩ hk _ => ?_
    subst ev
    have hu' : its[i]? = some u := by simpa using hu
    obtain ⟨u', e1, ru⟩ := rv.get hx
    rw [hu'] at e1
    cases e1
    rw [Int.zero_add] at hT
    refine ⟨.ref T, _, tup_new (tk := tk) (ch := [e, it]) (x := .int (i : Nat)) J hk hf hnew hT ⟨t, rfl⟩ ru, rfl, ⟨T, x, rfl, J.hok.fresh hnew, rfl, fun ys hy => by rw [S.inj J hy hq]; exact hx⟩, ⟨⟨old', ?_⟩, hi', n1, n2, n3⟩, fun b hb => ?_⟩
    · rw [Int.zero_add] at he'; exact he'
    · have hbl : b < s.heap.objs.size := by
        rcases List.mem_cons.mp hb with z | z
        · subst z; exact Heap.lt_size he
        · rw [List.mem_singleton.mp z]; obtain ⟨o, q, _⟩ := S.obj hi; exact Heap.lt_size q
      rw [upd_ne (Nat.ne_of_lt (Nat.lt_of_lt_of_le hbl hnew))]
      exact (hf b hb).1
  done := by
    rintro X rfl rfl rfl hc i pins s σ H E J hf ⟨⟨old, he⟩, hi, n1, n2, n3⟩ ⟨xs, hq, hx⟩
    obtain ⟨its, rv, hs⟩ := S.rd J hq
    have hn : its.toArray.size = i := by rw [List.size_toArray, ← rv.length]; exact hx
    subst hn
    have G := GoesN.enumFrom (elts := elts) (x1 := kk) (pos := tpos) 0 (S.draws (prog := X.prog) (w := X.w) (A := X.A.in1) (J.ok.hd hc) it a n3 its.toArray) e n1 (by simp [n1, n2]) (by simp)
    exact G.stops s _ E ⟨⟨old, by rw [Int.zero_add]; exact he⟩, hi, hs⟩ fun h' tk hk _ => inv_turned (tk := tk) J hk hf
  self := fun A i s Q E ⟨⟨_, he⟩, _⟩ h => wpAny_pyIter_enum he h
section
variable {X : Cx} {pos : Pos}
def iEn (K : PySem.W.Frag) (ta : TA) : TI := fun σ H R => ta σ H fun vs H1 => ∃ (S : Src) (a : Addr) (xs : List V), (S = srcL ∨ S = srcT) ∧ vs = [.ref a] ∧ S.sq K H1 a xs ∧ R (itEn S K a) H1
theorem pi_en {e : Expr} {ta : TA} {p tpos : Pos} {elts : List Expr} {kk : Nat} (hg : Gl X "enumerate") (hm : X.mg "enumerate" = none) (ha : PA X [e] ta) (hs : starEach [e] X.env = [(false, eval e X.env)]) : PI X (.Tuple elts kk tpos) (.Call (.Name "enumerate" p) [e] [] pos) (iEn X.K ta) := by
  refine ⟨fun pins s σ H R J h => Call_ (ld_blt J hg hm boot_enumerate (PyProof.Rows.callWith_type1 (thn (ha.run pos pins s σ H _ J h) fun us s1 ⟨vs, H1, J1, r1, S, a, xs, _, ex, hq, q⟩ => ?_) hs rfl))⟩
  subst ex
  cases r1 with
  | cons r rr =>
    cases rr
    cases r
    obtain ⟨its, rv, hsrc⟩ := S.rd J1 hq
    have hal := S.lt hsrc
    refine S.enum hsrc fun h' he hit hsz hk => wpAny_pyIter_enum he ?_
    refine ⟨s1.heap.objs.size + 1, [s1.heap.objs.size + 1, s1.heap.objs.size], _, _, H1, rfl, J1.kept (t' := s1.toks) hk, turn_en S a (s1.heap.objs.size + 1) s1.heap.objs.size, ⟨⟨.none, he⟩, hit, Nat.succ_ne_self _, Nat.ne_of_gt (Nat.lt_succ_of_lt hal), Nat.ne_of_lt hal⟩, fun b hb => ?_, q⟩
    have hle : s1.heap.objs.size ≤ b := by
      rcases List.mem_cons.mp hb with z | z
      · rw [z]; exact Nat.le_succ _
      · rw [List.mem_singleton.mp z]; exact Nat.le_refl _
    exact J1.fpOk hle (J1.hok.fresh hle)
/-- the pairs of enumerate -/
@[simp] def enumD : Nat → List Dat → List Dat
  | _, [] => []
  | n, d :: ds => .tup [.int (n : Nat), d] :: enumD (n + 1) ds
theorem enumD_length : ∀ (n : Nat) (ds : List Dat), (enumD n ds).length = ds.length
  | _, [] => rfl
  | n, d :: ds => by simp [enumD, enumD_length (n + 1) ds]
theorem enumD_get : ∀ (n : Nat) (ds : List Dat) (i : Nat), (enumD n ds)[i]? = ds[i]?.map fun d => .tup [.int ((n + i : Nat) : Int), d]
  | _, [], i => by simp [enumD]
  | n, d :: ds, 0 => by simp [enumD]
  | n, d :: ds, i + 1 => by
    simp only [enumD, List.getElem?_cons_succ]
    rw [enumD_get (n + 1) ds i, Nat.add_assoc, Nat.add_comm 1 i]
theorem walk_en {W : Wd} {ms : Ms} {S : Src} {a : Addr} {xs : List V} {ds : List Dat} {K : PySem.W.Frag} (O : Own W ms) (hS : ∀ W' ms', Ext0 W W' → Own W' ms' → S.sq K W'.H a xs) (hd : RvsOk W xs ds) : WalkD W (itEn S K a) (enumD 0 ds) := by
  refine ⟨fun W' ms' i e O' hi => ?_, fun W' ms' e O' => ⟨xs, hS W' ms' e O', by rw [enumD_length, hd.length]⟩, fun W' ms' i x H' d e O' hget y => ?_⟩
  · rw [enumD_length] at hi
    obtain ⟨v, hv, _⟩ := hd.get (List.getElem?_eq_getElem hi)
    exact ⟨xs, v, hS W' ms' e O', hv⟩
  · obtain ⟨T, x', rfl, hT, rfl, hx⟩ := y
    have hx' := hx xs (hS W' ms' e O')
    rw [enumD_get] at hget
    obtain ⟨d', hd', rfl⟩ := Option.map_eq_some_iff.mp hget
    obtain ⟨v, hv, ok⟩ := hd.get hd'
    rw [hx'] at hv; cases hv
    obtain ⟨O2, e2⟩ := O'.lay (o := .tup [.int (i : Nat), x']) hT
    refine ⟨W'.lay T _, e2, O2, rfl, .tup upd_same (.cons ?_ (.cons ?_ .nil))⟩
    · rw [Nat.zero_add]; exact .int _
    · exact up_v e2 (low_v e.low ok)
end
section
variable {X : Cy} {pos : Pos}
@[simp] def wiEnum (wa : WA) : WI := fun ρ ms k => wa ρ ms fun rs ms1 => match rs with
  | [.lst ds] => k (enumD 0 ds) ms1
  | [.tup ds] => k (enumD 0 ds) ms1
  | _ => False
theorem di_enum {e : Expr} {wa : WA} {p tpos : Pos} {elts : List Expr} {kk : Nat} (hg : Gl X.X "enumerate") (hm : X.X.mg "enumerate" = none) (ha : DA X [e] wa) (hs : starEach [e] X.X.env = [(false, eval e X.X.env)] := by rfl) : DI X (.Tuple elts kk tpos) (.Call (.Name "enumerate" p) [e] [] pos) (wiEnum wa) := by
  obtain ⟨t, pp, l⟩ := ha
  refine ⟨_, pi_en hg hm pp hs, fun W σ ρ ms R k hK Rl O hw q => l W σ ρ ms _ _ hK Rl O hw fun W1 vs rs ms1 e1 O1 ok1 h1 => ?_⟩
  split at h1
  · rename_i ds
    obtain ⟨v, rfl, o1⟩ := ok1.one
    cases o1 with
    | lst h2 h3 =>
      have hh : ∀ W' ms', Ext0 W1 W' → Own W' ms' → SqL X.X.K W'.H _ _ := fun W' ms' x O' => SqL.of (O'.ex _ _ (x.ex _ _ h2))
      exact ⟨srcL, _, _, .inl rfl, rfl, hh W1 ms1 (Ext0.refl _) O1, q W1 _ _ ms1 e1 O1 (walk_en O1 hh h3) h1⟩
  · rename_i ds
    obtain ⟨v, rfl, o1⟩ := ok1.one
    cases o1 with
    | tup h2 h3 =>
      have hh : ∀ W' ms', Ext0 W1 W' → Own W' ms' → SqT X.X.K W'.H _ _ := fun W' ms' x O' => SqT.of (O'.ex _ _ (x.ex _ _ h2))
      exact ⟨srcT, _, _, .inr rfl, rfl, hh W1 ms1 (Ext0.refl _) O1, q W1 _ _ ms1 e1 O1 (walk_en O1 hh h3) h1⟩
  · exact h1.elim
end
end Sy
namespace Sy
open PySem PySem.Spec PyProof.Rows L2
/-! ## dicts -/
@[simp] def keyD : Dat → Option Key
  | .int i => some (.inl i)
  | .str x => some (.inr x)
  | _ => none
@[simp] def datK : Key → Dat
  | .inl i => .int i
  | .inr x => .str x
theorem keyD_datK (k : Key) : keyD (datK k) = some k := by cases k <;> rfl
@[simp] def getK {κ : Type} [DecidableEq κ] : List (κ × Dat) → κ → Option Dat
  | [], _ => none
  | (j, d) :: r, k => if j = k then some d else getK r k
@[simp] def setK {κ : Type} [DecidableEq κ] (kvs : List (κ × Dat)) (k : κ) (d : Dat) : List (κ × Dat) :=
  if (getK kvs k).isSome = true then kvs.map (fun p => if p.1 = k then (p.1, d) else p) else kvs ++ [(k, d)]
@[simp] def delK {κ : Type} [DecidableEq κ] (kvs : List (κ × Dat)) (k : κ) : List (κ × Dat) := kvs.filter fun p => decide (p.1 ≠ k)
@[simp] def mergeD (kvs : List (Key × Dat)) : List (Key × Dat) → List (Key × Dat)
  | [] => kvs
  | (k, d) :: r => mergeD (setK kvs k d) r
section
variable {W : Wd} {κ : Type} [DecidableEq κ]
theorem RkOk.val {k : κ} : ∀ {xs : List (κ × V)} {ds : List (κ × Dat)}, RkOk W xs ds → (getK ds k = none → valV xs k = none) ∧ ∀ d, getK ds k = some d → ∃ v, valV xs k = some v ∧ RvOk W v d
  | _, _, .nil => ⟨fun _ => rfl, fun d h => by cases h⟩
  | (j, v) :: xs, (_, d) :: ds, .cons h r => by
    obtain ⟨h1, h2⟩ := RkOk.val (k := k) r
    by_cases e : j = k
    · simp only [getK, if_pos e]
      rw [valV_pos (p := (j, v)) e]
      exact ⟨fun z => (by cases z), fun d' z => (by cases z; exact ⟨v, rfl, h⟩)⟩
    · simp only [getK, if_neg e]
      rw [valV_neg (p := (j, v)) e]
      exact ⟨h1, h2⟩
theorem RkOk.some_iff {k : κ} {xs : List (κ × V)} {ds : List (κ × Dat)} (r : RkOk W xs ds) : (valV xs k).isSome = (getK ds k).isSome := by
  cases e : getK ds k with
  | none => rw [r.val.1 e]; rfl
  | some d => obtain ⟨v, h, _⟩ := r.val.2 d e; rw [h]; rfl
theorem RkOk.mapSet {k : κ} {v : V} {d : Dat} (h : RvOk W v d) : ∀ {xs : List (κ × V)} {ds : List (κ × Dat)}, RkOk W xs ds → RkOk W (xs.map fun p => if p.1 = k then (p.1, v) else p) (ds.map fun p => if p.1 = k then (p.1, d) else p)
  | _, _, .nil => .nil
  | (j, x) :: xs, (_, y) :: ds, .cons q r => by
    simp only [List.map_cons]
    by_cases e : j = k
    · simp only [if_pos e]; exact .cons h (RkOk.mapSet h r)
    · simp only [if_neg e]; exact .cons q (RkOk.mapSet h r)
theorem RkOk.snoc {k : κ} {v : V} {d : Dat} (h : RvOk W v d) : ∀ {xs : List (κ × V)} {ds : List (κ × Dat)}, RkOk W xs ds → RkOk W (xs ++ [(k, v)]) (ds ++ [(k, d)])
  | _, _, .nil => .cons h .nil
  | _, _, .cons q r => .cons q (RkOk.snoc h r)
theorem RkOk.put {k : κ} {v : V} {d : Dat} (h : RvOk W v d) {xs : List (κ × V)} {ds : List (κ × Dat)} (r : RkOk W xs ds) : RkOk W (putK xs k v) (setK ds k d) := by
  unfold putK setK
  rw [valV_any, r.some_iff]
  split
  · exact r.mapSet h
  · exact r.snoc h
theorem RkOk.drop {k : κ} : ∀ {xs : List (κ × V)} {ds : List (κ × Dat)}, RkOk W xs ds → RkOk W (dropK xs k) (delK ds k)
  | _, _, .nil => .nil
  | (j, x) :: xs, (_, y) :: ds, .cons q r => by
    unfold dropK delK
    by_cases e : j = k
    · rw [List.filter_cons_of_neg (by simp [e]), List.filter_cons_of_neg (by simp [e])]; exact RkOk.drop r
    · rw [List.filter_cons_of_pos (by simp [e]), List.filter_cons_of_pos (by simp [e])]; exact .cons q (RkOk.drop r)
theorem RkOk.merge : ∀ {ys : List (Key × V)} {es : List (Key × Dat)}, RkOk W ys es → ∀ {xs : List (Key × V)} {ds : List (Key × Dat)}, RkOk W xs ds → RkOk W (mergeK xs ys) (mergeD ds es)
  | _, _, .nil, _, _, r => r
  | (k, v) :: ys, (_, d) :: es, .cons h t, _, _, r => RkOk.merge t (r.put h)
theorem RkOk.get : ∀ {xs : List (κ × V)} {ds : List (κ × Dat)} {i : Nat} {k : κ} {v : V}, RkOk W xs ds → xs[i]? = some (k, v) → ∃ d, ds[i]? = some (k, d) ∧ RvOk W v d
  | _, _, _, _, _, .nil, e => by simp at e
  | _, _, 0, _, _, .cons h _, e => by simp at e; obtain ⟨rfl, rfl⟩ := e; exact ⟨_, rfl, h⟩
  | _, _, i + 1, k, v, .cons _ r, e => by
    obtain ⟨d, h1, h2⟩ := RkOk.get (i := i) (k := k) (v := v) r (by simpa using e)
    exact ⟨d, by simpa using h1, h2⟩
end
theorem key_ok {W : Wd} {v : V} {r : Dat} {k : Key} (ok : RvOk W v r) (h : keyD r = some k) : v = kV k := by
  cases ok <;> first | (cases h; rfl) | cases h
theorem kV_ok {W : Wd} (k : Key) : RvOk W (kV k) (datK k) := by cases k <;> first | exact .int _ | exact .str _
/-- how a dict is found: a datum, or a labelled thing -/
@[simp] def dicOf (ms : Ms) : Dat → Option (List (Key × Dat))
  | .dic kvs => some kvs
  | .own i => (match ms[i]? with
    | some (.dic kvs) => some kvs
    | some (.lck (.dic kvs)) => some kvs
    | _ => none)
  | _ => none
theorem dicOf_look {ms : Ms} {r : Dat} {kvs : List (Key × Dat)} (h : dicOf ms r = some kvs) : look ms r = some (.dic kvs) := by
  cases r <;> simp only [dicOf] at h <;> first | (cases h; done) | skip
  · cases h; rfl
  · rename_i i
    simp only [look]
    split at h
    · rename_i e; cases h; rw [e]; rfl
    · rename_i e; cases h; rw [e]; rfl
    · cases h
section
variable {W : Wd} {ms : Ms} {v : V} {r : Dat}
theorem Own.dget (O : Own W ms) (ok : RvOk W v r) {kvs : List (Key × Dat)} (h : dicOf ms r = some kvs) {y : V} {q : Dat} {k : Key} (oky : RvOk W y q) (hk : keyD q = some k) : ∃ a xs, v = .ref a ∧ RkOk W xs kvs ∧ Rd W.H a (.dK xs) ∧ DGet W.H a y (valV xs k) := by
  obtain ⟨a, xs, rfl, h1, h2⟩ := O.dict ok (dicOf_look h)
  refine ⟨a, xs, rfl, h2, h1, .inl ⟨xs, k, h1, key_ok oky hk, rfl⟩⟩
end
section
variable {X : Cy} {pos : Pos}
/-! ### d[k] -/
def rIxD : R2 := fun x y H Q => ∃ a v, x = .ref a ∧ DGet H a y (some v) ∧ Q v H
theorem ix_dict {X : Cx} (hu : X.A.units + 1 < cLine) : IxR X rIxD := by
  intro value slice pins s σ H x y v u Q I rx ry h hs
  obtain ⟨a, z, rfl, g, q⟩ := h
  obtain rfl : v = Value.ref a := rx
  have hT := dict_typeIs I g
  have h₂ : wpAny (model X.prog X.w) X.A (getItem (.ref a) u) (EP X pins σ Q) X.xe s := d_getItem hu I g ry fun w' s3 I3 rw' => ⟨z, H, I3, rw', q⟩
  unfold subscriptTail
  refine wpAny_bind ?_
  rw [getitemInPython_of_ne hT.not_modules]
  refine wpAny_bind (wpAny_specialOf hT PySem.F.slot_dict_getitem.lookup ?_)
  have fin : wpAny (model X.prog X.w) X.A (subscripted slice false (.ref a) u) (fun r s₃ => wpAny (model X.prog X.w) X.A (letTemporaryGo value (.ref a) r >>= fun _ => pure r) (EP X pins σ Q) X.xe s₃) X.xe s := by
    rw [hs]
    exact wpAny_operating (wpAny_mono h₂ (fun r s₃ h₃ => wpAny_bind (wpAny_letTemporaryGo (wpAny_pure h₃))) fun _ _ x => x)
  first
    | exact wpAny_pure (wpAny_bind fin)
    | exact wpAny_bind (wpAny_pure (wpAny_bind fin))
    | exact wpAny_bind fin
theorem IxR.or {X : Cx} {r r' : R2} (h : IxR X r) (h' : IxR X r') : IxR X (fun x y H Q => r x y H Q ∨ r' x y H Q) := fun value slice pins s σ H x y v u Q I rx ry z hs => z.elim (fun z => h value slice pins s σ H x y v u Q I rx ry z hs) fun z => h' value slice pins s σ H x y v u Q I rx ry z hs
/-- a[b]: a list, a tuple, a text, the script, a dict -/
@[simp] def wIxA : WR2 := fun a b ms k => match dicOf ms a with
  | some kvs => (match keyD b with
    | some key => (match getK kvs key with
      | some d => k d ms
      | none => False)
    | none => False)
  | none => wIx a b ms k
theorem lr_ixA {S : Sg} : LR2 S (fun x y H Q => (rIxL S.K x y H Q ∨ rIxT S.K x y H Q) ∨ rIxD x y H Q) wIxA := fun W x y a b ms Q k hK oa ob O h z => by
  unfold wIxA at h
  split at h
  · rename_i kvs e
    split at h
    · rename_i key ek
      split at h
      · rename_i d ed
        obtain ⟨p, xs, rfl, rk, _, g⟩ := O.dget oa e ob ek
        obtain ⟨v, hv, okv⟩ := rk.val.2 d ed
        rw [hv] at g
        exact .inr ⟨p, v, rfl, g, z W v d ms (Ext.refl W) O okv h⟩
      · exact h.elim
    · exact h.elim
  · exact .inl (lr_ix W x y a b ms Q k hK oa ob O h z)
theorem de_ixA {a b : Expr} {wa wb : WE} {pos : Pos} (hu : X.X.A.units + 1 < cLine) (ha : DE X a wa) (hb : DE X b wb) (hs : PlainIx b) : DE X (.Subscript a b pos) (wOp wIxA wa wb) := by
  obtain ⟨ta, pa, la⟩ := ha
  obtain ⟨tb, pb, lb⟩ := hb
  exact ⟨_, pe_ix (IxR.or (ix_list.or ix_tup) (ix_dict hu)) pa pb hs, le_op lr_ixA la lb⟩
/-! ### k in d -/
def rInDc (neg : Bool) : R2 := fun x y H Q => ∃ a o, y = .ref a ∧ DGet H a x o ∧ Q (.bl (if neg then !o.isSome else o.isSome)) H
theorem op_inDc {X : Cx} (hu : X.A.units + 1 < cLine) : OpR X (compareOp .In) (rInDc false) := by
  intro pins s σ H x y v u Q I rx ry h
  obtain ⟨a, o, rfl, g, q⟩ := h
  obtain rfl : u = Value.ref a := ry
  exact d_in hu I g rx fun s3 I3 => ⟨.bl o.isSome, H, I3, rfl, q⟩
theorem op_notInDc {X : Cx} (hu : X.A.units + 1 < cLine) : OpR X (compareOp .NotIn) (rInDc true) := by
  intro pins s σ H x y v u Q I rx ry h
  obtain ⟨a, o, rfl, g, q⟩ := h
  obtain rfl : u = Value.ref a := ry
  exact d_notIn hu I g rx fun s3 I3 => ⟨.bl (!o.isSome), H, I3, rfl, q⟩
def rInSt (neg : Bool) : R2 := fun x y H Q => ∃ (c : Nat) (z : Str), x = .str ⟨#[c]⟩ ∧ y = .str z ∧ Q (.bl (if neg then !decide (c ∈ z.cps.toList) else decide (c ∈ z.cps.toList))) H
/-- x in a list, a tuple of flat things; a key in a dict; a sign in a text -/
@[simp] def wInA (neg : Bool) : WR2 := fun a b ms k => match dicOf ms b with
  | some kvs => (match keyD a with
    | some key => k (.bl (if neg then !(getK kvs key).isSome else (getK kvs key).isSome)) ms
    | none => False)
  | none => (match b with
    | .str z => (match a with
      | .str y => (match y.cps.toList with
        | [c] => k (.bl (if neg then !decide (c ∈ z.cps.toList) else decide (c ∈ z.cps.toList))) ms
        | _ => False)
      | _ => False)
    | _ => wIn neg a b ms k)
theorem lr_inA {S : Sg} {neg : Bool} : LR2 S (fun x y H Q => (rIn S.K neg x y H Q ∨ rInSt neg x y H Q) ∨ rInDc neg x y H Q) (wInA neg) := fun W x y a b ms Q k hK oa ob O h z => by
  unfold wInA at h
  split at h
  · rename_i kvs e
    split at h
    · rename_i key ek
      obtain ⟨p, xs, rfl, rk, _, g⟩ := O.dget ob e oa ek
      refine .inr ⟨p, _, rfl, g, ?_⟩
      rw [rk.some_iff]
      exact z W _ (.bl _) ms (Ext.refl W) O (.bl _) h
    · exact h.elim
  · split at h
    · split at h
      · rename_i y
        split at h
        · rename_i c ec
          cases oa
          cases ob
          refine .inl (.inr ⟨c, _, ?_, rfl, z W _ (.bl _) ms (Ext.refl W) O (.bl _) h⟩)
          rw [show y = ⟨#[c]⟩ from by cases y with | mk cps => exact congrArg Str.mk (Array.ext' (by rw [ec]))]
        · exact h.elim
      · exact h.elim
    · exact .inl (.inl (lr_in W x y a b ms Q k hK oa ob O h z))
theorem do_inA (hu : X.X.A.units + 1 < cLine) : OpR X.X (compareOp .In) (fun x y H Q => (rIn X.X.K false x y H Q ∨ rInSt false x y H Q) ∨ rInDc false x y H Q) ∧ LR2 X.S (fun x y H Q => (rIn X.X.K false x y H Q ∨ rInSt false x y H Q) ∨ rInDc false x y H Q) (wInA false) :=
  ⟨OpR.or (OpR.or op_in_seq (r' := rInSt false) op_in_sign) (op_inDc hu), lr_inA⟩
theorem do_notinA (hu : X.X.A.units + 1 < cLine) : OpR X.X (compareOp .NotIn) (fun x y H Q => (rIn X.X.K true x y H Q ∨ rInSt true x y H Q) ∨ rInDc true x y H Q) ∧ LR2 X.S (fun x y H Q => (rIn X.X.K true x y H Q ∨ rInSt true x y H Q) ∨ rInDc true x y H Q) (wInA true) :=
  ⟨OpR.or (OpR.or op_notIn_seq (r' := rInSt true) op_notIn_sign) (op_notInDc hu), lr_inA⟩
/-! ### len -/
@[simp] def wLenA : WC := fun rs ms k => match rs with
  | [r] => (match dicOf ms r with
    | some kvs => k (.int (kvs.length : Nat)) ms
    | none => wLen rs ms k)
  | _ => False
def rLenDc : List V → Hp → VK → Prop := fun xs H Q => ∃ a kvs, xs = [V.ref a] ∧ Rd H a (.dK kvs) ∧ Q (.int kvs.length) H
theorem call_lenDc {X : Cx} : CallR X (.builtin "len") rLenDc := by
  intro pins s σ H xs us Q I r h
  obtain ⟨a, kvs, rfl, ha, q⟩ := h
  obtain ⟨u, rfl, ru⟩ := vals1 r
  cases ru
  exact d_len I ha fun t s' I' => ⟨.int kvs.length, H, I', ⟨t, rfl⟩, q⟩
theorem dc_lenA : CallR X.X (.builtin "len") (fun xs H Q => (∃ x n, xs = [x] ∧ LenV X.X.K x H n ∧ Q (.int n) H) ∨ rLenDc xs H Q) ∧ LC X.S (fun xs H Q => (∃ x n, xs = [x] ∧ LenV X.X.K x H n ∧ Q (.int n) H) ∨ rLenDc xs H Q) wLenA := by
  refine ⟨fun pins s σ H xs us Q I rv hh => hh.elim (dc_len.1 pins s σ H xs us Q I rv) (call_lenDc pins s σ H xs us Q I rv), fun W vs rs ms Q k hK ok O hw q => ?_⟩
  unfold wLenA at hw
  split at hw
  · split at hw
    · rename_i r _ kvs e
      obtain ⟨v, rfl, o1⟩ := ok.one
      obtain ⟨a, xs, rfl, h1, h2⟩ := O.dict o1 (dicOf_look e)
      refine .inr ⟨a, xs, rfl, h1, ?_⟩
      rw [h2.length]
      exact q W _ (.int _) ms (Ext.refl W) O (.int _) hw
    · exact .inl (dc_len.2 W vs _ ms Q k hK ok O hw q)
  · exact hw.elim
end
end Sy
namespace Sy
open PySem PySem.Spec PyProof.Rows L2
section
variable {X : Cy} {pos : Pos}
/-! ### a[b] = e -/
def rSetD : V → V → V → Hp → (Hp → Prop) → Prop := fun o i v H Q => ∃ a H', o = .ref a ∧ DPut H a i v H' ∧ Q H'
theorem set_dict {X : Cx} (hu : X.A.units + 1 < cLine) : PSet X rSetD := by
  intro pins s σ H o i v ov iv u Q I ro ri rv h
  obtain ⟨a, H', rfl, g, q⟩ := h
  obtain rfl : ov = Value.ref a := ro
  exact d_setItem hu I g ri rv fun s' I' => ⟨H', I', q⟩
theorem PSet.or {X : Cx} {t t' : TSet} (h : PSet X t) (h' : PSet X t') : PSet X (fun o i v H Q => t o i v H Q ∨ t' o i v H Q) := fun pins s σ H o i v ov iv u Q I ro ri rv z => z.elim (h pins s σ H o i v ov iv u Q I ro ri rv) (h' pins s σ H o i v ov iv u Q I ro ri rv)
@[simp] def wgSub (wo wi : WE) : WG := fun r ρ ms k => wo ρ ms fun o ms1 => wi ρ ms1 fun i ms2 => match o with
  | .own j => (match ms2[j]? with
    | some (.lst ds) => (match i with
      | .int n => (match ixN ds.length n with
        | some m => k ρ (ms2.set j (.lst (ds.set m r)))
        | none => False)
      | _ => False)
    | some (.dic kvs) => (match keyD i with
      | some key => kvs.length < sizeLine ∧ k ρ (ms2.set j (.dic (setK kvs key r)))
      | none => False)
    | _ => False)
  | _ => False
theorem dg_sub {o i : Expr} {wo wi : WE} {pp : Pos} (hu : X.X.A.units + 1 < cLine) (ho : DE X o wo) (hi : DE X i wi)
    (ha : ∀ v, assign (.Subscript o i pp) X.X.env v = (do
      let ov ← holding [v] (eval o X.X.env)
      let iv ← holding [v, ov] (eval i X.X.env)
      standAt pp
      holding [v, ov, iv] (setItem ov iv v)
      release [v, ov, iv] []) := by intro _; rfl) : DG X (.Subscript o i pp) (wgSub wo wi) [] := by
  obtain ⟨to, po, lo⟩ := ho
  obtain ⟨ti, pi, li⟩ := hi
  refine ⟨_, pg_sub po pi (PSet.or set_list (set_dict hu)) ha, fun W σ ρ ms v r Q k hK R O ok hw q => ?_⟩
  refine lo W σ ρ ms _ _ hK R O hw fun W1 vo ro ms1 e1 O1 ok1 h1 => li W1 σ ρ ms1 _ _ (e1.s.trans hK) (R.mono e1) O1 h1 fun W2 vi ri ms2 e2 O2 ok2 h2 => ?_
  have ok' := up_v e2 (up_v e1 ok)
  have ok1' := up_v e2 ok1
  split at h2
  · rename_i j
    cases ok1' with
    | own ha =>
      split at h2
      · rename_i ds e3
        split at h2
        · rename_i n
          split at h2
          · rename_i m e4
            cases ok2
            obtain ⟨b, xs, hb, hg, k1, k2⟩ := O2.lstAt e3
            rw [ha] at hb; cases hb
            refine .inl ⟨_, xs, n, m, rfl, rfl, k1, by rw [k2.length]; exact e4, ?_⟩
            obtain ⟨O3, e5⟩ := O2.putLst ha hg k1 (Dts.set ok' m k2)
            exact q _ σ ρ _ ((e1.trans e2).trans e5) O3 (((R.mono e1).mono e2).mono e5) rfl (fun _ _ => rfl) h2
          · exact h2.elim
        · exact h2.elim
      · rename_i kvs e3
        split at h2
        · rename_i key ek
          obtain ⟨b, xs, hb, hg, k1, k2⟩ := O2.dicAt e3
          rw [ha] at hb; cases hb
          obtain rfl := key_ok ok2 ek
          refine .inr ⟨_, _, rfl, DPut.k k1 (by rw [k2.length]; exact h2.1), ?_⟩
          obtain ⟨O3, e5⟩ := O2.putDic ha hg k1 (k2.put (k := key) ok')
          exact q _ σ ρ _ ((e1.trans e2).trans e5) O3 (((R.mono e1).mono e2).mono e5) rfl (fun _ _ => rfl) h2.2
        · exact h2.elim
      · exact h2.elim
  · exact h2.elim
/-! ### {}, {k: v, ..} -/
@[simp] def wDNew : WE := fun _ ms k => k (.own ms.length) (ms ++ [.dic []])
theorem de_dnew : DE X (.Dict [] [] pos) wDNew := ⟨_, pe_dnewK, fun W σ ρ ms Q k hK R O h q p hp => by
  obtain ⟨O2, e2⟩ := O.take (o := .dK []) (c := .dic []) hp ⟨[], rfl, .nil⟩
  exact q _ _ _ _ e2 O2 (take_own O) h⟩
@[simp] def wPairs : List (WE × WE) → Env → Ms → (List (Key × Dat) → Ms → Prop) → Prop
  | [], _, ms, k => k [] ms
  | (a, b) :: r, ρ, ms, k => a ρ ms fun x ms1 => b ρ ms1 fun y ms2 => match keyD x with
    | some key => wPairs r ρ ms2 fun ps ms3 => k ((key, y) :: ps) ms3
    | none => False
inductive DPs (X : Cy) (pos : Pos) : List (Option Expr) → List Expr → List (WE × WE) → Prop
  | nil : DPs X pos [] [] []
  | cons {k v : Expr} {ks : List (Option Expr)} {vs : List Expr} {a b : WE} {r : List (WE × WE)} : DE X k a → DE X v b → DPs X pos ks vs r → DPs X pos (some k :: ks) (v :: vs) ((a, b) :: r)
theorem DPs.ok {keys : List (Option Expr)} {values : List Expr} {ws : List (WE × WE)} (h : DPs X pos keys values ws) : ∃ trs, PPs X.X pos keys values trs ∧ ∀ (W : Wd) (σ : L2.St) (ρ : Env) (ms : Ms) (Q : List (V × V) → Hp → Prop) (k : List (Key × Dat) → Ms → Prop), W.S = X.S → Rel W σ ρ → Own W ms → wPairs ws ρ ms k →
    (∀ W' (xs : List (Key × V)) ps ms', Ext W W' → Own W' ms' → RkOk W' xs ps → k ps ms' → Q (xs.map fun kv => (kV kv.1, kv.2)) W'.H) → tPairs trs σ W.H Q := by
  induction h with
  | nil => exact ⟨[], pps_nil, fun W σ ρ ms Q k hK R O h q => q W [] [] ms (Ext.refl W) O .nil h⟩
  | cons ha hb _ ih =>
    obtain ⟨trs, pr, lr⟩ := ih
    obtain ⟨ta, pa, la⟩ := ha
    obtain ⟨tb, pb, lb⟩ := hb
    refine ⟨_, pps_cons pa pb pr, fun W σ ρ ms Q k hK R O h q => ?_⟩
    refine la W σ ρ ms _ _ hK R O h fun W1 x a ms1 e1 O1 ok1 h1 => lb W1 σ ρ ms1 _ _ (e1.s.trans hK) (R.mono e1) O1 h1 fun W2 y b ms2 e2 O2 ok2 h2 => ?_
    split at h2
    · rename_i key ek
      obtain rfl := key_ok ok1 ek
      refine lr W2 σ ρ ms2 _ _ (e2.s.trans (e1.s.trans hK)) ((R.mono e1).mono e2) O2 h2 fun W3 xs ps ms3 e3 O3 rk h3 => ?_
      exact q W3 ((key, y) :: xs) ((key, b) :: ps) ms3 ((e1.trans e2).trans e3) O3 (.cons (up_v e3 ok2) rk) h3
    · exact h2.elim
@[simp] def wDisp (ws : List (WE × WE)) : WE := fun ρ ms k => wPairs ws ρ ms fun ps ms1 => ps.length ≤ 15 ∧ k (.own ms1.length) (ms1 ++ [.dic (mergeD [] ps)])
theorem Held.drop {W1 W' : Wd} {D : Addr} {o : HO} {ms : Ms} (h : Held W1 W' D o) (O : Own W' ms) (hk : W'.K = W1.K) : Ext W1 { W' with S := W1.S, P := W1.P } ∧ Own { W' with S := W1.S, P := W1.P } ms ∧ Low W' { W' with S := W1.S, P := W1.P } := by
  have low : Low W' { W' with S := W1.S, P := W1.P } := ⟨hk.symm, Same.refl _, fun _ _ x => x⟩
  have pD : ∀ a v, W1.P a = some v → a ≠ D := fun a v e => ne_of_none e h.pn
  have pW : ∀ a v, W1.P a = some v → W'.P a = some v := fun a v e => by rw [h.p, upd_ne (pD a v e)]; exact e
  refine ⟨⟨rfl, h.e0.ex, h.e0.adr, h.e0.frz, rfl⟩, ⟨O.ex, O.len, O.inj, O.all, fun a v e => O.px a v (pW a v e), fun a v e => O.pg a v (pW a v e), fun i a e => ?_, fun i c e n => ?_, fun i p q e => by show W'.A[i]? = some (tabP W1.S.K p); rw [← show W'.S.K = W1.S.K from hk]; exact O.tb i p q e⟩, low⟩
  · have := O.pl i a e
    rw [h.p, upd_ne (h.l O i a e)] at this; exact this
  · obtain ⟨a, v, ha, hg, hv, k⟩ := O.cell i c e n
    exact ⟨a, v, ha, hg, hv, k.low low⟩
theorem Held.rel {W1 W' : Wd} {D : Addr} {o : HO} {σ : L2.St} {ρ : Env} (h : Held W1 W' D o) (hS : W'.S = W1.S) (R : Rel W1 σ ρ) : Rel W' σ ρ := by
  have hk : W'.K = W1.K := by show W'.S.K = W1.S.K; rw [hS]
  refine ⟨R.sl.low h.e0.low, fun W2 σ2 ρ2 C dd xs fs ms' e O' R2 g d hx => ?_, R.hd.low h.e0.low (by rw [hS])⟩
  have h2 := h.on e
  obtain ⟨e2, O2, low⟩ := h2.drop O' (by rw [e.k, hk])
  have := R.ex _ σ2 ρ2 C dd xs fs ms' e2 O2 (R2.low low) (show W2.G dd = _ from g) (d.low low) hx
  rw [hS, hk]; exact this
theorem de_disp {keys : List (Option Expr)} {values : List Expr} {ws : List (WE × WE)} (h : DPs X pos keys values ws) (hall : keys.all (·.isSome) = true := by rfl) (hl : keys.length = values.length := by rfl) (h0 : keys ≠ [] := by intro z; cases z) (h15 : keys.length ≤ 15 := by decide) : DE X (.Dict keys values pos) (wDisp ws) := by
  obtain ⟨trs, pp, l⟩ := h.ok
  refine ⟨_, pe_disp pp hall hl h0 h15, fun W σ ρ ms Q k hK R O hw q D hD => ?_⟩
  obtain ⟨hh, Oh⟩ := Held.start (W0 := W) (o := .dK []) O hD
  refine l (W.hold D (.dK [])) σ ρ ms _ _ hK (hh.rel rfl R) Oh hw fun W' xs ps ms' e O' rk h1 => ?_
  have h2 := hh.on e
  have hk : W'.K = W.K := e.k
  refine ⟨h2.at O', xs, rfl, by rw [rk.length]; exact h1.1, ?_⟩
  have low : Low W' (W'.labl W.S W.P D (.dK (mergeK [] xs))) := ⟨hk.symm, Same.refl _, fun i a e => by show (W'.A ++ [D])[i]? = some a; rw [List.getElem?_append_left (List.getElem?_eq_some_iff.mp e).1]; exact e⟩
  obtain ⟨e3, O3, ok3⟩ := h2.take (u := .dK (mergeK [] xs)) (c := .dic (mergeD [] ps)) O' hk ⟨_, rfl, (RkOk.merge rk .nil).low low⟩
  exact q _ _ _ _ e3 O3 ok3 h1.2
/-! ### {k: v for x in xs if ..} -/
@[simp] def dcW (wg : WG) (wt : WT) (wk wv : WE) (ρ : Env) (k : List (Key × Dat) → Ms → Prop) : List Dat → List (Key × Dat) → Ms → Prop
  | [], acc, ms => k acc ms
  | d :: ds, acc, ms => wg d ρ ms fun ρ1 ms1 => wt ρ1 ms1 fun b ms2 => if b = true then wk ρ1 ms2 fun y ms3 => wv ρ1 ms3 fun z ms4 => (match keyD y with
      | some key => acc.length < sizeLine ∧ dcW wg wt wk wv ρ k ds (setK acc key z) ms4
      | none => False) else dcW wg wt wk wv ρ k ds acc ms2
@[simp] def wDc (wi : WI) (wg : WG) (wt : WT) (wk wv : WE) (vs : List Nat) : WE := fun ρ ms k => wi ρ ms fun ds ms1 => dcW wg wt wk wv (wipeE ρ vs) (fun acc ms2 => k (.own ms2.length) (ms2 ++ [.dic acc])) ds [] ms1
theorem le_dc {S : Sg} {ti : TI} {g : TG} {tt : TT} {tk tv : TE} {wi : WI} {wg : WG} {wt : WT} {wk wv : WE} {vs ss : List Nat} (hss : ∀ i ∈ ss, i ∈ vs) (li : LI S ti wi) (lg : LG S.nv g wg ss) (lt : LT S.nv tt wt) (lk : LE S.nv tk wk) (lv : LE S.nv tv wv) : LE S (tDc ti g tt tk tv vs) (wDc wi wg wt wk wv vs) := by
  intro W σ ρ ms Q k hK R O hw q
  refine li W σ ρ ms _ _ hK R O hw fun W1 J ds ms1 e1 O1 wkk h1 => ?_
  intro D hD
  have hS1 : W1.S = S := e1.s.trans hK
  obtain ⟨hd0, Oh0⟩ := Held.start (W0 := W1) (o := .dK []) O1 hD
  refine ⟨fun i m H => m = ds.length - i ∧ i ≤ ds.length ∧ ∃ W' ms' xs acc, H = W'.H ∧ W'.S = S.nv ∧ Held W1 W' D (.dK xs) ∧ Own W' ms' ∧ RkOk W' xs acc ∧ dcW wg wt wk wv (wipeE ρ vs) _ (ds.drop i) acc ms',
    ⟨ds.length, by simp, Nat.zero_le _, (W1.hold D (.dK [])).wish never, ms1, [], [], rfl, by show ({ W1.S with Z := never } : Sg) = _; rw [hS1]; rfl, ⟨hd0.new, hd0.gn, hd0.pn, hd0.e0.trans wish_e0, hd0.p⟩, Oh0.wish, .nil, h1⟩, ?_⟩
  rintro i m H' ⟨rfl, hi, W', ms', xs, acc, rfl, hS, hh, O', hacc, hf⟩
  have hk' : W'.K = W1.K := by show W'.S.K = W1.S.K; rw [hS, hS1]; rfl
  by_cases hlt : i < ds.length
  · rw [List.drop_eq_getElem_cons hlt] at hf
    refine .inr ⟨wkk.goes W' ms' i hh.e0 O' hlt, fun H => ∃ W' ms' xs acc, H = W'.H ∧ W'.S = S.nv ∧ Held W1 W' D (.dK xs) ∧ Own W' ms' ∧ RkOk W' xs acc ∧ dcW wg wt wk wv (wipeE ρ vs) _ (ds.drop (i + 1)) acc ms', fun H2 h2 => ⟨ds.length - (i + 1), by omega, rfl, hlt, h2⟩, fun x H2 y => ?_⟩
    obtain ⟨W2, e2, O2, rfl, hd⟩ := wkk.yields W' ms' i x H2 _ hh.e0 O' (List.getElem?_eq_getElem hlt) y
    have RS : RelS W2 (L2.wipe σ vs) (wipeE ρ vs).sl := (((R.sl.low e1.low).low hh.e0.low).low e2.low).wipe vs
    refine lg W2 (L2.wipe σ vs) (wipeE ρ vs) ms' x ds[i] _ _ (e2.s.trans hS) ⟨RS, never_x, ((R.hd.low e1.low (by rw [e1.s])).low (hh.e0.low) (by rw [hS, hS1]; rfl)).low e2.low (by rw [e2.s])⟩ O2 hd hf fun W3 σ3 ρ3 ms3 e3 O3 R3 n3 f3 h3 => ?_
    refine ⟨wipe_same hss n3 f3, ?_⟩
    refine lt W3 σ3 ρ3 ms3 _ _ (e3.s.trans (e2.s.trans hS)) R3 O3 h3 fun W4 b ms4 e4 O4 h4 => ?_
    have e24 : Ext W' W4 := (e2.trans e3).trans e4
    cases b with
    | false =>
      rw [if_neg Bool.false_ne_true] at h4 ⊢
      exact ⟨W4, ms4, xs, acc, rfl, e24.s.trans hS, hh.on e24, O4, hacc.up e24, h4⟩
    | true =>
      rw [if_pos rfl] at h4 ⊢
      refine lk W4 σ3 ρ3 ms4 _ _ (e24.s.trans hS) (R3.mono e4) O4 h4 fun W5 v r ms5 e5 O5 ok5 h5 => lv W5 σ3 ρ3 ms5 _ _ (e5.s.trans (e24.s.trans hS)) ((R3.mono e4).mono e5) O5 h5 fun W6 u r' ms6 e6 O6 ok6 h6 => ?_
      have e26 : Ext W' W6 := (e24.trans e5).trans e6
      split at h6
      · rename_i key ek
        have hh6 := hh.on e26
        have ha6 := hacc.up e26
        obtain ⟨hh7, O7⟩ := hh6.put (u := .dK (putK xs key u)) O6
        refine ⟨xs, key, key_ok ok5 ek, hh6.at O6, by rw [ha6.length]; exact h6.1, W6.hold D (.dK (putK xs key u)), ms6, putK xs key u, setK acc key r', rfl, e26.s.trans hS, hh7, O7, ?_, h6.2⟩
        exact (ha6.put ok6).low hold_low
      · exact h6.elim
  · have hi' : i = ds.length := by omega
    subst hi'
    rw [List.drop_length] at hf
    refine .inl ⟨wkk.stops W' ms' hh.e0 O', ?_⟩
    have low : Low W' (W'.labl W1.S W1.P D (.dK xs)) := ⟨hk'.symm, Same.refl _, fun i a e => by show (W'.A ++ [D])[i]? = some a; rw [List.getElem?_append_left (List.getElem?_eq_some_iff.mp e).1]; exact e⟩
    obtain ⟨e3, O3, ok3⟩ := hh.take (u := .dK xs) (c := .dic acc) O' hk' ⟨_, rfl, hacc.low low⟩
    have := q (W'.labl W1.S W1.P D (.dK xs)) (.ref D) (.own ms'.length) _ (e1.trans e3) O3 ok3 hf
    have z : (W'.labl W1.S W1.P D (.dK xs)).H = W'.H := upd_id (hh.at O')
    rw [z] at this; exact this
theorem de_dc {kx vx tg iter : Expr} {ifs : List Expr} {scope : Scope} {own : List (Str × Nat)} {wi : WI} {wg : WG} {wt : WT} {wk wv : WE} {ss : List Nat} (hc : X.X.calm = true) (hN : X.X.N.Nodup) (hi : DI X tg iter wi) (ok : BlkOk X.X.N X.X.env.scope scope own)
    (hg : ∀ s H C cl fp, DG (X.blk s H scope cl C fp) tg wg ss) (ht : ∀ s H C cl fp, DTs (X.blk s H scope cl C fp) ifs wt)
    (hk : ∀ s H C cl fp, DE (X.blk s H scope cl C fp) kx wk) (hv : ∀ s H C cl fp, DE (X.blk s H scope cl C fp) vx wv) (hss : ∀ i ∈ ss, i ∈ own.map (·.2) := by decide) (hs : ∀ x, foldedSetIterable iter X.X.env x = pure x := by intro _; rfl) :
    DE X (.DictComp kx vx [⟨tg, iter, ifs, 0⟩] scope pos) (wDc wi wg wt wk wv (own.map (·.2))) := by
  obtain ⟨ti, pi, li⟩ := hi
  exact ⟨_, pe_dc (g := tgOf X.S.nv wg ss) (tt := ttOf X.S.nv wt) (tk := teOf X.S.nv wk) (tv := teOf X.S.nv wv) hc hN pi ok (fun s H C cl fp => (hg s H C cl fp).pg) (fun s H C cl fp => (ht s H C cl fp).pts) (fun s H C cl fp => (hk s H C cl fp).pe) (fun s H C cl fp => (hv s H C cl fp).pe) hs, le_dc hss li lg_of lt_of le_of le_of⟩
end
end Sy
namespace Sy
open PySem PySem.Spec PyProof.Rows L2
section
variable {X : Cy} {pos : Pos}
/-! ### d.get(k), d.get(k, x), d.pop(k), d.pop(k, x), d.clear() -/
theorem m1_ok {X : Cx} {o e : Expr} {m : Str} {apos cpos : Pos} (base : attributeBase o m X.env (eval o X.env) = eval o X.env := by rfl) (few : ((backTo cpos (starEach [e] X.env)).all (fun x => !x.1) && (backToKw cpos (keywordEach [] X.env)).all (fun x => x.1.isSome)
    && decide (([e] : List Expr).length + ([] : List Keyword).length + (if ([] : List Keyword).isEmpty then 0 else 1) < 30)) = true := by rfl) (line : (apos.endLine == cpos.line) = true := by rfl) (trees : backTo cpos (starEach [e] X.env) = [(false, eval e X.env)] := by rfl) : M1 X o m apos e cpos := ⟨base, few, line, trees⟩
@[simp] def wGet1 (wd wk : WE) : WE := fun ρ ms k => wd ρ ms fun r ms1 => match dicOf ms1 r with
  | some _ => wk ρ ms1 fun q ms2 => (match dicOf ms2 r, keyD q with
    | some kvs, some key => k ((getK kvs key).getD .non) ms2
    | _, _ => False)
  | none => False
theorem isD_of {W : Wd} {ms : Ms} {v : V} {r : Dat} {kvs : List (Key × Dat)} (O : Own W ms) (ok : RvOk W v r) (h : dicOf ms r = some kvs) : ∃ a, v = .ref a ∧ IsD W.H a := by
  obtain ⟨a, xs, rfl, h1, _⟩ := O.dict ok (dicOf_look h)
  exact ⟨a, rfl, .inl ⟨xs, h1⟩⟩
theorem de_get1 {o e : Expr} {apos cpos : Pos} {wd wk : WE} (hu : X.X.A.units + 1 < cLine) (ho : DE X o wd) (he : DE X e wk) (m : M1 X.X o "get" apos e cpos) : DE X (.Call (.Attribute o "get" apos) [e] [] cpos) (wGet1 wd wk) := by
  obtain ⟨td, pd, ld⟩ := ho
  obtain ⟨tk, pk, lk⟩ := he
  refine ⟨_, pe_dget1 hu pd pk m, fun W σ ρ ms Q k hK R O hw q => ld W σ ρ ms _ _ hK R O hw fun W1 v r ms1 e1 O1 ok1 h1 => ?_⟩
  split at h1
  · rename_i kv0 e0
    obtain ⟨a, rfl, isd⟩ := isD_of O1 ok1 e0
    refine ⟨a, rfl, isd, lk W1 σ ρ ms1 _ _ (e1.s.trans hK) (R.mono e1) O1 h1 fun W2 y qd ms2 e2 O2 ok2 h2 => ?_⟩
    split at h2
    · rename_i kvs key g1 g2
      obtain ⟨p, xs, ep, rk, _, g⟩ := O2.dget (up_v e2 ok1) g1 ok2 g2
      cases ep
      refine ⟨_, g, ?_⟩
      cases ev : getK kvs key with
      | none => rw [ev] at h2; rw [rk.val.1 ev]; exact q W2 _ _ ms2 (e1.trans e2) O2 .non h2
      | some d =>
        rw [ev] at h2
        obtain ⟨u, hu, oku⟩ := rk.val.2 d ev
        rw [hu]
        exact q W2 _ _ ms2 (e1.trans e2) O2 oku h2
    · exact h2.elim
  · exact h1.elim
theorem m2_ok {X : Cx} {o e f : Expr} {m : Str} {apos cpos : Pos} (base : attributeBase o m X.env (eval o X.env) = eval o X.env := by rfl) (few : ((backTo cpos (starEach [e, f] X.env)).all (fun x => !x.1) && (backToKw cpos (keywordEach [] X.env)).all (fun x => x.1.isSome)
    && decide (([e, f] : List Expr).length + ([] : List Keyword).length + (if ([] : List Keyword).isEmpty then 0 else 1) < 30)) = true := by rfl) (line : (apos.endLine == cpos.line) = true := by rfl) (trees : backTo cpos (starEach [e, f] X.env) = [(false, eval e X.env), (false, eval f X.env)] := by rfl) : M2 X o m apos e f cpos := ⟨base, few, line, trees⟩
@[simp] def wGet2 (wd wk wx : WE) : WE := fun ρ ms k => wd ρ ms fun r ms1 => match dicOf ms1 r with
  | some _ => wk ρ ms1 fun q ms2 => wx ρ ms2 fun x ms3 => (match dicOf ms3 r, keyD q with
    | some kvs, some key => k ((getK kvs key).getD x) ms3
    | _, _ => False)
  | none => False
theorem de_get2 {o e f : Expr} {apos cpos : Pos} {wd wk wx : WE} (hu : X.X.A.units + 1 < cLine) (ho : DE X o wd) (he : DE X e wk) (hf : DE X f wx) (m : M2 X.X o "get" apos e f cpos) : DE X (.Call (.Attribute o "get" apos) [e, f] [] cpos) (wGet2 wd wk wx) := by
  obtain ⟨td, pd, ld⟩ := ho
  obtain ⟨tk, pk, lk⟩ := he
  obtain ⟨tx, px, lx⟩ := hf
  refine ⟨_, pe_dget2 hu pd pk px m, fun W σ ρ ms Q k hK R O hw q => ld W σ ρ ms _ _ hK R O hw fun W1 v r ms1 e1 O1 ok1 h1 => ?_⟩
  split at h1
  · rename_i kv0 e0
    obtain ⟨a, rfl, isd⟩ := isD_of O1 ok1 e0
    refine ⟨a, rfl, isd, lk W1 σ ρ ms1 _ _ (e1.s.trans hK) (R.mono e1) O1 h1 fun W2 y qd ms2 e2 O2 ok2 h2 => lx W2 σ ρ ms2 _ _ (e2.s.trans (e1.s.trans hK)) ((R.mono e1).mono e2) O2 h2 fun W3 z zd ms3 e3 O3 ok3 h3 => ?_⟩
    have e13 := e2.trans e3
    split at h3
    · rename_i kvs key g1 g2
      obtain ⟨p, xs, ep, rk, _, g⟩ := O3.dget (up_v e13 ok1) g1 (up_v e3 ok2) g2
      cases ep
      refine ⟨_, g, ?_⟩
      cases ev : getK kvs key with
      | none => rw [ev] at h3; rw [rk.val.1 ev]; exact q W3 _ _ ms3 (e1.trans e13) O3 ok3 h3
      | some d =>
        rw [ev] at h3
        obtain ⟨u, hu, oku⟩ := rk.val.2 d ev
        rw [hu]
        exact q W3 _ _ ms3 (e1.trans e13) O3 oku h3
    · exact h3.elim
  · exact h1.elim
@[simp] def wDPop1 (wd wk : WE) : WE := fun ρ ms k => wd ρ ms fun r ms1 => match r with
  | .own j => (match ms1[j]? with
    | some (.dic _) => wk ρ ms1 fun q ms2 => (match ms2[j]?, keyD q with
      | some (.dic kvs), some key => (match getK kvs key with
        | some d => k d (ms2.set j (.dic (delK kvs key)))
        | none => False)
      | _, _ => False)
    | _ => False)
  | _ => False
theorem de_dpop1 {o e : Expr} {apos cpos : Pos} {wd wk : WE} (ho : DE X o wd) (he : DE X e wk) (m : M1 X.X o "pop" apos e cpos) : DE X (.Call (.Attribute o "pop" apos) [e] [] cpos) (wDPop1 wd wk) := by
  obtain ⟨td, pd, ld⟩ := ho
  obtain ⟨tk, pk, lk⟩ := he
  refine ⟨_, pe_dpop1 pd pk m, fun W σ ρ ms Q k hK R O hw q => ld W σ ρ ms _ _ hK R O hw fun W1 v r ms1 e1 O1 ok1 h1 => ?_⟩
  split at h1
  · rename_i j
    split at h1
    · rename_i kv0 e0
      obtain ⟨b, xs0, hb, hg0, k0, _⟩ := O1.dicAt e0
      cases ok1 with
      | own ha =>
        rw [ha] at hb; cases hb
        refine ⟨_, rfl, .inl ⟨_, .inl k0⟩, lk W1 σ ρ ms1 _ _ (e1.s.trans hK) (R.mono e1) O1 h1 fun W2 y qd ms2 e2 O2 ok2 h2 => ?_⟩
        split at h2
        · rename_i kvs key g1 g2
          split at h2
          · rename_i d ed
            obtain ⟨b, xs, hb, hg, k1, rk⟩ := O2.dicAt g1
            rw [e2.adr _ _ ha] at hb; cases hb
            obtain ⟨u, hu, oku⟩ := rk.val.2 d ed
            refine ⟨xs, key, u, k1, key_ok ok2 g2, hu, ?_⟩
            obtain ⟨O3, e3⟩ := O2.putDic (e2.adr _ _ ha) hg k1 (rk.drop (k := key))
            exact q _ _ _ _ ((e1.trans e2).trans e3) O3 (up_v e3 oku) h2
          · exact h2.elim
        · exact h2.elim
    · exact h1.elim
  · exact h1.elim
@[simp] def wDPop2 (wd wk wx : WE) : WE := fun ρ ms k => wd ρ ms fun r ms1 => match r with
  | .own j => (match ms1[j]? with
    | some (.dic _) => wk ρ ms1 fun q ms2 => wx ρ ms2 fun x ms3 => (match ms3[j]?, keyD q with
      | some (.dic kvs), some key => (match getK kvs key with
        | some d => k d (ms3.set j (.dic (delK kvs key)))
        | none => k x ms3)
      | _, _ => False)
    | _ => False)
  | _ => False
theorem de_dpop2 {o e f : Expr} {apos cpos : Pos} {wd wk wx : WE} (ho : DE X o wd) (he : DE X e wk) (hf : DE X f wx) (m : M2 X.X o "pop" apos e f cpos) : DE X (.Call (.Attribute o "pop" apos) [e, f] [] cpos) (wDPop2 wd wk wx) := by
  obtain ⟨td, pd, ld⟩ := ho
  obtain ⟨tk, pk, lk⟩ := he
  obtain ⟨tx, px, lx⟩ := hf
  refine ⟨_, pe_dpop2 pd pk px m, fun W σ ρ ms Q k hK R O hw q => ld W σ ρ ms _ _ hK R O hw fun W1 v r ms1 e1 O1 ok1 h1 => ?_⟩
  split at h1
  · rename_i j
    split at h1
    · rename_i kv0 e0
      obtain ⟨b, xs0, hb, hg0, k0, _⟩ := O1.dicAt e0
      cases ok1 with
      | own ha =>
        rw [ha] at hb; cases hb
        refine ⟨_, rfl, .inl ⟨_, .inl k0⟩, lk W1 σ ρ ms1 _ _ (e1.s.trans hK) (R.mono e1) O1 h1 fun W2 y qd ms2 e2 O2 ok2 h2 => lx W2 σ ρ ms2 _ _ (e2.s.trans (e1.s.trans hK)) ((R.mono e1).mono e2) O2 h2 fun W3 z zd ms3 e3 O3 ok3 h3 => ?_⟩
        have e13 := e2.trans e3
        split at h3
        · rename_i kvs key g1 g2
          obtain ⟨b, xs, hb, hg, k1, rk⟩ := O3.dicAt g1
          rw [e13.adr _ _ ha] at hb; cases hb
          refine ⟨xs, key, k1, key_ok (up_v e3 ok2) g2, fun u hu => ?_, fun hn => ?_⟩
          · cases ed : getK kvs key with
            | none => rw [rk.val.1 ed] at hu; cases hu
            | some d =>
              rw [ed] at h3
              obtain ⟨u', hu', oku⟩ := rk.val.2 d ed
              rw [hu] at hu'; cases hu'
              obtain ⟨O4, e4⟩ := O3.putDic (e13.adr _ _ ha) hg k1 (rk.drop (k := key))
              exact q _ _ _ _ ((e1.trans e13).trans e4) O4 (up_v e4 oku) h3
          · cases ed : getK kvs key with
            | none => rw [ed] at h3; exact q _ _ _ _ (e1.trans e13) O3 ok3 h3
            | some d => obtain ⟨u', hu', _⟩ := rk.val.2 d ed; rw [hn] at hu'; cases hu'
        · exact h3.elim
    · exact h1.elim
  · exact h1.elim
/-! ### dict(d), dict(pairs) -/
/-- the pairs of a list of pairs -/
@[simp] def pairsD : List Dat → Option (List (Key × Dat))
  | [] => some []
  | .tup [x, y] :: r => (match keyD x, pairsD r with
    | some key, some ps => some ((key, y) :: ps)
    | _, _ => none)
  | _ => none
@[simp] def wDictOf : WC := fun rs ms k => match rs with
  | [r] => (match dicOf ms r with
    | some kvs => k (.own ms.length) (ms ++ [.dic kvs])
    | none => (match look ms r with
      | some (.lst ds) => (match pairsD ds with
        | some ps => k (.own ms.length) (ms ++ [.dic (mergeD [] ps)])
        | none => False)
      | _ => False))
  | _ => False
def rDictC : List V → Hp → VK → Prop := fun xs H Q => ∃ a kvs, xs = [.ref a] ∧ Rd H a (.dK kvs) ∧ ∀ p, H p = none → Q (.ref p) (upd H p (.dK kvs))
theorem call_dictC {X : Cx} : CallR X (.type "dict") rDictC := by
  intro pins s σ H xs us Q I r h
  obtain ⟨a, kvs, rfl, ha, q⟩ := h
  obtain ⟨u, rfl, ru⟩ := vals1 r
  cases ru
  exact d_copyOf I ha fun p s' hp I' => ⟨.ref p, _, I', rfl, q p hp⟩
theorem pairsD_ok {W : Wd} {ms : Ms} {K : PySem.W.Frag} (O : Own W ms) : ∀ {vs : List V} {ds : List Dat} {ps : List (Key × Dat)}, RvsOk W vs ds → pairsD ds = some ps → ∃ (as : List Addr) (kvs : List (Key × V)), vs = as.map V.ref ∧ Paired (fun p kv => SqT K W.H p [kV kv.1, kv.2]) as kvs ∧ RkOk W kvs ps
  | _, _, ps, .nil, h => by cases h; exact ⟨[], [], rfl, .nil, .nil⟩
  | _, d :: ds, ps, .cons hd hr, h => by
    unfold pairsD at h
    split at h
    · rename_i e; cases e
    · rename_i x y r e
      cases e
      split at h
      · rename_i key qs ek er
        cases h
        obtain ⟨as, kvs, h1, h2, h3⟩ := pairsD_ok (K := K) O hr er
        cases hd with
        | tup g1 g2 =>
          obtain ⟨v, w, rfl, okv, okw⟩ := Dts.two g2
          obtain rfl := key_ok okv ek
          exact ⟨_ :: as, (key, w) :: kvs, by rw [h1]; rfl, .cons (SqT.of (O.ex _ _ g1)) h2, .cons okw h3⟩
      · cases h
    · cases h
theorem dc_dictOf (hc : X.X.calm = true) : CallR X.X (.type "dict") (fun xs H Q => rDictC xs H Q ∨ ∃ (a : Addr) (ps : List Addr) (kvs : List (Key × V)), xs = [.ref a] ∧ SqL X.X.K H a (ps.map V.ref) ∧ Paired (fun p kv => SqT X.X.K H p [kV kv.1, kv.2]) ps kvs ∧ ∀ p, H p = none → Q (.ref p) (upd H p (.dK (mergeK [] kvs)))) ∧
    LC X.S (fun xs H Q => rDictC xs H Q ∨ ∃ (a : Addr) (ps : List Addr) (kvs : List (Key × V)), xs = [.ref a] ∧ SqL X.X.K H a (ps.map V.ref) ∧ Paired (fun p kv => SqT X.X.K H p [kV kv.1, kv.2]) ps kvs ∧ ∀ p, H p = none → Q (.ref p) (upd H p (.dK (mergeK [] kvs)))) wDictOf := by
  refine ⟨fun pins s σ H xs us Q I rv hh => hh.elim (call_dictC pins s σ H xs us Q I rv) (call_dictP hc pins s σ H xs us Q I rv), fun W vs rs ms Q k hK ok O hw q => ?_⟩
  unfold wDictOf at hw
  split at hw
  · rename_i r
    obtain ⟨v, rfl, o1⟩ := ok.one
    split at hw
    · rename_i kvs e
      obtain ⟨a, xs, rfl, h1, h2⟩ := O.dict o1 (dicOf_look e)
      refine .inl ⟨a, xs, rfl, h1, fun p hp => ?_⟩
      obtain ⟨O2, e2⟩ := O.take (o := .dK xs) (c := .dic kvs) hp ⟨xs, rfl, h2.low take_low⟩
      exact q _ _ _ _ e2 O2 (take_own O) hw
    · split at hw
      · rename_i ds e
        split at hw
        · rename_i ps ep
          obtain ⟨a, xs, rfl, h1, h2⟩ := O.list o1 e
          obtain ⟨as, kvs, rfl, h3, h4⟩ := pairsD_ok (K := X.X.K) O h2 ep
          refine .inr ⟨a, as, kvs, rfl, SqL.of h1, h3, fun p hp => ?_⟩
          obtain ⟨O2, e2⟩ := O.take (o := .dK (mergeK [] kvs)) (c := .dic (mergeD [] ps)) hp ⟨_, rfl, (RkOk.merge h4 .nil).low take_low⟩
          exact q _ _ _ _ e2 O2 (take_own O) hw
        · exact hw.elim
      · exact hw.elim
  · exact hw.elim
/-! ### walks of a dict -/
/-- a dict that does not change now -/
@[simp] def frzOf (ms : Ms) : Dat → Option (List (Key × Dat))
  | .dic kvs => some kvs
  | .own i => (match ms[i]? with
    | some (.lck (.dic kvs)) => some kvs
    | _ => none)
  | _ => none
theorem Own.frzD {W : Wd} {ms : Ms} {v : V} {r : Dat} {kvs : List (Key × Dat)} (O : Own W ms) (ok : RvOk W v r) (h : frzOf ms r = some kvs) : ∃ a ob xs, v = .ref a ∧ W.H a = some (.frz ob (.dK xs)) ∧ RkOk W xs kvs ∧ ∀ W' ms', Ext0 W W' → Own W' ms' → W'.H a = some (.frz ob (.dK xs)) := by
  cases r <;> simp only [frzOf] at h <;> first | (cases h; done) | skip
  · cases h
    cases ok with
    | dic h1 h2 => exact ⟨_, _, _, rfl, O.ex _ _ h1, h2.rks, fun W' ms' e O' => O'.ex _ _ (e.ex _ _ h1)⟩
  · rename_i i
    split at h
    · rename_i kv e
      cases h
      cases ok with
      | own ha =>
        obtain ⟨b, o, hb, hg, ho, ob, u, rfl, xs, rfl, rk⟩ := O.cell i _ e (fun z => by cases z)
        rw [ha] at hb; cases hb
        exact ⟨_, ob, xs, rfl, ho, rk, fun W' ms' e O' => e.frz _ _ _ ho⟩
    · cases h
@[simp] def wiKeys (we : WE) : WI := fun ρ ms k => we ρ ms fun r ms1 => match frzOf ms1 r with
  | some kvs => k (kvs.map fun p => datK p.1) ms1
  | none => False
@[simp] def wiVals (we : WE) : WI := fun ρ ms k => we ρ ms fun r ms1 => match frzOf ms1 r with
  | some kvs => k (kvs.map fun p => p.2) ms1
  | none => False
@[simp] def wiItems (we : WE) : WI := fun ρ ms k => we ρ ms fun r ms1 => match frzOf ms1 r with
  | some kvs => k (kvs.map fun p => .tup [datK p.1, p.2]) ms1
  | none => False
theorem di_keys {tg e : Expr} {we : WE} (h : DE X e we) : DI X tg e (wiKeys we) := by
  obtain ⟨t, p, l⟩ := h
  refine ⟨_, pi_keys p, fun W σ ρ ms R k hK Rl O hw q => l W σ ρ ms _ _ hK Rl O hw fun W1 v r ms1 e1 O1 ok1 h1 => ?_⟩
  split at h1
  · rename_i kvs ek
    obtain ⟨a, ob, xs, rfl, hH, rk, st⟩ := O1.frzD ok1 ek
    refine ⟨a, ob, rfl, .inl ⟨xs, hH, q W1 _ _ ms1 e1 O1 ⟨fun W' ms' i e O' hi => ⟨st W' ms' e O', by rw [List.length_map] at hi; rw [rk.length]; exact hi⟩, fun W' ms' e O' => ⟨st W' ms' e O', by rw [List.length_map, rk.length]; exact Nat.le_refl _⟩, fun W' ms' i x H' d e O' hget y => ?_⟩ h1⟩⟩
    obtain ⟨rfl, key, v, hi, rfl⟩ := y
    obtain ⟨d', hd', _⟩ := rk.get hi
    rw [List.getElem?_map, hd'] at hget
    cases hget
    exact ⟨W', Ext.refl _, O', rfl, kV_ok key⟩
  · exact h1.elim
theorem di_vals {tg e : Expr} {apos cpos : Pos} {we : WE} (h : DE X e we) (hbase : attributeBase e "values" X.X.env (eval e X.X.env) = eval e X.X.env := by rfl) (hline : (apos.endLine == cpos.line) = true := by rfl) : DI X tg (.Call (.Attribute e "values" apos) [] [] cpos) (wiVals we) := by
  obtain ⟨t, p, l⟩ := h
  refine ⟨_, pi_values p hbase hline, fun W σ ρ ms R k hK Rl O hw q => l W σ ρ ms _ _ hK Rl O hw fun W1 v r ms1 e1 O1 ok1 h1 => ?_⟩
  split at h1
  · rename_i kvs ek
    obtain ⟨a, ob, xs, rfl, hH, rk, st⟩ := O1.frzD ok1 ek
    refine ⟨a, ob, xs, rfl, hH, q W1 _ _ ms1 e1 O1 ⟨fun W' ms' i e O' hi => ⟨st W' ms' e O', by rw [List.length_map] at hi; rw [rk.length]; exact hi⟩, fun W' ms' e O' => ⟨st W' ms' e O', by rw [List.length_map, rk.length]; exact Nat.le_refl _⟩, fun W' ms' i x H' d e O' hget y => ?_⟩ h1⟩
    obtain ⟨rfl, key, hi⟩ := y
    obtain ⟨d', hd', okd⟩ := rk.get hi
    rw [List.getElem?_map, hd'] at hget
    cases hget
    exact ⟨W', Ext.refl _, O', rfl, low_v e.low okd⟩
  · exact h1.elim
theorem di_items {e : Expr} {elts : List Expr} {kk : Nat} {tpos apos cpos : Pos} {we : WE} (h : DE X e we) (hbase : attributeBase e "items" X.X.env (eval e X.X.env) = eval e X.X.env := by rfl) (hline : (apos.endLine == cpos.line) = true := by rfl) : DI X (.Tuple elts kk tpos) (.Call (.Attribute e "items" apos) [] [] cpos) (wiItems we) := by
  obtain ⟨t, p, l⟩ := h
  refine ⟨_, pi_items p hbase hline, fun W σ ρ ms R k hK Rl O hw q => l W σ ρ ms _ _ hK Rl O hw fun W1 v r ms1 e1 O1 ok1 h1 => ?_⟩
  split at h1
  · rename_i kvs ek
    obtain ⟨a, ob, xs, rfl, hH, rk, st⟩ := O1.frzD ok1 ek
    refine ⟨a, ob, xs, rfl, hH, q W1 _ _ ms1 e1 O1 ⟨fun W' ms' i e O' hi => ⟨st W' ms' e O', by rw [List.length_map] at hi; rw [rk.length]; exact hi⟩, fun W' ms' e O' => ⟨st W' ms' e O', by rw [List.length_map, rk.length]; exact Nat.le_refl _⟩, fun W' ms' i x H' d e O' hget y => ?_⟩ h1⟩
    obtain ⟨T, key, v, hi, rfl, hT, rfl⟩ := y
    obtain ⟨d', hd', okd⟩ := rk.get hi
    rw [List.getElem?_map, hd'] at hget
    cases hget
    obtain ⟨O2, e2⟩ := O'.lay (o := .tup [kV key, v]) hT
    exact ⟨W'.lay T _, e2, O2, rfl, .tup upd_same (.cons (kV_ok key) (.cons (up_v e2 (low_v e.low okd)) .nil))⟩
  · exact h1.elim
/-! ### d.clear() -/
@[simp] def wClear (wd : WE) : WE := fun ρ ms k => wd ρ ms fun r ms1 => match r with
  | .own j => (match ms1[j]? with
    | some (.dic _) => k .non (ms1.set j (.dic []))
    | _ => False)
  | _ => False
def tClear (td : TE) : TE := fun σ H Q => td σ H fun x H1 => ∃ a kvs, x = .ref a ∧ H1 a = some (.dK kvs) ∧ Q .non (upd H1 a (.dK []))
theorem pe_clearD {X : Cx} {o : Expr} {td : TE} {apos cpos : Pos} (ho : PE X o td) (hbase : attributeBase o "clear" X.env (eval o X.env) = eval o X.env := by rfl) (hline : (apos.endLine == cpos.line) = true := by rfl) : PE X (.Call (.Attribute o "clear" apos) [] [] cpos) (tClear td) := by
  refine ⟨fun pins s σ H Q I h => ?_⟩
  refine wpAny_Call_method0_late hbase hline (thn (ho.run pins s σ H _ I h) fun u s1 ⟨x, H1, I1, rx, a, kvs, ex, hd, q⟩ => ?_)
  subst ex
  obtain rfl : u = Value.ref a := rx
  obtain ⟨t1, t2, _⟩ := isD_at I1 (.inl ⟨kvs, .inl hd⟩)
  exact ⟨"dict", "dict.clear", F.plainAttrs_dict, F.slot_dict_clear, F.type_dict_clear, t1, t2, Calls.callWith_builtin rfl (PySem.evalArgs_none (d_clear I1 hd fun s' I' => ⟨.non, _, I', rfl, q⟩))⟩
theorem de_clear {o : Expr} {apos cpos : Pos} {wd : WE} (ho : DE X o wd) (hbase : attributeBase o "clear" X.X.env (eval o X.X.env) = eval o X.X.env := by rfl) (hline : (apos.endLine == cpos.line) = true := by rfl) : DE X (.Call (.Attribute o "clear" apos) [] [] cpos) (wClear wd) := by
  obtain ⟨td, pd, ld⟩ := ho
  refine ⟨_, pe_clearD pd hbase hline, fun W σ ρ ms Q k hK R O hw q => ld W σ ρ ms _ _ hK R O hw fun W1 v r ms1 e1 O1 ok1 h1 => ?_⟩
  split at h1
  · rename_i j
    split at h1
    · rename_i kv0 e0
      obtain ⟨b, xs, hb, hg, k1, _⟩ := O1.dicAt e0
      cases ok1 with
      | own ha =>
        rw [ha] at hb; cases hb
        obtain ⟨O2, e2⟩ := O1.putDic (ys := []) (ds := []) ha hg k1 .nil
        exact ⟨_, xs, rfl, k1, q _ _ _ _ (e1.trans e2) O2 .non h1⟩
    · exact h1.elim
  · exact h1.elim
/-! ### a dict is locked while it is walked -/
def Wd.lock (W : Wd) (a : Addr) (o : HO) : Wd := W.put a o
/-- the ends of what runs under the lock of j -/
def lckE (j : Nat) (c : Cell) (x : KX) (E : WEnds) : WEnds where
  nx := fun ρ ms => ms[j]? = some (.lck c) ∧ E.nx ⟨ρ.sl, x, ρ.xc, ρ.xf⟩ (ms.set j c)
  rt := fun r ms => ms[j]? = some (.lck c) ∧ E.rt r (ms.set j c)
  bk := fun ρ ms => ms[j]? = some (.lck c) ∧ E.bk ⟨ρ.sl, x, ρ.xc, ρ.xf⟩ (ms.set j c)
  ct := fun ρ ms => ms[j]? = some (.lck c) ∧ E.ct ⟨ρ.sl, x, ρ.xc, ρ.xf⟩ (ms.set j c)
@[simp] theorem lckE_nx {j : Nat} {c : Cell} {x : KX} {E : WEnds} {ρ : Env} {ms : Ms} : (lckE j c x E).nx ρ ms = (ms[j]? = some (.lck c) ∧ E.nx ⟨ρ.sl, x, ρ.xc, ρ.xf⟩ (ms.set j c)) := rfl
@[simp] theorem lckE_rt {j : Nat} {c : Cell} {x : KX} {E : WEnds} {r : Dat} {ms : Ms} : (lckE j c x E).rt r ms = (ms[j]? = some (.lck c) ∧ E.rt r (ms.set j c)) := rfl
@[simp] theorem lckE_bk {j : Nat} {c : Cell} {x : KX} {E : WEnds} {ρ : Env} {ms : Ms} : (lckE j c x E).bk ρ ms = (ms[j]? = some (.lck c) ∧ E.bk ⟨ρ.sl, x, ρ.xc, ρ.xf⟩ (ms.set j c)) := rfl
@[simp] theorem lckE_ct {j : Nat} {c : Cell} {x : KX} {E : WEnds} {ρ : Env} {ms : Ms} : (lckE j c x E).ct ρ ms = (ms[j]? = some (.lck c) ∧ E.ct ⟨ρ.sl, x, ρ.xc, ρ.xf⟩ (ms.set j c)) := rfl
theorem unlock_ok {W W' : Wd} {ms' : Ms} {a : Addr} {xs : List (Key × V)} {kvs : List (Key × Dat)} {od : Obj} {j : Nat} (hj : W.A[j]? = some a) (hg : W.G a = none) (h0 : W.H a = some (.dK xs)) (rk : RkOk W xs kvs) (e : Ext (W.put a (.frz od (.dK xs))) W') (O' : Own W' ms') (hc : ms'[j]? = some (.lck (.dic kvs))) :
    W'.H a = some (.frz od (.dK xs)) ∧ Own (W'.put a (.dK xs)) (ms'.set j (.dic kvs)) ∧ Ext W (W'.put a (.dK xs)) := by
  have hH : W'.H a = some (.frz od (.dK xs)) := e.frz _ _ _ upd_same
  have hA : W'.A[j]? = some a := e.adr j a hj
  obtain ⟨b, o, hb, hg', ho, _⟩ := O'.cell j _ hc (fun z => by cases z)
  rw [hA] at hb; cases hb
  have low : Low W W' := ⟨e.k, e.ex, e.adr⟩
  refine ⟨hH, O'.put hA hg' ⟨xs, rfl, rk.low low⟩, ⟨e.s, e.ex, e.adr, fun b ob v hb => ?_, e.p⟩⟩
  have z : b ≠ a := fun z => by subst z; rw [h0] at hb; cases hb
  show upd W'.H a _ b = _
  rw [upd_ne z]
  refine e.frz b ob v ?_
  show upd W.H a _ b = _
  rw [upd_ne z]; exact hb
theorem lock_ok {W : Wd} {ms : Ms} {a : Addr} {xs : List (Key × V)} {kvs : List (Key × Dat)} {od : Obj} {j : Nat} (O : Own W ms) (hj : W.A[j]? = some a) (hg : W.G a = none) (rk : RkOk W xs kvs) : Own (W.put a (.frz od (.dK xs))) (ms.set j (.lck (.dic kvs))) := O.put hj hg ⟨od, _, rfl, xs, rfl, rk⟩
theorem Rel.lock {W : Wd} {a : Addr} {xs : List (Key × V)} {od : Obj} {σ : L2.St} {ρ : Env} (h0 : W.H a = some (.dK xs)) (R : Rel W σ ρ) : Rel (W.put a (.frz od (.dK xs))) σ ρ :=
  R.mono (Ext.put h0 fun _ _ z => by cases z)
@[simp] def wLck (i : Nat) (ws : WS) : WS := fun E ρ ms => match ρ.sl[i]? with
  | some (some (.own j)) => (match ms[j]? with
    | some (.dic kvs) => ws (lckE j (.dic kvs) ρ.ex E) ρ (ms.set j (.lck (.dic kvs)))
    | _ => False)
  | _ => False
theorem ds_lock (i : Nat) {st : Stmt} {ws : WS} (h : DS X st ws) : DS X st (wLck i ws) := by
  obtain ⟨t, p, l⟩ := h
  refine ⟨_, ps_lock p, fun W σ ρ ms D E hK R O hw ok => ?_⟩
  unfold wLck at hw
  split at hw
  · rename_i j ej
    split at hw
    · rename_i kvs e0
      obtain ⟨v, hv, okv⟩ := R.get ej
      obtain ⟨a, xs, hA, hg, h0, rk⟩ := O.dicAt e0
      refine ⟨a, .dK xs, h0, trivial, fun od => ?_⟩
      have e1 : Ext W (W.put a (.frz od (.dK xs))) := Ext.put h0 fun _ _ z => by cases z
      refine l (W.put a (.frz od (.dK xs))) σ ρ _ _ (lckE j (.dic kvs) ρ.ex E) hK (R.lock h0) (lock_ok O hA hg rk) hw ⟨fun W' σ' ρ' ms' e O' R' h' => ?_, fun W' v r ms' e O' ok' h' => ?_, fun W' σ' ρ' ms' e O' R' h' => ?_, fun W' σ' ρ' ms' e O' R' h' => ?_⟩
      all_goals obtain ⟨hc, h'⟩ := h'
      all_goals obtain ⟨q1, q2, q3⟩ := unlock_ok hA hg h0 rk e O' hc
      all_goals have e4 : Low W' (W'.put a (.dK xs)) := put_low
      · exact ⟨q1, ok.nx _ σ' ⟨ρ'.sl, ρ.ex, ρ'.xc, ρ'.xf⟩ _ q3 q2 ⟨R'.sl.low e4, R.ex.mono q3, R'.hd.low e4 rfl⟩ h'⟩
      · exact ⟨q1, ok.rt _ v r _ q3 q2 (low_v e4 ok') h'⟩
      · exact ⟨q1, ok.bk _ σ' ⟨ρ'.sl, ρ.ex, ρ'.xc, ρ'.xf⟩ _ q3 q2 ⟨R'.sl.low e4, R.ex.mono q3, R'.hd.low e4 rfl⟩ h'⟩
      · exact ⟨q1, ok.ct _ σ' ⟨ρ'.sl, ρ.ex, ρ'.xc, ρ'.xf⟩ _ q3 q2 ⟨R'.sl.low e4, R.ex.mono q3, R'.hd.low e4 rfl⟩ h'⟩
    · exact hw.elim
  · exact hw.elim
@[simp] def wLckE (i : Nat) (we : WE) : WE := fun ρ ms k => match ρ.sl[i]? with
  | some (some (.own j)) => (match ms[j]? with
    | some (.dic kvs) => we ρ (ms.set j (.lck (.dic kvs))) fun r ms1 => ms1[j]? = some (.lck (.dic kvs)) ∧ k r (ms1.set j (.dic kvs))
    | _ => False)
  | _ => False
theorem de_lock (i : Nat) {e : Expr} {we : WE} (h : DE X e we) : DE X e (wLckE i we) := by
  obtain ⟨t, p, l⟩ := h
  refine ⟨_, pe_lock p, fun W σ ρ ms Q k hK R O hw q => ?_⟩
  unfold wLckE at hw
  split at hw
  · rename_i j ej
    split at hw
    · rename_i kvs e0
      obtain ⟨a, xs, hA, hg, h0, rk⟩ := O.dicAt e0
      refine ⟨a, .dK xs, h0, trivial, fun od => ?_⟩
      refine l (W.put a (.frz od (.dK xs))) σ ρ _ _ _ hK (R.lock h0) (lock_ok O hA hg rk) hw fun W' v r ms' e O' ok' h' => ?_
      obtain ⟨hc, h'⟩ := h'
      obtain ⟨q1, q2, q3⟩ := unlock_ok hA hg h0 rk e O' hc
      exact ⟨q1, q _ v r _ q3 q2 (low_v put_low ok') h'⟩
    · exact hw.elim
  · exact hw.elim
end
end Sy
namespace Sy
open PySem PySem.Spec PyProof.Rows L2
/-! ## exception classes of one's own over Exception -/
def exB : List Value := [.type "Exception", .type "BaseException", .type "object"]
structure XcC (K : PySem.W.Frag) (C : Addr) : Prop where
  ini : PySem.W.excInitIn K C exB "Exception.__new__" = true
  ovr : PySem.W.excOver K C exB = true
  hd : PySem.W.hasDictIn K C = true
  sa : PySem.W.findIn K (.ref C) "__setattr__" = some (some (.builtin "object.__setattr__"))
  sb : PySem.W.subIn K (.ref C) (.type "BaseException") = some true
  ty : PySem.W.typeIn K (.ref C) = some (.type "type")
  kp : PySem.W.keepIn K (.ref C) = true
  ga : PySem.W.findIn K (.ref C) "__getattribute__" = some (some (.builtin "BaseException.__getattribute__"))
  gt : PySem.W.findIn K (.ref C) "__getattr__" = some none
  cl : PySem.W.findIn K (.ref C) "__class__" = some (some (.builtin "object.__class__"))
  cg : PySem.W.specialIn K (.builtin "object.__class__") "__get__" = some (some (.builtin "getset_descriptor.__get__"))
  ct : PySem.W.takesIn K (.builtin "object.__class__") = some true
  mo : PySem.W.mroIn K C (.type "object") = some true
  ic : (PySem.W.clsIn K C).isSome = true
def xcB (K : PySem.W.Frag) (C : Addr) : Bool :=
  (PySem.W.excInitIn K C exB "Exception.__new__" && PySem.W.excOver K C exB && PySem.W.hasDictIn K C && decide (PySem.W.findIn K (.ref C) "__setattr__" = some (some (.builtin "object.__setattr__"))) && decide (PySem.W.subIn K (.ref C) (.type "BaseException") = some true)) &&
  (decide (PySem.W.typeIn K (.ref C) = some (.type "type")) && PySem.W.keepIn K (.ref C) && decide (PySem.W.findIn K (.ref C) "__getattribute__" = some (some (.builtin "BaseException.__getattribute__"))) && decide (PySem.W.findIn K (.ref C) "__getattr__" = some none)) &&
  (decide (PySem.W.findIn K (.ref C) "__class__" = some (some (.builtin "object.__class__"))) && decide (PySem.W.specialIn K (.builtin "object.__class__") "__get__" = some (some (.builtin "getset_descriptor.__get__"))) && decide (PySem.W.takesIn K (.builtin "object.__class__") = some true) && decide (PySem.W.mroIn K C (.type "object") = some true) && (PySem.W.clsIn K C).isSome)
theorem xcB_ok {K : PySem.W.Frag} {C : Addr} (h : xcB K C = true) : XcC K C := by
  unfold xcB at h
  simp only [Bool.and_eq_true, decide_eq_true_eq] at h
  obtain ⟨⟨⟨⟨⟨⟨a1, a2⟩, a3⟩, a4⟩, a5⟩, ⟨⟨b1, b2⟩, b3⟩, b4⟩, ⟨⟨⟨c1, c2⟩, c3⟩, c4⟩, c5⟩ := h
  exact ⟨a1, a2, a3, a4, a5, b1, b2, b3, b4, c1, c2, c3, c4, c5⟩
section
variable {X : Cx} {pins : List (Addr × Obj)} {σ : L2.St} {H : Hp} {s : Shared} {a C dx : Addr} {f : Str} {y : V} {u : Value} {fs : List (Str × V)} {Q : Unit → Shared → Prop} {E : Value → Shared → Prop} {A : Around}
/-- the first field -/
theorem xst_new (T : XcC X.K C) (I : Inv X pins σ H s) (e : H a = some (exo a C none)) (hno : PySem.W.findIn X.K (.ref C) f = some none) (ry : RelV y u)
    (h : ∀ dx s', H dx = none → dx ≠ a → Inv X pins σ (upd (upd H dx (exd dx [(f, y)])) a (exo a C (some dx))) s' → Q () s') : wpAny (model X.prog X.w) A (setAttr (.ref a) f u) Q E s := by
  obtain ⟨t1, ho⟩ := exo_at I.hok e
  obtain ⟨cd, hcd, hdd⟩ := PySem.W.any_some T.hd
  obtain ⟨hp, g, d, t, os⟩ := s
  refine PySem.W.set_plain I.kIn (od := none) ⟨ho, rfl, rfl, trivial⟩ T.sa ?_
  refine PySem.W.osa_openX (s := ⟨hp, g, d, t + 1, os⟩) (od := none) PySem.F.store_Exception I.kIn ⟨ho, rfl, rfl, trivial⟩ T.ovr (NoAttr.taker hno) fun b => ?_
  refine wpAny_bind (wpAny_pure (wpAny_bind (PySem.W.instanceDict_exc (s := ⟨hp, g, d, t + 1, os⟩) ho (PySem.W.looks_clsIn I.kIn hcd) hdd ?_)))
  have hxs : a ≠ hp.objs.size := Nat.ne_of_lt (Heap.lt_size ho)
  have hnd : H hp.objs.size = none := I.hok.fresh (Nat.le_refl _)
  refine PySem.HandSPX.store_in_new ⟨_, #[], _, (Heap.get?_update_ne _ _ _ _ hxs.symm).trans (Heap.get?_push_at rfl rfl), rfl, fun e he => absurd he (by simp), fun _ => rfl⟩ fun h' tk' hn' hs => ?_
  have hx₁ := Heap.get?_push_of_some (h := hp) (PySem.W.dictOf [] 0) ho
  have k : ∀ b o, b ≠ a → hp.get? b = some o → h'.get? b = some o := fun b o hb q => (hs.2 b (Nat.ne_of_lt (Heap.lt_size q))).trans ((Heap.get?_update_ne _ _ _ _ hb).trans (Heap.get?_push_of_some _ q))
  have hx : h'.get? a = some ({ cls := .ref C, dict := some hp.objs.size, data := .fields #[.ref t1, .none, .none, .none, .bool false, .none] } : Obj) := (hs.2 a hxs).trans (Heap.get?_update_self _ hx₁ rfl)
  have nd : ∀ {b : Addr} {o : Obj}, hp.get? b = some o → b ≠ hp.objs.size := fun {b o} q => Nat.ne_of_lt (Heap.lt_size q)
  have na : ∀ {b : Addr}, H b = none → b ≠ a := fun {b} n z => (by rw [z, e] at n; cases n)
  have U : Un X.fs [] H (upd (upd H hp.objs.size (exd hp.objs.size [(f, y)])) a (exo a C (some hp.objs.size))) hp h' := ⟨fun b o q n _ _ => k b o (na n) q, fun b o q n _ _ => ⟨o.slots, k b o (na n) q⟩, fun b o q n _ => (by rw [upd_ne (na n), upd_ne (nd q)]; exact n),
    fun b o q _ => (by by_cases hb : b = a; exact ⟨_, hb ▸ hx⟩; exact ⟨o, k b o hb q⟩), fun b xs q => (by rw [upd_ne (at_ne e q exo_tup), upd_ne (ne_of_none q hnd)]; exact q), fun b o v q => (by rw [upd_ne (at_ne e q exo_frz), upd_ne (ne_of_none q hnd)]; exact q),
    fun b qs q => ⟨#[], (by rw [upd_ne (at_ne e q exo_tbl), upd_ne (ne_of_none q hnd), q]; simp)⟩⟩
  refine h hp.objs.size _ hnd hxs.symm (I.un (t' := tk') U fun b o q => ?_)
  by_cases hb : b = a
  · subst hb; rw [upd_same] at q; cases q; exact exo_ok hx
  · rw [upd_ne hb] at q
    by_cases hd : b = hp.objs.size
    · subst hd; rw [upd_same] at q; cases q; exact exd_ok hn' (relO_put (fs := []) ry fun g => True.intro)
    · rw [upd_ne hd] at q
      exact (I.hok b o q).stay (fun c v hc z => k c v (hc.elim (fun hc => hc ▸ hb) fun hc => at_ne e hc exo_own) z) (fun c hc => (by rw [upd_ne (at_ne e hc exo_own), upd_ne (ne_of_none hc hnd)]; exact hc)) (fun c xs hc => (by rw [upd_ne (at_ne e hc exo_tup), upd_ne (ne_of_none hc hnd)]; exact hc))
/-- a further field -/
theorem xst_old (T : XcC X.K C) (I : Inv X pins σ H s) (e : H a = some (exo a C (some dx))) (ed : H dx = some (exd dx fs)) (hl : fs.length ≤ 900) (hno : PySem.W.findIn X.K (.ref C) f = some none) (ry : RelV y u)
    (h : ∀ s', Inv X pins σ (upd H dx (exd dx ((f, y) :: fs))) s' → Q () s') : wpAny (model X.prog X.w) A (setAttr (.ref a) f u) Q E s := by
  obtain ⟨t1, ho⟩ := exo_at I.hok e
  obtain ⟨mA, hns, rel⟩ := exd_at I.hok ed
  have hw := within_of rel
  obtain ⟨cd, hcd, hdd⟩ := PySem.W.any_some T.hd
  obtain ⟨hp, g, d, t, os⟩ := s
  obtain ⟨oD, _, _, hoD, _, _⟩ := hns.count hw
  refine PySem.W.set_plain I.kIn (od := some oD) ⟨ho, rfl, rfl, hoD⟩ T.sa ?_
  refine PySem.W.osa_openX (s := ⟨hp, g, d, t + 1, os⟩) (od := some oD) PySem.F.store_Exception I.kIn ⟨ho, rfl, rfl, hoD⟩ T.ovr (NoAttr.taker hno) fun b => ?_
  have hcls : PySem.W.Looks (model X.prog X.w) hp (classData C) cd := PySem.W.looks_clsIn I.kIn hcd
  show wpAny _ _ (Builtin.ObjectAttr.storeInOwnDict (.ref a) (.ref C) _ f u b) _ _ _
  unfold Builtin.ObjectAttr.storeInOwnDict Builtin.ObjectAttr.ownDictForStores
  repeat (first | with_reducible refine PySem.OEX.store_in_old hns hw (by rw [List.length_map]; omega) ?_ | with_reducible refine wpAny_loadPart_at ho ?_ | with_reducible refine hcls.at ?_ | wp_step)
  intro h' tk' hn' hs
  have hd2 : ∃ o, h'.get? dx = some o := let ⟨o, _, _, e', _⟩ := hn'; ⟨o, e'⟩
  exact h _ (I.write (t' := tk') (x := dx) (e := dx) (o := exd dx ((f, y) :: fs)) (by rw [ed]; exact True.intro) (.inl rfl) (fun b o hb q => (hs.2 b hb).trans q) hd2 (exd_ok hn' (relO_put ry rel)))
/-- Exception.__init__(self, ..) -/
theorem xinit_ok {us : List Value} {Q : Value → Shared → Prop} (T : XcC X.K C) (I : Inv X pins σ H s) (e : H a = some (exo a C none)) (hl : us.length ≤ sizeLine) (h : ∀ s', Inv X pins σ H s' → Q .none s') :
    wpAny (model X.prog X.w) A (call (.builtin "Exception.__init__") (.ref a :: us)) Q E s := by
  obtain ⟨nm, N, qn, bs, bm, hdct, sn, sub, ab, col, dd, k0, k1, k2, k3, k5, hC, hT⟩ := PySem.W.excInit_of I.kIn T.ini
  obtain ⟨t1, ho⟩ := exo_at I.hok e
  obtain ⟨hp, g, d, t, os⟩ := s
  refine wpAny_call (PySem.HandSPX.init_base F.excBase_Exception hT hC ho hl fun h' t2 k hx => ?_)
  have J := I.write (t' := t) (x := a) (e := a) (o := exo a C none) (by rw [e]; exact True.intro) (.inl rfl) k ⟨_, hx⟩ (exo_ok hx)
  rw [upd_id e] at J
  exact h _ J
end
/-! ### its __init__ -/
/-- B.__init__(self, ..), B a class of one's own without one -/
def tXI (K : PySem.W.Frag) (ta : TA) : TE := fun σ H Q => ta σ H fun vs H1 => ∃ (a C : Addr) (ws : List V), vs = .ref a :: ws ∧ ws.length ≤ 1000 ∧ XcC K C ∧ H1 a = some (exo a C none) ∧ Q .non H1
structure BiC (K : PySem.W.Frag) (B : Addr) : Prop where
  rd : PySem.W.readsIn K B (.type "type") = true
  sg : PySem.W.specialIn K (.ref B) "__getattribute__" = some (some (.builtin "type.__getattribute__"))
  at_ : PySem.W.findCls K (.ref B) (.type "type") "__init__" = some (.val (.builtin "Exception.__init__"))
def biB (K : PySem.W.Frag) (B : Addr) : Bool := PySem.W.readsIn K B (.type "type") && decide (PySem.W.specialIn K (.ref B) "__getattribute__" = some (some (.builtin "type.__getattribute__"))) && (match PySem.W.findCls K (.ref B) (.type "type") "__init__" with
  | some (.val (.builtin n)) => decide (n = "Exception.__init__")
  | _ => false)
theorem biB_ok {K : PySem.W.Frag} {B : Addr} (h : biB K B = true) : BiC K B := by
  unfold biB at h
  simp only [Bool.and_eq_true, decide_eq_true_eq] at h
  obtain ⟨⟨h1, h2⟩, h3⟩ := h
  refine ⟨h1, h2, ?_⟩
  split at h3
  · rename_i n e; rw [e, of_decide_eq_true h3]
  · cases h3
section
variable {X : Cx} {o e : Expr} {es : List Expr} {to te : TE} {ta : TA} {f : Str} {p p' p1 p2 pos : Pos}
theorem pe_xinit {B : Str} {pl : Sem Bool} (gl : Gl X B) (hm : X.mg B = some (.ref (He.ga X.K B))) (bc : BiC X.K (He.ga X.K B)) (ha : PA X (e :: es) ta) (hdb : (B == ("__debug__" : Str)) = false := by decide)
    (hc : eval (.Call (.Attribute (.Name B p1) "__init__" p2) (e :: es) [] pos) X.env = (do
      let ov ← eval (.Name B p1) X.env
      standAt p2.atName
      let (f, first) ← holding [ov] (getMethod ov "__init__" pl)
      callWith pos f first (backTo pos (starEach (e :: es) X.env)) (backToKw pos (keywordEach [] X.env))) := by rfl)
    (he : starEach (e :: es) X.env = (false, eval e X.env) :: starEach es X.env := by rfl) (hpl : (backTo pos (starEach es X.env)).any (·.1) = false := by rfl) :
    PE X (.Call (.Attribute (.Name B p1) "__init__" p2) (e :: es) [] pos) (tXI X.K ta) := by
  refine ⟨fun pins s σ H Q I h => ?_⟩
  refine PySem.W.methodCall_KW (ld_glob I gl hm ?_ hdb) hc
  refine PySem.W.method_cls I.kIn bc.sg (PySem.W.cls_value I.kIn bc.rd bc.at_ (by decide +kernel) ?_)
  refine PyProof.Rows.callWith_method1 (thn (ha.run pos pins _ σ H _ (I.tok _) h) fun us s1 ⟨vs, H1, I1, r1, a, C, ws, ev, hl, T, ea, q⟩ => ?_) he hpl
  subst ev
  cases r1 with
  | @cons _ u0 _ ur ra rw' =>
    obtain rfl : u0 = Value.ref a := ra
    exact xinit_ok T I1 ea (by rw [← Paired.length rw', sizeLine_eq]; omega) fun s' J => ⟨.non, H1, J, rfl, q⟩
/-- self.f = e -/
def tXst (K : PySem.W.Frag) (f : Str) (to te : TE) : TS := fun D σ H => te σ H fun y H1 => to σ H1 fun x H2 => ∃ a C : Addr, x = .ref a ∧ XcC K C ∧ PySem.W.findIn K (.ref C) f = some none ∧
  ((H2 a = some (exo a C none) ∧ ∀ dx, H2 dx = none → dx ≠ a → D.nx σ (upd (upd H2 dx (exd dx [(f, y)])) a (exo a C (some dx)))) ∨
    ∃ (dx : Addr) (fs : List (Str × V)), H2 a = some (exo a C (some dx)) ∧ H2 dx = some (exd dx fs) ∧ fs.length ≤ 900 ∧ D.nx σ (upd H2 dx (exd dx ((f, y) :: fs))))
theorem ps_xst (ho : PE X o to) (he : PE X e te) (hs : swapsWith e (some (.Attribute o f p')) pos.line X.env = pure false := by rfl) : PS X (.Assign [.Attribute o f p'] e pos) (tXst X.K f to te) := by
  refine ⟨fun pins s σ H D I h => ?_⟩
  refine plainObj_wpAny_Assign_Attribute (thn (he.run pins s σ H _ I h) fun v s1 ⟨y, H1, I1, r1, q1⟩ => thn (ho.run pins s1 σ H1 _ I1 q1) fun u s2 ⟨x, H2, I2, r2, a, C, ex, T, hno, q⟩ => ?_) hs
  subst ex
  obtain rfl : u = Value.ref a := r2
  rcases q with ⟨ea, q⟩ | ⟨dx, fs, ea, ed, hl, q⟩
  · exact xst_new T I2 ea hno r1 fun dx s' n ne J => ⟨σ, _, J, q dx n ne⟩
  · exact xst_old T I2 ea ed hl hno r1 fun s' J => ⟨σ, _, J, q⟩
end
/-- what __init__ of such a class promises: the fields fs in their order -/
def fieldsX : List Str → List V → List (Str × V)
  | f :: fs, v :: vs => fieldsX fs vs ++ [(f, v)]
  | _, _ => []
def spX (K : PySem.W.Frag) (fs : List Str) : Sp := fun vs H Q E => ∃ (a C : Addr) (ws : List V), vs = .ref a :: ws ∧ ws.length = fs.length ∧ XcC K C ∧ (∀ f ∈ fs, PySem.W.findIn K (.ref C) f = some none) ∧ H a = some (exo a C none) ∧
  ∀ dx, H dx = none → dx ≠ a → Q .non (upd (upd H dx (exd dx (fieldsX fs ws))) a (exo a C (some dx)))
section
variable {P : Program} {w : World} {K : PySem.W.Frag} {mg : Str → Option Value} {base : Heap}
/-- an exception's class keeps the promise -/
structure ExcOk (P : Program) (w : World) (K : PySem.W.Frag) (mg : Str → Option Value) (base : Heap) (C : Str) (fs : List Str) : Prop where
  ex : ∃ fd ps, FnG P w K mg base (L2.CX P w) 1 (fA K (C, some "__init__")) fd ps (spX K fs) ∧ ps.length = fs.length + 1 ∧ Binds K fd ps []
  cl : XcC K (He.ga K C)
  no : ∀ f ∈ fs, PySem.W.findIn K (.ref (He.ga K C)) f = some none
  ii : PySem.W.findIn K (.ref (He.ga K C)) "__init__" = some (some (.ref (fA K (C, some "__init__"))))
  ti : PySem.W.typeIn K (.ref (fA K (C, some "__init__"))) = some (.type "function")
def tInit1 (K : PySem.W.Frag) (f : Str) (z : Str) : TS := tSeq (tDrop (tXI K (tCons (tVar 0) (tCons (tC (.str z)) tNil)))) (tXst K f (tVar 0) (tVar 1))
def tInit2 (K : PySem.W.Frag) (f g : Str) (z : Str) : TS := tSeq (tDrop (tXI K (tCons (tVar 0) (tCons (tC (.str z)) tNil)))) (tSeq (tXst K f (tVar 0) (tVar 1)) (tXst K g (tVar 0) (tVar 2)))
theorem exc_init1 {qual : Str} {st : Stmt} {C f p1 : Str} {z : Str} (D : DefAt K (C, some "__init__") "__init__" qual st ["self", p1]) (S : FnScope ["self", p1] ["self", p1] (defScope st)) (cl : XcC K (He.ga K C)) (no : PySem.W.findIn K (.ref (He.ga K C)) f = some none)
    (ii : PySem.W.findIn K (.ref (He.ga K C)) "__init__" = some (some (.ref (fA K (C, some "__init__"))))) (ti : PySem.W.typeIn K (.ref (fA K (C, some "__init__"))) = some (.type "function"))
    (hb : ∀ (f0 : Addr) (cdv : Value) (A : Around) (out : List PySem.Env) (s : Shared) (H : Hp) (E : XK), PSs (cxOf (L2.CX P w) P w K mg base ["self", p1] qual (defScope st) f0 cdv A out s H E) (defBody st) (tInit1 K f z)) : ExcOk P w K mg base C [f] := by
  obtain ⟨fd, F, b, kp⟩ := D.ex
  refine ⟨⟨fd, _, FnG.of_funD (k := 0) F S (fun vs H Q E ⟨a, C, ws, e, hl, _⟩ => by rw [e, List.length_cons, hl]; rfl) fun cdv _ A out s H vs Q E hg hr ⟨a, C', ws, ev, hl, T, hn, ha, q⟩ => ⟨_, hb _ cdv A out s H E, ?_⟩, rfl, b⟩, cl, fun g hg => by rw [List.mem_singleton.mp hg]; exact no, ii, ti⟩
  obtain ⟨v, rfl⟩ : ∃ v, ws = [v] := by
    match ws, hl with
    | [v], _ => exact ⟨v, rfl⟩
  subst ev
  exact ⟨.ref a, rfl, a, C', [.str z], rfl, (by show (1 : Nat) ≤ 1000; decide), T, ha, v, rfl, .ref a, rfl, a, C', rfl, T, hn f (by simp), .inl ⟨ha, fun dx h1 h2 => q dx h1 h2⟩⟩
theorem exc_init2 {qual : Str} {st : Stmt} {C f g p1 p2 : Str} {z : Str} (D : DefAt K (C, some "__init__") "__init__" qual st ["self", p1, p2]) (S : FnScope ["self", p1, p2] ["self", p1, p2] (defScope st)) (cl : XcC K (He.ga K C)) (no : ∀ x ∈ [f, g], PySem.W.findIn K (.ref (He.ga K C)) x = some none)
    (ii : PySem.W.findIn K (.ref (He.ga K C)) "__init__" = some (some (.ref (fA K (C, some "__init__"))))) (ti : PySem.W.typeIn K (.ref (fA K (C, some "__init__"))) = some (.type "function"))
    (hb : ∀ (f0 : Addr) (cdv : Value) (A : Around) (out : List PySem.Env) (s : Shared) (H : Hp) (E : XK), PSs (cxOf (L2.CX P w) P w K mg base ["self", p1, p2] qual (defScope st) f0 cdv A out s H E) (defBody st) (tInit2 K f g z)) : ExcOk P w K mg base C [f, g] := by
  obtain ⟨fd, F, b, kp⟩ := D.ex
  refine ⟨⟨fd, _, FnG.of_funD (k := 0) F S (fun vs H Q E ⟨a, C, ws, e, hl, _⟩ => by rw [e, List.length_cons, hl]; rfl) fun cdv _ A out s H vs Q E hg hr ⟨a, C', ws, ev, hl, T, hn, ha, q⟩ => ⟨_, hb _ cdv A out s H E, ?_⟩, rfl, b⟩, cl, no, ii, ti⟩
  obtain ⟨v, u, rfl⟩ : ∃ v u, ws = [v, u] := by
    match ws, hl with
    | [v, u], _ => exact ⟨v, u, rfl⟩
  subst ev
  refine ⟨.ref a, rfl, a, C', [.str z], rfl, (by show (1 : Nat) ≤ 1000; decide), T, ha, v, rfl, .ref a, rfl, a, C', rfl, T, hn f (by simp), .inl ⟨ha, fun dx h1 h2 => ?_⟩⟩
  refine ⟨u, rfl, .ref a, rfl, a, C', rfl, T, hn g (by simp), .inr ⟨dx, [(f, v)], upd_same, by rw [upd_ne h2]; exact upd_same, (by show (1 : Nat) ≤ 900; decide), ?_⟩⟩
  have := q dx h1 h2
  have e2 : upd (upd (upd H dx (exd dx [(f, v)])) a (exo a C' (some dx))) dx (exd dx [(g, u), (f, v)]) = upd (upd H dx (exd dx (fieldsX [f, g] [v, u]))) a (exo a C' (some dx)) := by
    funext b
    unfold upd
    by_cases x1 : b = dx
    · subst x1; rw [if_pos rfl, if_neg h2, if_pos rfl]; rfl
    · rw [if_neg x1]; by_cases x2 : b = a
      · rw [if_pos x2, if_pos x2]
      · rw [if_neg x2, if_neg x1, if_neg x2, if_neg x1]
  rw [e2]; exact this
end
end Sy
namespace Sy
open PySem PySem.Spec PyProof.Rows L2
/-! ## an exception as a value -/
theorem run_exc {X : Cx} {C : Str} {fs : List Str} {pins : List (Addr × Obj)} {σ : L2.St} {H : Hp} {s : Shared} {Q : VK} {us : List Value} {vs : List V} (D : ExcOk X.prog X.w X.K X.mg X.base C fs) (gd : X.A.guards = some []) (room : Room 2 X.A) (J : Inv X pins σ H s) (r : Vals vs us) (hl : vs.length = fs.length) (h9 : vs.length ≤ 1000)
    (h : ∀ a dx, H a = none → H dx = none → dx ≠ a → Q (.ref a) (upd (upd H dx (exd dx (fieldsX fs vs))) a (exo a (He.ga X.K C) (some dx)))) :
    wpAny (model X.prog X.w) X.A (call (.ref (He.ga X.K C)) us) (EP X pins σ Q) X.xe s := by
  obtain ⟨fd, ps, F1, hps, hb⟩ := D.ex
  obtain ⟨nm, N, qn, bs, bm, hdct, sn, sub, ab, col, dd, k0, k1, k2, k3, k5, hC, hT⟩ := PySem.W.excInit_of J.kIn D.cl.ini
  obtain ⟨hp, g, dr, tk, os⟩ := s
  have big : hp.objs.size ≤ hp.objs.size + 1 := Nat.le_succ _
  have nw : H (hp.objs.size + 1) = none := J.hok.fresh big
  have kk : ∀ b o, hp.get? b = some o → ((hp.push (PySem.W.kdv_tup us)).push (PySem.HandSPX.excO (He.ga X.K C) hp.objs.size)).get? b = some o := fun b o z => Heap.get?_push_of_some _ (Heap.get?_push_of_some _ z)
  have at_ : ((hp.push (PySem.W.kdv_tup us)).push (PySem.HandSPX.excO (He.ga X.K C) hp.objs.size)).get? (hp.objs.size + 1) = some (PySem.HandSPX.excO (He.ga X.K C) hp.objs.size) := by heap_get
  have J2 : Inv X pins σ (upd H (hp.objs.size + 1) (exo (hp.objs.size + 1) (He.ga X.K C) none)) ⟨(hp.push (PySem.W.kdv_tup us)).push (PySem.HandSPX.excO (He.ga X.K C) hp.objs.size), g, dr, tk, os⟩ := J.laid (t' := tk) kk big (exo_ok at_)
  have rr : Vals (V.ref (hp.objs.size + 1) :: vs) (Value.ref (hp.objs.size + 1) :: us) := .cons rfl r
  have hz : us.length ≤ sizeLine := by rw [← Paired.length r, sizeLine_eq]; omega
  have want : spX X.K fs (V.ref (hp.objs.size + 1) :: vs) (upd H (hp.objs.size + 1) (exo (hp.objs.size + 1) (He.ga X.K C) none)) (fun v H2 => v = .non ∧ Q (.ref (hp.objs.size + 1)) H2) (fun _ _ _ => False) := by
    refine ⟨_, _, vs, rfl, hl, D.cl, D.no, upd_same, fun dx hn hne => ⟨rfl, ?_⟩⟩
    have hd : H dx = none := by rw [upd_ne hne] at hn; exact hn
    have q := h (hp.objs.size + 1) dx nw hd hne
    have e : upd (upd (upd H (hp.objs.size + 1) (exo (hp.objs.size + 1) (He.ga X.K C) none)) dx (exd dx (fieldsX fs vs))) (hp.objs.size + 1) (exo (hp.objs.size + 1) (He.ga X.K C) (some dx)) = upd (upd H dx (exd dx (fieldsX fs vs))) (hp.objs.size + 1) (exo (hp.objs.size + 1) (He.ga X.K C) (some dx)) := by
      funext b
      unfold upd
      by_cases z : b = hp.objs.size + 1
      · rw [if_pos z, if_pos z]
      · rw [if_neg z, if_neg z, if_neg z]
    rw [e]; exact q
  have hln : (Value.ref (hp.objs.size + 1) :: us).length = ps.length := by rw [List.length_cons, ← Paired.length r, hl, hps]
  have hb' := hb ⟨(hp.push (PySem.W.kdv_tup us)).push (PySem.HandSPX.excO (He.ga X.K C) hp.objs.size), g, dr, tk, os⟩ (Value.ref (hp.objs.size + 1) :: us) J2.kIn (by rw [List.append_nil]; exact hln)
  rw [List.append_nil] at hb'
  refine wpAny_call (PySem.HandSPX.call_own F.excBase_Exception hT hC (PySem.W.looks_findIn J.kIn D.ii) (fun self => PySem.W.bind_fn J.kIn self D.ti) hz
    (codeAny_mono (F1.go _ X.stack _ _ ⟨Value.ref (hp.objs.size + 1) :: us, []⟩ (Value.ref (hp.objs.size + 1) :: us) _ _ (fun _ _ _ => False) gd ((room.mono (by decide : 1 + 1 ≤ 2)).make (He.ga X.K C) us []) (J2.env0.make (He.ga X.K C) us []) hb' rr want) fun res s2 hres => ?_))
  match res, hres with
  | .error e, z => exact (passL (X := X) pins σ _ _ e s2 J2 z)
  | .ok (.ret u), z =>
    obtain ⟨v, H', J3, rv, ev, q3⟩ := J2.after z
    subst ev
    exact ⟨rv, ⟨V.ref (hp.objs.size + 1), H', J3, rfl, q3⟩⟩
  | .ok .next, z => exact False.elim z
  | .ok .brk, z => exact False.elim z
  | .ok .cont, z => exact False.elim z
@[simp] def fieldsD : List Str → List Dat → List (Str × Dat)
  | f :: fs, v :: vs => fieldsD fs vs ++ [(f, v)]
  | _, _ => []
theorem Dtf.append {K : PySem.W.Frag} {G : Hp} {A : List Addr} : ∀ {xs ys : List (Str × V)} {ds es : List (Str × Dat)}, Dtf K G A xs ds → Dtf K G A ys es → Dtf K G A (xs ++ ys) (ds ++ es)
  | _, _, _, _, .nil, s => s
  | _, _, _, _, .cons h r, s => .cons h (Dtf.append r s)
theorem fields_ok {W : Wd} : ∀ {fs : List Str} {vs : List V} {ds : List Dat}, RvsOk W vs ds → Dtf W.S.K W.G W.A (fieldsX fs vs) (fieldsD fs ds)
  | [], vs, ds, _ => by cases vs <;> cases ds <;> exact .nil
  | f :: fs, _, _, .nil => .nil
  | f :: fs, _, _, .cons h r => Dtf.append (fields_ok r) (.cons h .nil)
section
variable {X : Cy} {pos : Pos}
@[simp] def wExc (C : Str) (fs : List Str) (wa : WA) : WE := fun ρ ms k => wa ρ ms fun rs ms1 => rs.length = fs.length ∧ rs.length ≤ 1000 ∧ k (.exc C (fieldsD fs rs)) ms1
def tExc (C : Addr) (fs : List Str) (ta : TA) : TE := fun σ H Q => ta σ H fun vs H1 => vs.length = fs.length ∧ vs.length ≤ 1000 ∧ ∀ a dx, H1 a = none → H1 dx = none → dx ≠ a → Q (.ref a) (upd (upd H1 dx (exd dx (fieldsX fs vs))) a (exo a C (some dx)))
theorem de_exc {x : Str} {p pos : Pos} {e : Expr} {es : List Expr} {fs : List Str} {wa : WA} (D : ExcOk X.X.prog X.X.w X.X.K X.X.mg X.X.base x fs) (hg : X.X.A.guards = some []) (room : Room 2 X.X.A) (gl : Gl X.X x) (hm : X.X.mg x = some (.ref (He.ga X.X.K x)))
    (ha : DA X (e :: es) wa) (hdb : (x == ("__debug__" : Str)) = false := by decide) (he : starEach (e :: es) X.X.env = (false, eval e X.X.env) :: starEach es X.X.env := by rfl) (hpl : (backTo pos (starEach es X.X.env)).any (·.1) = false := by rfl) :
    DE X (.Call (.Name x p) (e :: es) [] pos) (wExc x fs wa) := by
  obtain ⟨t, pa, la⟩ := ha
  refine ⟨tExc (He.ga X.X.K x) fs t, ⟨fun pins s σ H Q J h => wpAny_Call_Name_kw (ld_glob J gl hm (PySem.W.callWith_K (h₀ := X.X.base) J.ok.mod.kin D.cl.kp (thn (pa.run pos pins s σ H _ J h) fun us s1 ⟨vs, H1, J1, r, z⟩ => ⟨J1.kIn, run_exc D hg room J1 r z.1 z.2.1 z.2.2⟩) he hpl) hdb)⟩, fun W σ ρ ms Q k hK Rl O hw q => ?_⟩
  refine la W σ ρ ms _ _ hK Rl O hw fun W1 vs rs ms1 e1 O1 ok1 h1 => ⟨by rw [ok1.length]; exact h1.1, by rw [ok1.length]; exact h1.2.1, fun a dx ha hdx hne => ?_⟩
  have hKK : X.X.K = W1.K := (congrArg Sg.K (e1.s.trans hK)).symm
  obtain ⟨O2, e2⟩ := O1.lay (o := exd dx (fieldsX fs vs)) hdx
  have ha2 : (W1.lay dx (exd dx (fieldsX fs vs))).H a = none := by show upd W1.H dx _ a = none; rw [upd_ne (fun z => hne z.symm)]; exact ha
  obtain ⟨O3, e3⟩ := O2.lay (o := exo a (He.ga X.X.K x) (some dx)) ha2
  refine q _ (.ref a) (.exc x (fieldsD fs rs)) ms1 ((e1.trans e2).trans e3) O3 (.exc (d := dx) (xs := fieldsX fs vs) ?_ ?_ ?_) h1.2.2
  · show upd _ a _ a = some (exo a (He.ga W1.K x) (some dx)); rw [← hKK]; exact upd_same
  · show upd (upd W1.G dx _) a _ dx = _; rw [upd_ne hne]; exact upd_same
  · exact fields_ok (up_vs (e2.trans e3) ok1)
/-! ### e.f -/
@[simp] def wXfl (Cs : List Str) (f : Str) (wo : WE) : WE := fun ρ ms k => wo ρ ms fun r ms1 => match r with
  | .exc C' fs => C' ∈ Cs ∧ (match fs.lookup f with
    | some d => k d ms1
    | none => False)
  | _ => False
def tXfl (K : PySem.W.Frag) (f : Str) (to : TE) : TE := fun σ H Q => to σ H fun x H1 => ∃ a C d fs v, x = .ref a ∧ XcC K C ∧ PySem.W.findIn K (.ref C) f = some none ∧ H1 a = some (exo a C (some d)) ∧ H1 d = some (exd d fs) ∧ fs.lookup f = some v ∧ Q v H1
theorem pe_xfl {X : Cx} {e : Expr} {te : TE} {pos : Pos} {n : Str} (he : PE X e te) (hb : attributeBase e n X.env (eval e X.env) = eval e X.env := by rfl) : PE X (.Attribute e n pos) (tXfl X.K n te) := by
  refine ⟨fun pins s σ H Q I h => ?_⟩
  refine attr_of hb (thn (he.run pins s σ H _ I h) fun u s1 ⟨x, H1, I1, rx, a, C, d, fs, v, ex, T, hno, ha, hd, l, q⟩ => ?_)
  subst ex
  obtain rfl : u = Value.ref a := rx
  obtain ⟨t1, ho⟩ := exo_at I1.hok ha
  obtain ⟨mA, hns, rel⟩ := exd_at I1.hok hd
  obtain ⟨od, hod, hl⟩ := lookIn_ns hns
  obtain ⟨u, hu, ru⟩ := RelO.some_of (v := v) (o := mA n) (by rw [← l]; exact rel n)
  exact HandSPX.exc_get I1.kIn ⟨ho, rfl, rfl, hod⟩ T.ga T.gt T.sb (PySem.W.findObj_own T.hd hno rfl (by rw [hl, hu])) (handed_of ru) ⟨v, H1, I1.tok _, ru, q⟩
theorem Dtf.look {K : PySem.W.Frag} {G : Hp} {A : List Addr} {f : Str} : ∀ {xs : List (Str × V)} {fs : List (Str × Dat)} {d : Dat}, Dtf K G A xs fs → fs.lookup f = some d → ∃ v, xs.lookup f = some v ∧ Dt K G A v d
  | _, _, _, .nil, h => by cases h
  | (k, v) :: xs, (_, e) :: fs, d, .cons h r, q => by
    cases z : f == k with
    | true => simp only [List.lookup, z] at q ⊢; cases q; exact ⟨v, rfl, h⟩
    | false => simp only [List.lookup, z] at q ⊢; exact Dtf.look r q
theorem de_xfl {o : Expr} {Cs : List Str} {f : Str} {pos : Pos} {wo : WE} (T : ∀ C ∈ Cs, XcC X.X.K (He.ga X.X.K C) ∧ PySem.W.findIn X.X.K (.ref (He.ga X.X.K C)) f = some none) (ho : DE X o wo) (hb : attributeBase o f X.X.env (eval o X.X.env) = eval o X.X.env := by rfl) : DE X (.Attribute o f pos) (wXfl Cs f wo) := by
  obtain ⟨t, p, l⟩ := ho
  refine ⟨_, pe_xfl p hb, fun W σ ρ ms Q k hK Rl O hw q => l W σ ρ ms _ _ hK Rl O hw fun W1 v r ms1 e1 O1 ok1 h1 => ?_⟩
  have hKK : X.X.K = W1.K := (congrArg Sg.K (e1.s.trans hK)).symm
  split at h1
  · rename_i C' fs
    obtain ⟨hC, h1⟩ := h1
    split at h1
    · rename_i d e2
      cases ok1 with
      | exc g1 g2 g3 =>
        obtain ⟨u, hu, oku⟩ := g3.look e2
        refine ⟨_, _, _, _, u, rfl, (T _ hC).1, (T _ hC).2, ?_, O1.ex _ _ g2, hu, q W1 u d ms1 e1 O1 oku h1⟩
        rw [hKK]; exact O1.ex _ _ g1
    · exact h1.elim
  · exact h1.elim
end
end Sy
namespace Sy
open PySem PySem.Spec PyProof.Rows L2
/-! ## isinstance -/
inductive Kd where
  | own (C : Str) | bt (T : String)
  deriving DecidableEq
def Kd.val (K : PySem.W.Frag) : Kd → Value
  | .own C => .ref (He.ga K C)
  | .bt T => .type T
/-- what isinstance asks of a class whose instances it is given -/
structure InC (K : PySem.W.Frag) (C : Addr) : Prop where
  cl : Cls K C
  ha : PySem.W.findIn K (.ref C) "__class__" = some (some (.builtin "object.__class__"))
  hn : PySem.W.specialIn K (.builtin "object.__class__") "__get__" = some (some (.builtin "getset_descriptor.__get__"))
  ht : PySem.W.takesIn K (.builtin "object.__class__") = some true
  hm : PySem.W.mroIn K C (.type "object") = some true
def inB (K : PySem.W.Frag) (C : Addr) : Bool := PySem.W.plainGet K C Str.empty && PySem.W.hasDictIn K C && PySem.W.plainOver K C && decide (PySem.W.findIn K (.ref C) "__setattr__" = some (some (.builtin "object.__setattr__"))) &&
  (decide (PySem.W.findIn K (.ref C) "__class__" = some (some (.builtin "object.__class__"))) && decide (PySem.W.specialIn K (.builtin "object.__class__") "__get__" = some (some (.builtin "getset_descriptor.__get__"))) && decide (PySem.W.takesIn K (.builtin "object.__class__") = some true) && decide (PySem.W.mroIn K C (.type "object") = some true))
theorem inB_ok {K : PySem.W.Frag} {C : Addr} (h : inB K C = true) : InC K C := by
  unfold inB at h
  simp only [Bool.and_eq_true, decide_eq_true_eq] at h
  obtain ⟨⟨⟨⟨a1, a2⟩, a3⟩, a4⟩, ⟨⟨b1, b2⟩, b3⟩, b4⟩ := h
  exact ⟨⟨a1, a2, a3, a4⟩, b1, b2, b3, b4⟩
/-- the classes of the text: kt what isinstance answers, xs the exceptions, ins the others -/
structure KtOk (K : PySem.W.Frag) (kt : Kd → Kd → Option Bool) (xs ins : Str → Bool) : Prop where
  ok : ∀ a b r, kt a b = some r → PySem.W.kitOne K (a.val K) (b.val K) = some r
  xc : ∀ C, xs C = true → XcC K (He.ga K C)
  ic : ∀ C, ins C = true → InC K (He.ga K C)
@[simp] def kindV (xs ins : Str → Bool) (ms : Ms) : Dat → Option Kd
  | .exc C _ => if xs C = true then some (.own C) else none
  | .ins C _ => if ins C = true then some (.own C) else none
  | .own i => (match ms[i]? with
    | some (.ins C _) => if ins C = true then some (.own C) else none
    | some (.lst _) => some (.bt "list")
    | some (.dic _) => some (.bt "dict")
    | some (.lck (.dic _)) => some (.bt "dict")
    | _ => none)
  | .non => some (.bt "NoneType")
  | .bl _ => some (.bt "bool")
  | .int _ => some (.bt "int")
  | .str _ => some (.bt "str")
  | .lst _ => some (.bt "list")
  | .tup _ => some (.bt "tuple")
  | .dic _ => some (.bt "dict")
  | _ => none
@[simp] def clsK : Dat → Option Kd
  | .glo C => some (.own C)
  | .ty T => some (.bt T)
  | _ => none
@[simp] def clsKs : List Dat → Option (List Kd)
  | [] => some []
  | c :: cs => match clsK c, clsKs cs with
    | some b, some bs => some (b :: bs)
    | _, _ => none
@[simp] def ktAny (kt : Kd → Kd → Option Bool) (a : Kd) : List Kd → Option Bool
  | [] => some false
  | b :: bs => match kt a b with
    | some true => some true
    | some false => ktAny kt a bs
    | none => none
def TyA (K : PySem.W.Frag) (H : Hp) (x : V) (t : Value) : Prop := TyX K H x t ∨ ∃ a C d, x = .ref a ∧ t = .ref C ∧ XcC K C ∧ H a = some (exo a C (some d)) ∧ ∃ fs, H d = some (exd d fs)
theorem kit_ofA {X : Cx} {pins : List (Addr × Obj)} {σ : L2.St} {H : Hp} {s : Shared} {x : V} {u t : Value} (I : Inv X pins σ H s) (rx : RelV x u) (ty : TyA X.K H x t) : ∃ P : Heap → Prop, PySem.W.KitX X.K u t P ∧ P s.heap ∧ u ≠ .builtin "__main__.__loader__#opaque" := by
  rcases ty with ty | ⟨a, C, d, rfl, rfl, T, ha, fs, hd⟩
  · exact kit_of I rx ty
  · cases (show u = Value.ref a from rx)
    obtain ⟨t1, ho⟩ := exo_at I.hok ha
    obtain ⟨mA, hns, rel⟩ := exd_at I.hok hd
    obtain ⟨od, hod, _⟩ := lookIn_ns hns
    exact ⟨_, PySem.W.kitx_exc (od := some od) T.ic T.ga T.gt T.sb T.cl T.cg T.ct T.mo, ⟨ho, rfl, rfl, hod⟩, fun z => nomatch z⟩
def rIsA (K : PySem.W.Frag) : List V → Hp → VK → Prop := fun xs H Q => (∃ (x c : V) (t u : Value) (b : Bool), xs = [x, c] ∧ ClsV c u ∧ TyA K H x t ∧ PySem.W.kitOne K t u = some b ∧ Q (.bl b) H) ∨
  ∃ (x : V) (tp : Addr) (cs : List V) (t : Value) (us : List Value) (b : Bool), xs = [x, .ref tp] ∧ H tp = some (.tup cs) ∧ Paired ClsV cs us ∧ TyA K H x t ∧ PySem.W.kitAny K t us = some b ∧ Q (.bl b) H
theorem call_isA {X : Cx} : CallR X (.builtin "isinstance") (rIsA X.K) := by
  intro pins s σ H xs us Q I r h
  rcases h with ⟨x, c, t, u, b, rfl, k, ty, e, q⟩ | ⟨x, tp, cs, t, ws, b, rfl, hT, k, ty, e, q⟩
  · obtain ⟨u1, u2, rfl, r1, r2⟩ := vals2 r
    have e2 := k.eq r2
    subst e2
    obtain ⟨P, Z, p, hx⟩ := kit_ofA I r1 ty
    exact PySem.W.kia_one Z I.kIn p e hx fun tk => ⟨.bl b, H, I.tok tk, rfl, q⟩
  · obtain ⟨u1, u2, rfl, r1, r2⟩ := vals2 r
    cases (show u2 = Value.ref tp from r2)
    obtain ⟨P, Z, p, hx⟩ := kit_ofA I r1 ty
    obtain ⟨_, its, rv, ⟨oc, od, dt, sl⟩, h1, h2, n, h3⟩ := (show ObjOk X.prog X.w H s.heap tp (.tup cs) from I.hok tp _ hT)
    cases ClsV.all k rv
    simp only at h2 h3
    subst h2 h3
    exact PySem.W.kia_tup Z I.kIn p h1 e hx fun tk => ⟨.bl b, H, I.tok tk, rfl, q⟩
section
variable {W : Wd} {ms : Ms} {v : V} {r : Dat} {kt : Kd → Kd → Option Bool} {xs ins : Str → Bool}
theorem ins_ty {K : PySem.W.Frag} {H : Hp} {a C dx : Addr} {fs : List (Str × V)} (T : InC K C) (h : H a = some (.ins C dx fs)) : TyX K H (.ref a) (.ref C) := .base (.ins h T.cl T.ha T.hn T.ht T.hm)
theorem Own.kind (O : Own W ms) (T : KtOk W.K kt xs ins) (ok : RvOk W v r) {a : Kd} (h : kindV xs ins ms r = some a) : TyA W.K W.H v (a.val W.K) := by
  cases ok with
  | non => cases h; exact .inl (.base .non)
  | bl b => cases h; exact .inl (.base (.bl b))
  | int b => cases h; exact .inl (.base (.int b))
  | str b => cases h; exact .inl (.base (.str b))
  | ty n => cases h
  | ref a => cases h
  | glo a => cases h
  | lam _ _ => cases h
  | lst h1 _ => cases h; exact .inl (.base (.lst (O.ex _ _ h1)))
  | tup h1 _ => cases h; exact .inl (.base (.tup (O.ex _ _ h1)))
  | dic h1 _ => cases h; exact .inl (.fDict (O.ex _ _ h1))
  | scr _ => cases h
  | @own _ i hA =>
    simp only [kindV] at h
    split at h
    · rename_i C fs e
      split at h
      · rename_i hi
        cases h
        obtain ⟨b, o, hb, hg, ho, dx, xs', rfl, q⟩ := O.cell i _ e (fun z => by cases z)
        rw [hA] at hb; cases hb
        exact .inl (ins_ty (T.ic C hi) ho)
      · cases h
    · rename_i ds e
      cases h
      obtain ⟨b, ys, hb, _, ho, _⟩ := O.lstAt e
      rw [hA] at hb; cases hb
      exact .inl (.base (.lst ho))
    · rename_i ds e
      cases h
      obtain ⟨b, ys, hb, _, ho, _⟩ := O.dicAt e
      rw [hA] at hb; cases hb
      exact .inl (.base (.dK ho))
    · rename_i ds e
      cases h
      obtain ⟨b, o, hb, hg, ho, ob, u, rfl, ys, rfl, rk⟩ := O.cell i _ e (fun z => by cases z)
      rw [hA] at hb; cases hb
      exact .inl (.fDict ho)
    · cases h
  | @ins _ _ C _ _ h1 _ =>
    simp only [kindV] at h
    split at h
    · rename_i hi
      cases h
      exact .inl (ins_ty (T.ic C hi) (O.ex _ _ h1))
    · cases h
  | @exc _ d C _ _ h1 h2 _ =>
    simp only [kindV] at h
    split at h
    · rename_i hi
      cases h
      exact .inr ⟨_, _, d, rfl, rfl, T.xc C hi, O.ex _ _ h1, _, O.ex _ _ h2⟩
    · cases h
theorem clsK_ok {c : V} {d : Dat} {b : Kd} (ok : RvOk W c d) (h : clsK d = some b) : ClsV c (b.val W.K) := by
  cases ok <;> first | (cases h; done) | skip
  · cases h; exact .ty _
  · cases h; exact .own _
theorem clsKs_ok : ∀ {cs : List V} {ds : List Dat} {bs : List Kd}, RvsOk W cs ds → clsKs ds = some bs → Paired ClsV cs (bs.map (Kd.val W.K))
  | _, _, _, .nil, h => by cases h; exact .nil
  | _, _, _, .cons hd hr, h => by
    simp only [clsKs] at h
    split at h
    · rename_i b bs eb es
      cases h
      exact .cons (clsK_ok hd eb) (clsKs_ok hr es)
    · cases h
theorem ktAny_ok (T : KtOk W.K kt xs ins) {a : Kd} : ∀ {bs : List Kd} {r : Bool}, ktAny kt a bs = some r → PySem.W.kitAny W.K (a.val W.K) (bs.map (Kd.val W.K)) = some r
  | [], _, h => by cases h; rfl
  | b :: bs, r, h => by
    unfold ktAny at h
    show (match PySem.W.kitOne W.K (a.val W.K) (b.val W.K) with
      | some true => some true
      | some false => PySem.W.kitAny W.K (a.val W.K) (bs.map (Kd.val W.K))
      | none => none) = some r
    split at h
    · rename_i e; rw [T.ok a b _ e]; exact h
    · rename_i e; rw [T.ok a b _ e]; exact ktAny_ok T h
    · cases h
end
section
variable {X : Cy} {kt : Kd → Kd → Option Bool} {xs ins : Str → Bool}
@[simp] def wIsA (kt : Kd → Kd → Option Bool) (xs ins : Str → Bool) : WC := fun rs ms k => match rs with
  | [r, c] => (match kindV xs ins ms r with
    | some a => (match c with
      | .tup cs => (match clsKs cs with
        | some bs => (match ktAny kt a bs with
          | some t => k (.bl t) ms
          | none => False)
        | none => False)
      | c => (match clsK c with
        | some b => (match kt a b with
          | some t => k (.bl t) ms
          | none => False)
        | none => False))
    | none => False)
  | _ => False
theorem dc_isA (T : KtOk X.X.K kt xs ins) : CallR X.X (.builtin "isinstance") (rIsA X.X.K) ∧ LC X.S (rIsA X.X.K) (wIsA kt xs ins) := ⟨call_isA, fun W vs rs ms Q k hK ok O hw q => by
  have hKK : X.X.K = W.K := (congrArg Sg.K hK).symm
  rw [hKK] at T ⊢
  unfold wIsA at hw
  split at hw
  · rename_i r c
    obtain ⟨v, u, rfl, o1, oc⟩ := ok.two
    split at hw
    · rename_i a ea
      have ty := O.kind T o1 ea
      split at hw
      · rename_i cs
        split at hw
        · rename_i bs eb
          split at hw
          · rename_i t et
            cases oc with
            | tup g1 g2 => exact .inr ⟨v, _, _, _, _, t, rfl, O.ex _ _ g1, clsKs_ok g2 eb, ty, ktAny_ok T et, q W _ (.bl _) ms (Ext.refl W) O (.bl _) hw⟩
          · exact hw.elim
        · exact hw.elim
      · split at hw
        · rename_i b eb
          split at hw
          · rename_i t et
            exact .inl ⟨v, u, _, _, t, rfl, clsK_ok oc eb, ty, T.ok a b t et, q W _ (.bl _) ms (Ext.refl W) O (.bl _) hw⟩
          · exact hw.elim
        · exact hw.elim
    · exact hw.elim
  · exact hw.elim⟩
end
end Sy
namespace Sy
open PySem PySem.Spec PyProof.Rows L2
/-! ## repr of a dict of flat values -/
@[simp] def keyPy : Key → PyData
  | .inl i => .int i
  | .inr x => .str x
@[simp] def dicPy (kvs : List (Key × Dat)) : PyData := .dict (kvs.map fun p => (keyPy p.1, toPy p.2))
theorem reads_key {h : Heap} {P : Program} {w : World} {k : Key} {v : Value} (e : (mixKind P w).is k v = true) : Reads h v (keyPy k) [] := by
  rcases keyIs_shape e with ⟨i, t, rfl, rfl⟩ | ⟨x, t, rfl, rfl⟩
  · exact .int i t
  · exact .str x t
theorem reads_flat {h : Heap} {K : PySem.W.Frag} {G : Hp} {A : List Addr} {v : V} {d : Dat} {u : Value} (ok : Dt K G A v d) (f : flat d = true) (r : RelV v u) : Reads h u (toPy d) [] := by
  cases ok <;> first | (cases f; done) | skip
  · cases r; exact .none
  · cases r; exact .bool _
  · obtain ⟨t, rfl⟩ := r; exact .int _ t
  · obtain ⟨t, rfl⟩ := r; exact .str _ t
theorem readsAll_nil {h : Heap} : ∀ {vs : List Value} {ds : List PyData}, Paired (fun v d => Reads h v d []) vs ds → ReadsAll h vs ds []
  | _, _, .nil => .nil
  | _, _, .cons a r => ReadsAll.cons (as := []) (bs := []) a (readsAll_nil r)
theorem pairs_keys {h : Heap} {P : Program} {w : World} : ∀ {es : List DictEntry} {vs : List (Key × Value)} {ds : List (Key × PyData)}, Pairs (mixKind P w) es vs → Paired (fun (p : Key × Value) (q : Key × PyData) => p.1 = q.1 ∧ Reads h p.2 q.2 []) vs ds →
    Paired (fun v d => Reads h v d []) (es.map (·.key)) ((ds.map fun p => (keyPy p.1, p.2)).map (·.1)) ∧ Paired (fun v d => Reads h v d []) (es.map (·.val)) ((ds.map fun p => (keyPy p.1, p.2)).map (·.2))
  | _, _, _, .nil, .nil => ⟨.nil, .nil⟩
  | _, _, _, .cons h1 h2 r, .cons q t => by
    obtain ⟨a, b⟩ := pairs_keys r t
    exact ⟨.cons (by dsimp only; rw [← q.1]; exact reads_key h1) a, .cons (by dsimp only; rw [h2]; exact q.2) b⟩
theorem reads_dict {h : Heap} {P : Program} {w : World} {a : Addr} {vs : List (Key × Value)} {ds : List (Key × PyData)} (x : h.DictOf (mixKind P w) a vs) (hp : Paired (fun (p : Key × Value) (q : Key × PyData) => p.1 = q.1 ∧ Reads h p.2 q.2 []) vs ds) : Reads h (.ref a) (.dict (ds.map fun p => (keyPy p.1, p.2))) [a] := by
  obtain ⟨o, es, ep, ho, hc, hd, _, hp2, _⟩ := x
  obtain ⟨hk, hv⟩ := pairs_keys hp2 hp
  exact Reads.dict (as := []) (bs := []) ho hc.1 hd (readsAll_nil hk) (readsAll_nil hv)
/-- a dict of flat values, read -/
def rReprDc : List V → Hp → VK → Prop := fun xs H Q => ∃ (a : Addr) (kvs : List (Key × V)) (ds : List (Key × PyData)), xs = [.ref a] ∧ Rd H a (.dK kvs) ∧ Paired (fun (p : Key × V) (q : Key × PyData) => p.1 = q.1 ∧ ∀ h u, RelV p.2 u → Reads h u q.2 []) kvs ds ∧
  (PyData.dict (ds.map fun p => (keyPy p.1, p.2))).showable = true ∧ (PyData.dict (ds.map fun p => (keyPy p.1, p.2))).depth ≤ 64 ∧ (PyData.dict (ds.map fun p => (keyPy p.1, p.2))).shown.length ≤ sizeLine ∧ Q (.str (PyData.dict (ds.map fun p => (keyPy p.1, p.2))).shown) H
theorem paired_trans {h : Heap} : ∀ {kvs : List (Key × V)} {vs : List (Key × Value)} {ds : List (Key × PyData)}, KV kvs vs → Paired (fun (p : Key × V) (q : Key × PyData) => p.1 = q.1 ∧ ∀ h u, RelV p.2 u → Reads h u q.2 []) kvs ds → Paired (fun (p : Key × Value) (q : Key × PyData) => p.1 = q.1 ∧ Reads h p.2 q.2 []) vs ds
  | _, _, _, .nil, .nil => .nil
  | _, _, _, .cons a r, .cons b t => .cons ⟨a.1.symm.trans b.1, b.2 _ _ a.2⟩ (paired_trans r t)
theorem call_reprDc {X : Cx} (hg : X.A.guards = some []) (hu : X.A.units + 65 < cLine) : CallR X (.builtin "repr") rReprDc := by
  rintro pins s σ H xs us Q J r ⟨a, kvs, ds, rfl, hd, hp, hs, hdep, hsz, q⟩
  obtain ⟨u, rfl, ru⟩ := vals1 r
  cases ru
  obtain ⟨_, hm, vs, kv, dd⟩ := dk_rd J.hok hd
  refine repr_of_reads' (h₀ := s.heap) (reads_dict dd (paired_trans kv hp)) hs (fun _ z => ?_) hg (by omega) (fun _ _ z => z) (fun h' t tk kept => ⟨.str _, H, J.kept (t' := tk) kept, ⟨t, rfl⟩, q⟩) hsz
  rw [List.mem_singleton.mp z] at hm
  simp at hm
theorem RkOk.py {W : Wd} : ∀ {xs : List (Key × V)} {kvs : List (Key × Dat)}, RkOk W xs kvs → (kvs.all fun p => flat p.2) = true → Paired (fun (p : Key × V) (q : Key × PyData) => p.1 = q.1 ∧ ∀ h u, RelV p.2 u → Reads h u q.2 []) xs (kvs.map fun p => (p.1, toPy p.2))
  | _, _, .nil, _ => .nil
  | _, _, .cons h r, f => by
    rw [List.all_cons, Bool.and_eq_true] at f
    exact .cons ⟨rfl, fun _ _ z => reads_flat h f.1 z⟩ (RkOk.py r f.2)
section
variable {X : Cy}
@[simp] def wReprA : WC := fun rs ms k => match rs with
  | [r] => (match dicOf ms r with
    | some kvs => (kvs.all fun p => flat p.2) = true ∧ (dicPy kvs).showable = true ∧ (dicPy kvs).depth ≤ 64 ∧ (dicPy kvs).shown.length ≤ sizeLine ∧ k (.str (dicPy kvs).shown) ms
    | none => wRepr rs ms k)
  | _ => False
theorem dc_reprA (hg : X.X.A.guards = some []) (hu : X.X.A.units + 65 < cLine) : CallR X.X (.builtin "repr") (fun xs H Q => rRepr X.X.K xs H Q ∨ rReprDc xs H Q) ∧ LC X.S (fun xs H Q => rRepr X.X.K xs H Q ∨ rReprDc xs H Q) wReprA := by
  refine ⟨fun pins s σ H xs us Q I rv hh => hh.elim (call_reprD hg hu pins s σ H xs us Q I rv) (call_reprDc hg hu pins s σ H xs us Q I rv), fun W vs rs ms Q k hK ok O hw q => ?_⟩
  unfold wReprA at hw
  split at hw
  · split at hw
    · rename_i r _ kvs e
      obtain ⟨v, rfl, o1⟩ := ok.one
      obtain ⟨a, xs, rfl, h1, h2⟩ := O.dict o1 (dicOf_look e)
      obtain ⟨f, c1, c2, c3, hk⟩ := hw
      have em : ((kvs.map fun p => (p.1, toPy p.2)).map fun p => (keyPy p.1, p.2)) = kvs.map fun p => (keyPy p.1, toPy p.2) := by rw [List.map_map]; rfl
      refine .inr ⟨a, xs, _, rfl, h1, h2.py f, ?_⟩
      rw [em]
      exact ⟨c1, c2, c3, q W _ (.str _) ms (Ext.refl W) O (.str _) hk⟩
    · exact .inl ((dc_repr hg hu).2 W vs _ ms Q k hK ok O hw q)
  · exact hw.elim
end
end Sy
namespace Sy
open PySem PySem.Spec PyProof.Rows L2
/-! ## the law's end -/
theorem lawG {P : Program} {w : World} {K : PySem.W.Frag} {mg mb : Str → Option Value} {CX : CXT} {k : Nat} {fa a : Addr} {fd : FuncData} {x : Str} {sp : Sp} {s₁ : Shared} {vs : List Value} {ns : List Int}
    (KX : K.In s₁.heap) (hns : s₁.heap.Ns mainGlobals mg) (hb : s₁.heap.Ns builtinsNs mb) (hbb : ∀ x : Str, x ≠ "__name__" → mb x = bootBuiltins x) (hlim : s₁.heap.NoLimit) (hgn : s₁.gens = #[])
    (ha : s₁.heap.get? a = some { cls := .type "list", data := .seq vs.toArray }) (hi : IntsAre vs ns) (hl : ns.length ≤ sizeLine) (room : Room k callerA)
    (F : ∀ base : Heap, K.In base → base.Ns mainGlobals mg → FnG P w K mg base CX k fa fd [x] sp) (hbind : ∀ (s : Shared) (u : Value), BindsTo s fd ⟨[u], []⟩ [(x, u)])
    (hsp : ∀ H : Hp, Only H → SqL K H a (ns.map V.int) → sp [.ref a] H (fun v _ => v = .bl true) fun _ _ _ => False)
    (hCX : ∀ H e s', CX [] H s₁ (fun _ _ _ => False) e s' → False) :
    codeAny (model P w) callerA (.call (.ref fa) ⟨[.ref a], []⟩) (fun r s' => r = .ok (.ret (.bool true)) ∧ OldK s₁.heap s'.heap ∧ s'.os = s₁.os ∧ AllBare s'.gens) s₁ := by
  have vals := vals_ints hi
  have hlen := hi.length
  have main : ∀ H : Hp, Only H → SqL K H a (ns.map V.int) → HOk P w H s₁.heap → (∀ c, H c ≠ none → c = a) → (H a ≠ none → K.lookup a = none) →
      codeAny (model P w) callerA (.call (.ref fa) ⟨[.ref a], []⟩) (fun r s' => r = .ok (.ret (.bool true)) ∧ OldK s₁.heap s'.heap ∧ s'.os = s₁.os ∧ AllBare s'.gens) s₁ := by
    intro H only sq ok onlyA notK
    have away : ∀ {c : Addr} {u : HO}, H c = some u → c = a := fun {c u} z => onlyA c (by rw [z]; intro y; cases y)
    have free : ∀ {c : Addr} {o : Obj} {es : Array DictEntry} {ep : Nat}, s₁.heap.get? c = some o → o.data = .dict es ep → H c = none := fun {c o es ep} z d => by
      cases y : H c with
      | none => rfl
      | some u =>
        have ec := away y
        subst ec
        rw [ha] at z
        cases z
        exact nomatch (show Data.seq vs.toArray _ = Data.dict es ep from d)
    have nsK : ∀ {c : Addr} {m : Str → Option Value}, s₁.heap.Ns c m → (hidT s₁.heap H).Ns c m := fun {c m} ⟨o, es, ep, z, d, r⟩ => ⟨o, es, ep, hidT_get z (free z d), d, r⟩
    have kin : K.In (hidT s₁.heap H) := fun c o z => hidT_get (KX c o z) (by
      cases y : H c with
      | none => rfl
      | some u =>
        have ec := away y
        subst ec
        rw [notK (by rw [y]; intro q; cases q)] at z
        cases z)
    have md : Mod K mg (hidT s₁.heap H) := ⟨kin, nsK hns, ⟨mb, nsK hb, hbb⟩, let ⟨mc, h1, h2⟩ := hlim; ⟨mc, nsK h1, h2⟩⟩
    have en : Env0 P w K mg (hidT s₁.heap H) callerA [] s₁ H := ⟨rfl, md, fun c o z => of_hidT z, Nat.le_of_eq (hidT_size _ _), trivial, fun c hc => absurd (show c ∈ ([] : List Addr) from hc) (by simp), ok, .of_eq hgn⟩
    refine codeAny_mono ((F _ kin (nsK hns)).go callerA [] s₁ H ⟨[.ref a], []⟩ [.ref a] [.ref a] _ _ rfl room en (hbind s₁ (.ref a)) (.cons rfl .nil) (hsp H only sq)) fun res s2 hres => ?_
    match res, hres with
    | .error e, z => exact (hCX H e s2 z).elim
    | .ok .next, z => exact False.elim z
    | .ok .brk, z => exact False.elim z
    | .ok .cont, z => exact False.elim z
    | .ok (.ret u), ⟨v, H2, os, bare, un, ok2, rv, (hv : v = .bl true)⟩ =>
      subst hv
      obtain rfl : u = Value.bool true := rv
      refine ⟨rfl, OldK.of_keep fun c o z => ?_, os, bare⟩
      cases y : H c with
      | none => exact un.keep c o z y (fun q => absurd (show c ∈ ([] : List Addr) from q) (by simp)) (by simp)
      | some t =>
        rcases only c with q | ⟨ob, xs, q⟩
        · rw [y] at q; cases q
        · obtain ⟨e1, _⟩ := ok c _ q
          obtain ⟨e2, _⟩ := ok2 c _ (un.frzs c ob _ q)
          rw [z] at e1
          cases e1
          exact e2
  cases hk : K.lookup a with
  | some o =>
    have z := KX a o hk
    rw [ha] at z
    cases z
    refine main (fun _ => none) (fun _ => Or.inl rfl) (Or.inr ⟨_, vs.toArray, _, hk, rfl, rfl, rfl, by rw [List.size_toArray, hlen]; exact hl, by simpa using vals⟩) (fun c u q => ?_) (fun c q => absurd rfl q) fun q => absurd rfl q
    exact nomatch (show (none : Option HO) = some u from q)
  | none =>
    let ob : Obj := { cls := .type "list", data := .seq vs.toArray }
    have at_a : ∀ {c : Addr}, c = a → (fun c => if c = a then some (HO.frz ob (.lst (ns.map V.int))) else none) c = some (HO.frz ob (.lst (ns.map V.int))) := fun {c} q => if_pos q
    have off_a : ∀ {c : Addr}, ¬ c = a → (fun c => if c = a then some (HO.frz ob (.lst (ns.map V.int))) else none) c = none := fun {c} q => if_neg q
    refine main (fun c => if c = a then some (.frz ob (.lst (ns.map V.int))) else none) (fun c => ?_) (Or.inl (Or.inr ⟨ob, at_a rfl⟩)) (fun c u q => ?_) (fun c q => ?_) fun _ => hk
    · exact (Classical.em (c = a)).elim (fun z => Or.inr ⟨_, _, at_a z⟩) fun z => Or.inl (off_a z)
    · rcases Classical.em (c = a) with z | z
      · have q2 := (at_a z).symm.trans q
        cases q2
        subst z
        exact ⟨ha, by rw [List.length_map]; exact hl, vs, _, vals, ha⟩
      · exact nomatch (off_a z).symm.trans q
    · exact Classical.byContradiction fun z => q (off_a z)
theorem walkG {l : PySem.W.OpenLaw} {n k : Nat} {q : Program} {loose : List Str} {XP : (Str → Option Value) → Heap → Prop} {YP : World → Heap → Prop} {d : DefRec} {CX : World → CXT} {x : Str}
    (hn : l.most = some n) (hn2 : n ≤ sizeLine) (hdf : d.params.defaults = []) (room : Room k callerA)
    (F : ∀ (w : World) (mg : Str → Option Value) (fa : Addr) (h : Heap), YP w h → h.Ns mainGlobals mg → mg d.name = some (.ref fa) →
      ∃ (K : PySem.W.Frag) (fd : FuncData) (sp : Sp), K.In h ∧ (∀ (s : Shared) (u : Value), BindsTo s fd ⟨[u], []⟩ [(x, u)]) ∧
        (∀ (H : Hp) (a : Addr) (ns : List Int), ns.length ≤ n → Only H → SqL K H a (ns.map V.int) → sp [.ref a] H (fun v _ => v = .bl true) fun _ _ _ => False) ∧
        ∀ base : Heap, K.In base → base.Ns mainGlobals mg → FnG l.prog w K mg base (CX w) k fa fd [x] sp)
    (hCX : ∀ (w : World) (H : Hp) (s : Shared) (e : Value) (s' : Shared), CX w [] H s (fun _ _ _ => False) e s' → False) :
    PySem.W.WalkO q loose XP YP l.row.toRowW d [] (fun f vs => PySem.call f vs) := by
  refine Att.attach_call hn hdf fun w s0 s1 mg mb fa o pm cd doc a vs ns gr yp ho hd hcd hmg hobj hints hlen hgn => ?_
  obtain ⟨K, fd, sp, kin, hb, hsp, hF⟩ := F w mg fa _ yp gr.T.g hmg
  exact lawG kin gr.T.g gr.T.b gr.T.builtins gr.T.nolimit hgn hobj hints (Nat.le_trans hlen hn2) room hF hb (fun H hO hS => hsp H a ns hlen hO hS) fun H e s' => hCX w H s1 e s'
theorem cx_none {P : Program} {w : World} {H : Hp} {s : Shared} {e : Value} {s' : Shared} (h : L2.CX P w [] H s (fun _ _ _ => False) e s') : False := by
  obtain ⟨_, _, _, _, _, _, _, _, _, _, _, _, z⟩ := h
  exact z.elim
/-! ## what is fine -/
@[simp] theorem shaped_none : SeqAt.shaped .none = true := by decide
@[simp] theorem shaped_bool (b : Bool) : SeqAt.shaped (.bool b) = true := by cases b <;> decide
@[simp] theorem shaped_int (i : Int) : SeqAt.shaped (.int i) = true := by simp [SeqAt.shaped, PyData.canLay0, PyData.depth]
@[simp] theorem eqv_ii (i j : Int) : PyData.eqv (.int i) (.int j) = decide (i = j) := by simp [PyData.eqv]; rfl
@[simp] theorem eqv_ss (x y : Str) : PyData.eqv (.str x) (.str y) = decide (x = y) := by simp [PyData.eqv]; by_cases h : x = y <;> simp [h]
@[simp] theorem eqv_ts (xs : List PyData) (y : Str) : PyData.eqv (.tuple xs) (.str y) = false := by simp [PyData.eqv]
@[simp] theorem eqv_ll (xs ys : List PyData) : PyData.eqv (.list xs) (.list ys) = PyData.eqvAll xs ys := by simp [PyData.eqv]
@[simp] theorem eqv_tt (xs ys : List PyData) : PyData.eqv (.tuple xs) (.tuple ys) = PyData.eqvAll xs ys := by simp [PyData.eqv]
@[simp] theorem eqvAll_nn : PyData.eqvAll [] [] = true := by simp [PyData.eqvAll]
@[simp] theorem eqvAll_nc (x : PyData) (xs : List PyData) : PyData.eqvAll [] (x :: xs) = false := by simp [PyData.eqvAll]
@[simp] theorem eqvAll_cn (x : PyData) (xs : List PyData) : PyData.eqvAll (x :: xs) [] = false := by simp [PyData.eqvAll]
@[simp] theorem eqvAll_cc (x y : PyData) (xs ys : List PyData) : PyData.eqvAll (x :: xs) (y :: ys) = (PyData.eqv x y && PyData.eqvAll xs ys) := by simp [PyData.eqvAll]
/-- flat lists of good data -/
def leaf : Dat → Bool
  | .non => true
  | .bl _ => true
  | .int _ => true
  | .str x => SeqAt.shaped (.str x)
  | _ => false
theorem leaf_ok : ∀ {d : Dat}, leaf d = true → plain d = true ∧ (toPy d).canLay0 = true ∧ (toPy d).depth ≤ 1 ∧ (toPy d).hasDict = false
  | .non, _ => by simp [PyData.canLay0, PyData.depth, PyData.hasDict]
  | .bl b, _ => by simp [PyData.canLay0, PyData.depth, PyData.hasDict]
  | .int i, _ => by simp [PyData.canLay0, PyData.depth, PyData.hasDict]
  | .str x, h => by
    have h' : (PyData.canLay0 (.str x) && decide (PyData.depth (.str x) ≤ 64)) = true := h
    rw [Bool.and_eq_true] at h'
    refine ⟨by simp, by simpa using h'.1, by simp [PyData.depth], by simp [PyData.hasDict]⟩
/-- depth below n, all laid -/
def fine (n : Nat) (d : Dat) : Prop := plain d = true ∧ (toPy d).canLay0 = true ∧ (toPy d).depth ≤ n ∧ (toPy d).hasDict = false
theorem fines {n : Nat} : ∀ {ds : List Dat}, (∀ d ∈ ds, fine n d) → plains ds = true ∧ PyData.canLayAll0 (toPys ds) = true ∧ PyData.depthAll (toPys ds) ≤ n ∧ PyData.hasDictAll (toPys ds) = false
  | [], _ => by simp [PyData.canLayAll0, PyData.depthAll, PyData.hasDictAll]
  | d :: ds, h => by
    obtain ⟨a1, a2, a3, a4⟩ := h d (by simp)
    obtain ⟨b1, b2, b3, b4⟩ := fines fun x hx => h x (List.mem_cons_of_mem _ hx)
    refine ⟨by simp [a1, b1], by simp [PyData.canLayAll0, a2, b2], ?_, by simp [PyData.hasDictAll, a4, b4]⟩
    simp [PyData.depthAll]
    omega
theorem fine_lst {n : Nat} {ds : List Dat} (h : ∀ d ∈ ds, fine n d) : fine (n + 1) (.lst ds) := by
  obtain ⟨b1, b2, b3, b4⟩ := fines h
  refine ⟨by simpa using b1, by simpa [PyData.canLay0] using b2, ?_, by simpa [PyData.hasDict] using b4⟩
  simp [PyData.depth]; omega
theorem fine_tup {n : Nat} {ds : List Dat} (h : ∀ d ∈ ds, fine n d) : fine (n + 1) (.tup ds) := by
  obtain ⟨b1, b2, b3, b4⟩ := fines h
  refine ⟨by simpa using b1, by simpa [PyData.canLay0] using b2, ?_, by simpa [PyData.hasDict] using b4⟩
  simp [PyData.depth]; omega
theorem fine_leaf {n : Nat} {d : Dat} (hn : 1 ≤ n) (h : leaf d = true) : fine n d := by
  obtain ⟨a1, a2, a3, a4⟩ := leaf_ok h
  exact ⟨a1, a2, by omega, a4⟩
theorem fine.shaped {n : Nat} {d : Dat} (h : fine n d) (hn : n ≤ 64) : SeqAt.shaped (toPy d) = true := by
  have := h.2.2.1
  simp [SeqAt.shaped, h.2.1]; omega
mutual
theorem toPy_inj : ∀ {d e : Dat}, plain d = true → plain e = true → toPy d = toPy e → d = e
  | .non, e, _, h, q => by cases e <;> simp_all
  | .bl b, e, _, h, q => by cases e <;> simp_all
  | .int b, e, _, h, q => by cases e <;> simp_all
  | .str b, e, _, h, q => by cases e <;> simp_all
  | .lst ds, e, g, h, q => by
    cases e with
    | lst es => simp at q g h; rw [toPys_inj g h q]
    | _ => simp_all
  | .tup ds, e, g, h, q => by
    cases e with
    | tup es => simp at q g h; rw [toPys_inj g h q]
    | _ => simp_all
  | .ty _, _, g, _, _ => by simp at g
  | .ref _, _, g, _, _ => by simp at g
  | .dic _, _, g, _, _ => by simp at g
  | .ins _ _, _, g, _, _ => by simp at g
  | .scr _, _, g, _, _ => by simp at g
theorem toPys_inj : ∀ {d e : List Dat}, plains d = true → plains e = true → toPys d = toPys e → d = e
  | [], [], _, _, _ => rfl
  | [], _ :: _, _, _, q => by simp at q
  | _ :: _, [], _, _, q => by simp at q
  | d :: ds, e :: es, g, h, q => by
    simp at q g h
    rw [toPy_inj g.1 h.1 q.1, toPys_inj g.2 h.2 q.2]
end
theorem lcW_run {wg : WG} {wt : WT} {we : WE} {ρ : Env} {k : List Dat → Ms → Prop} {ms : Ms} (f : Dat → List Dat) : ∀ {ds acc : List Dat}
    (h : ∀ d ∈ ds, ∀ kk : List Dat → Ms → Prop, kk (f d) ms → wg d ρ ms fun ρ1 ms1 => wt ρ1 ms1 fun b ms2 => if b = true then we ρ1 ms2 fun y ms3 => kk [y] ms3 else kk [] ms2)
    (hf : ∀ d ∈ ds, f d = [] ∨ ∃ y, f d = [y]) (hs : acc.length + ds.length ≤ sizeLine) (hk : k (acc ++ ds.flatMap f) ms), lcW wg wt we ρ k ds acc ms
  | [], acc, h, hf, hs, hk => by simpa using hk
  | d :: ds, acc, h, hf, hs, hk => by
    simp only [List.length_cons] at hs
    refine h d (by simp) (fun l ms' => match l with
      | [y] => acc.length < sizeLine ∧ lcW wg wt we ρ k ds (acc ++ [y]) ms'
      | _ => lcW wg wt we ρ k ds acc ms') ?_
    rcases hf d (by simp) with e | ⟨y, e⟩
    · rw [e]
      refine lcW_run f (fun x hx => h x (List.mem_cons_of_mem _ hx)) (fun x hx => hf x (List.mem_cons_of_mem _ hx)) (by omega) ?_
      simpa [List.flatMap_cons, e] using hk
    · rw [e]
      refine ⟨by omega, lcW_run f (fun x hx => h x (List.mem_cons_of_mem _ hx)) (fun x hx => hf x (List.mem_cons_of_mem _ hx)) (by simp; omega) ?_⟩
      simpa [List.flatMap_cons, e] using hk
theorem lcW_map {wg : WG} {wt : WT} {we : WE} {ρ : Env} {k : List Dat → Ms → Prop} {ms : Ms} (f : Dat → Dat) {ds : List Dat}
    (h : ∀ d ∈ ds, ∀ kk : List Dat → Ms → Prop, kk [f d] ms → wg d ρ ms fun ρ1 ms1 => wt ρ1 ms1 fun b ms2 => if b = true then we ρ1 ms2 fun y ms3 => kk [y] ms3 else kk [] ms2)
    (hs : ds.length ≤ sizeLine) (hk : k (ds.map f) ms) : lcW wg wt we ρ k ds [] ms :=
  lcW_run (fun d => [f d]) h (fun d _ => .inr ⟨_, rfl⟩) (by simpa using hs) (by
    have e : ds.flatMap (fun d => [f d]) = ds.map f := by
      clear h hs hk
      induction ds with
      | nil => rfl
      | cons d ds ih => rw [List.flatMap_cons, ih]; rfl
    rw [e]; exact hk)
theorem lcW_filter {wg : WG} {wt : WT} {we : WE} {ρ : Env} {k : List Dat → Ms → Prop} {ms : Ms} (p : Dat → Bool) {ds : List Dat}
    (h : ∀ d ∈ ds, ∀ kk : List Dat → Ms → Prop, kk (if p d = true then [d] else []) ms → wg d ρ ms fun ρ1 ms1 => wt ρ1 ms1 fun b ms2 => if b = true then we ρ1 ms2 fun y ms3 => kk [y] ms3 else kk [] ms2)
    (hs : ds.length ≤ sizeLine) (hk : k (ds.filter p) ms) : lcW wg wt we ρ k ds [] ms :=
  lcW_run (fun d => if p d = true then [d] else []) h (fun d _ => by by_cases q : p d = true <;> simp [q]) (by simpa using hs) (by
    have e : ds.flatMap (fun d => if p d = true then [d] else []) = ds.filter p := by
      clear h hs hk
      induction ds with
      | nil => rfl
      | cons d ds ih => rw [List.flatMap_cons, ih]; by_cases q : p d = true <;> simp [q]
    rw [e]; exact hk)
theorem size_big : 1000000 ≤ sizeLine := by decide
/-! texts, with no bound on what stands in them -/
@[simp] def wEqS : WR2 := fun a b ms k => match look ms a, look ms b with
  | some (.str x), some (.str y) => k ((.bl (decide (x = y)))) ms
  | _, _ => False
@[simp] def wNeS : WR2 := fun a b ms k => match look ms a, look ms b with
  | some (.str x), some (.str y) => k ((.bl (!decide (x = y)))) ms
  | _, _ => False
section
variable {X : Cy}
theorem do_eqS : OpR X.X (compareOp .Eq) rEq ∧ LR2 X.S rEq wEqS := ⟨op_eq, fun W x y a b ms Q k hK oa ob O hw q => by
  unfold wEqS at hw
  split at hw
  · rename_i p r h1 h2
    have e1 := O.strv oa h1
    have e2 := O.strv ob h2
    subst e1 e2
    refine ⟨rfl, ?_⟩
    rw [show decide (V.str p = V.str r) = decide (p = r) from by simp]
    exact q W _ (.bl _) ms (Ext.refl W) O (.bl _) hw
  · exact hw.elim⟩
theorem do_neS : OpR X.X (compareOp .NotEq) rNe ∧ LR2 X.S rNe wNeS := ⟨op_ne, fun W x y a b ms Q k hK oa ob O hw q => by
  unfold wNeS at hw
  split at hw
  · rename_i p r h1 h2
    have e1 := O.strv oa h1
    have e2 := O.strv ob h2
    subst e1 e2
    refine ⟨rfl, ?_⟩
    rw [show decide (V.str p = V.str r) = decide (p = r) from by simp]
    exact q W _ (.bl _) ms (Ext.refl W) O (.bl _) hw
  · exact hw.elim⟩
end
end Sy
namespace Sy
open PySem PySem.Spec PyProof.Rows L2
theorem de_globIe {X : Cy} {x : Str} {i : Int} {pos : Pos} (hg : Gl X.X x) (hm : ∃ t, X.X.mg x = some (.int i t)) (hd : (x == ("__debug__" : Str)) = false := by decide) : DE X (.Name x pos) (wC (.int i)) := let ⟨_, m⟩ := hm; de_globI hg m hd
theorem de_globSe {X : Cy} {x : Str} {i : Str} {pos : Pos} (hg : Gl X.X x) (hm : ∃ t, X.X.mg x = some (.str i t)) (hd : (x == ("__debug__" : Str)) = false := by decide) : DE X (.Name x pos) (wC (.str i)) := let ⟨_, m⟩ := hm; de_globS hg m hd
/-! the source of draws -/
def src (n s : Int) : Cell := .lst [.int n, .int s]
def SrcOk (n s : Int) : Prop := 0 ≤ n ∧ 0 ≤ s ∧ s < 2147483647
theorem mod_src {z : Int} : 0 ≤ z % 2147483647 ∧ z % 2147483647 < 2147483647 := ⟨Int.emod_nonneg _ (by decide), Int.emod_lt_of_pos _ (by decide)⟩
def spSource : FSpec := fun rs ms k kx => ∃ ns t, rs = [.scr ns, .int t] ∧ 0 ≤ t ∧ t < 1000 ∧ ∀ n s, SrcOk n s → k (.own ms.length) (ms ++ [src n s])
def spDraw : FSpec := fun rs ms k kx => ∃ j n s m, rs = [.own j, .int m] ∧ ms[j]? = some (src n s) ∧ SrcOk n s ∧ 0 < m ∧ m < 1073741824 ∧ ∀ r n' s', 0 ≤ r → r < m → SrcOk n' s' → k (.int r) (ms.set j (src n' s'))
/-! the head's hook: the names' reach, the statics, and one Bool more -/
def asY (g : Addr → Option Obj) (n : Nat) : List Addr := He.asD g n ++ [cStatics]
def obsY (n : Nat) (fa : List He.Fa) (fn : List He5.DefA) (ex : PySem.W.Frag → Bool) (g : Addr → Option Obj) : He.AlD × Bool := (He5.obsA fa fn (He.frG g (asY g n)), ex (He.frG g (asY g n)))
structure SaysY (fa : List He.Fa) (fn : List He5.DefA) (ex : PySem.W.Frag → Bool) (K : PySem.W.Frag) : Prop where
  d : He5.SaysA fa fn K
  more : ex K = true
def hookY (n : Nat) (fa : List He.Fa) (fn : List He5.DefA) (ex : PySem.W.Frag → Bool) : PySem.W.Hook where
  α := He.AlD × Bool
  obs := fun s => obsY n fa fn ex s.heap.get?
  val := fun _ => (He5.valA fn, true)
  says := fun _ h => ∃ K : PySem.W.Frag, K.In h ∧ SaysY fa fn ex K
  of := fun _ _ e => ⟨_, He.frG_in, ⟨congrArg (fun z : He.AlD × Bool => z.1) e, congrArg (fun z : He.AlD × Bool => z.2) e⟩⟩
  keeps := fun _ _ _ ⟨K, hK, c⟩ k => ⟨K, PySem.W.Frag.In.keeps hK k, c⟩
theorem obsY_eq {n : Nat} {fa : List He.Fa} {fn : List He5.DefA} {ex : PySem.W.Frag → Bool} {g : Addr → Option Obj} {s : Shared} (h : ∀ a, g a = s.heap.get? a) : obsY n fa fn ex g = (hookY n fa fn ex).obs s := by
  have e : g = s.heap.get? := funext h
  rw [e] <;> rfl
end Sy
namespace Sy
open PySem PySem.Spec PyProof.Rows L2
/-! loops and texts -/
theorem forW_inv {wg : WG} {wb : WS} {E : WEnds} {I : Env → Ms → Prop} {D : Dat → Prop}
    (step : ∀ d, D d → ∀ ρ ms, I ρ ms → ∀ F : Env → Ms → Prop, (∀ ρ' ms', I ρ' ms' → F ρ' ms') → wg d ρ ms fun ρ1 ms1 => wb { nx := F, ct := F, bk := E.nx, rt := E.rt } ρ1 ms1)
    (hE : ∀ ρ ms, I ρ ms → E.nx ρ ms) : ∀ ds, (∀ d ∈ ds, D d) → ∀ ρ ms, I ρ ms → forW wg wb E ds ρ ms
  | [], _, ρ, ms, h => hE ρ ms h
  | d :: ds, hd, ρ, ms, h => step d (hd d (by simp)) ρ ms h _ fun ρ' ms' h' => forW_inv step hE ds (fun x hx => hd x (List.mem_cons_of_mem _ hx)) ρ' ms' h'
theorem enumD_mem {ds : List Dat} {x : Dat} (h : x ∈ enumD 0 ds) : ∃ (i : Nat) (e : Dat), x = .tup [.int (i : Nat), e] ∧ ds[i]? = some e := by
  obtain ⟨i, hi⟩ := List.mem_iff_getElem?.mp h
  rw [enumD_get] at hi
  cases q : ds[i]? with
  | none => rw [q] at hi; cases hi
  | some e => rw [q] at hi; simp at hi; exact ⟨i, e, hi.symm, q⟩
theorem rngD_mem {lo : Int} {n : Nat} {x : Dat} (h : x ∈ rngD lo n) : ∃ i : Nat, i < n ∧ x = .int (lo + (i : Int)) := by
  unfold rngD at h
  obtain ⟨i, hi, e⟩ := List.mem_map.mp h
  exact ⟨i, List.mem_range.mp hi, e.symm⟩
theorem int_short {n : Int} (h : n.natAbs < 10 ^ 10) : (PyData.shown (.int n)).length ≤ 13 := by
  have e := int_text_length_le10 (k := 10) (by decide) h
  show (Str.ofString (toString n)).length ≤ 13
  rw [PySem.ofString_length]; omega
theorem int_log {n : Int} (h : n.natAbs < 10 ^ 10) : n.natAbs.log2 < 34 := by
  by_cases z : n.natAbs = 0
  · rw [z]; decide
  · exact (Nat.log2_lt z).mpr (Nat.lt_trans h (by decide))
theorem int_showable {n : Int} (h : n.natAbs < 10 ^ 10) : n.natAbs.log2 < 1920 := Nat.lt_trans (int_log h) (by decide)
theorem int_weight {n : Int} (h : n.natAbs < 10 ^ 10) : PyData.weight (.int n) ≤ 35 := by
  have := int_log h
  simp only [PyData.weight]; split <;> omega
end Sy
/-! ## an exception made by a keyword: C(f = v) -/
namespace PySem
namespace HandSPX
open Builtin Builtin.ObjectAttr
section
variable {mo : Model} {ar : Around} {xE : Value → Shared → Prop} {hp : Heap} {gs : Array GenState} {dr : Drawn} {tt : Nat} {os : OsState}
variable {nm q : Str} {C N : Addr} {bs bm bmB : List Value} {hdct : Bool} {sn : List Str} {sub : List Value} {ab : Bool} {col : Option Bool} {dd : Option Addr} {k0 k1 k2 k3 k5 : Option Value} {B newId initId : String}
theorem check_new_kw (F : ExcBaseFacts B newId initId bmB) (hT : ∀ X : String, bm.contains (.type X) = bmB.contains (.type X)) {kn : Str} {kv : Value} {Q : Unit → Shared → Prop}
    (hC : hp.get? C = some (excClassObj nm q C N bs bm hdct sn sub ab col dd k0 k1 k2 k3 k5 newId)) (hq : Q () ⟨hp, gs, dr, tt, os⟩) : wpAny mo ar (checkBuiltinCall newId ⟨[.ref C], [(kn, kv)]⟩) Q xE ⟨hp, gs, dr, tt, os⟩ := by
  have hcont : (Value.ref C :: bm).contains (.type B) = true := by rw [List.contains_cons, hT, F.hasB, Bool.or_true]
  have star := F.noStar
  simp only [checkBuiltinCall, F.newKind, F.newSplit, F.newRow]
  repeat (first | refine wpAny_loadPart_at hC ?_ | (refine wpAny_isSubtype_exc hC ?_; rw [hcont]) | refine wpAny_staticBase_exc hC ?_ | refine wpAny_madeBy_exc hC ?_ | simp only [bne_self_eq_false, Bool.false_eq_true, if_false] | wp_step)
  exact hq
end
end HandSPX
end PySem
namespace PySem
namespace HandSPX
open Builtin Builtin.ObjectAttr
section
variable {pg : Program} {wo : World} {ar : Around} {xE : Value → Shared → Prop} {res : Result → Shared → Prop} {hp : Heap} {gs : Array GenState} {dr : Drawn} {tt : Nat} {os : OsState}
variable {nm q : Str} {C N : Addr} {bs bm bmB : List Value} {hdct : Bool} {sn : List Str} {sub : List Value} {ab : Bool} {col : Option Bool} {dd : Option Addr} {k0 k1 k2 k3 k5 : Option Value} {B newId initId : String}
theorem new_kw (F : ExcBaseFacts B newId initId bmB) (hT : ∀ X : String, bm.contains (.type X) = bmB.contains (.type X)) {kn : Str} {kv : Value}
    (hC : hp.get? C = some (excClassObj nm q C N bs bm hdct sn sub ab col dd k0 k1 k2 k3 k5 newId))
    (hq : res (.ok (.ret (.ref (hp.objs.size + 1)))) ⟨(hp.push (W.kdv_tup [])).push (excO C hp.objs.size), gs, dr, tt, os⟩) :
    codeAny (model pg wo) ar (.builtin newId ⟨[.ref C], [(kn, kv)]⟩) res ⟨hp, gs, dr, tt, os⟩ := by
  have fin := F.ends
  have cB : (Value.ref C :: bm).contains (.type B) = true := by rw [List.contains_cons, hT, F.hasB, Bool.or_true]
  have cA : (Value.ref C :: bm).contains (.type "AttributeError") = false := by rw [List.contains_cons, hT, F.noAttr]; rfl
  have cN : (Value.ref C :: bm).contains (.type "NameError") = false := by rw [List.contains_cons, hT, F.noName]; rfl
  refine codeAny_builtinAt F.entry ?_
  unfold Builtin.«BaseException.__new__»
  refine wpAt_bind ?_
  show wpAt _ _ _ (stack >>= _) _ _ _
  refine wpAt_bind (wpAt_stack fun p below => wpAt_of_wpAny ?_)
  wp_walk
  refine wpAt_of_wpAny ?_
  rw [F.owner]
  have hz : ([] : List Value).length ≤ sizeLine := Nat.zero_le _
  repeat (first | with_reducible refine wpAny_madeHere_exc F.canon hC ?_ | with_reducible refine wpAny_loadPart_at hC ?_ | (with_reducible refine wpAny_isSubtype_exc hC ?_; first | rw [cB] | rw [cA] | rw [cN]) | wp_step)
  show res _ _
  rw [Heap.size_push]
  exact hq
theorem type_call_kw (F : ExcBaseFacts B newId initId bmB) (hT : ∀ X : String, bm.contains (.type X) = bmB.contains (.type X)) {kn : Str} {kv : Value} {fI : Addr} {Q : Fin → Shared → Prop}
    (hC : hp.get? C = some (excClassObj nm q C N bs bm hdct sn sub ab col dd k0 k1 k2 k3 k5 newId))
    (hi : W.Looks (model pg wo) hp (typeLookup (.ref C) "__init__") (some (.ref fI))) (hb : ∀ self, W.Looks (model pg wo) hp (bindSpecial (.ref fI) self) (.ref fI, [self]))
    (hq : codeAny (model pg wo) ar (.call (.ref fI) ⟨[.ref (hp.objs.size + 1)], [(kn, kv)]⟩)
      (fun r s' => match r with | .ok (.ret v) => v = .none ∧ Q (.done (.ret (.ref (hp.objs.size + 1)))) s' | .ok _ => False | .error e => xE e s')
      ⟨(hp.push (W.kdv_tup [])).push (excO C hp.objs.size), gs, dr, tt, os⟩) :
    wpAny (model pg wo) ar (Builtin.«type.__call__» ⟨[.ref C], [(kn, kv)]⟩) Q xE ⟨hp, gs, dr, tt, os⟩ := by
  repeat (first | with_reducible refine wpAny_loadPart_at hC ?_ | with_reducible refine wpAny_madeBy_exc hC ?_ | wp_step)
  refine codeAny_call_builtin_code (Code.quiet_builtin _ F.quiet) (check_new_kw F hT hC ?_)
  refine new_kw F hT hC ?_
  show wpAny _ _ _ _ _ _
  have kp : ∀ b o, hp.get? b = some o → ((hp.push (W.kdv_tup [])).push (excO C hp.objs.size)).get? b = some o := fun b o e => Heap.get?_push_of_some _ (Heap.get?_push_of_some _ e)
  have hC1 := kp _ _ hC
  have get1 : ((hp.push (W.kdv_tup [])).push (excO C hp.objs.size)).get? (hp.objs.size + 1) = some (excO C hp.objs.size) := by heap_get
  have cC : (Value.ref C :: bm).contains (.ref C) = true := by simp
  have i2 := hi.keeps kp
  have b2 := (hb (.ref (hp.objs.size + 1))).keeps kp
  unfold isInstance
  repeat (first | with_reducible refine wpAny_loadPart_at get1 ?_ | (with_reducible refine wpAny_isSubtype_exc hC1 ?_; rw [cC]) | wp_step)
  show wpAny _ _ (typeLookup (.ref C) _) _ _ _
  refine i2.at ?_
  refine wpAny_holding (wpAny_bind (b2.at ?_))
  refine wpAny_bind (wpAny_call (codeAny_mono hq fun r s' z => ?_))
  rcases r with e | (v | _ | _ | _) <;> first | exact z | exact z.elim | skip
  obtain ⟨rfl, z⟩ := z
  first
    | exact wpAny_pure (wpAny_pure z)
    | (wp_walk; exact z)
theorem check_type_kw {mo : Model} {kn : Str} {kv : Value} {Q : Unit → Shared → Prop} (hC : hp.get? C = some (excClassObj nm q C N bs bm hdct sn sub ab col dd k0 k1 k2 k3 k5 newId))
    (hq : Q () ⟨hp, gs, dr, tt, os⟩) : wpAny mo ar (checkBuiltinCall "type.__call__" ⟨[.ref C], [(kn, kv)]⟩) Q xE ⟨hp, gs, dr, tt, os⟩ := by
  have sb := tc_sub
  have ty : (⟨hp, gs, dr, tt, os⟩ : Shared).TypeIs (.ref C) "type" := ⟨_, hC, rfl⟩
  simp only [checkBuiltinCall, tc_kind, tc_split]
  repeat (any_goals (first | assumption | with_reducible refine wpAny_loadPart_at hC ?_ | with_reducible refine wpAny_onRaise ?_ | with_reducible refine wpAny_map ?_ | wp_step))
theorem call_kw (F : ExcBaseFacts B newId initId bmB) (hT : ∀ X : String, bm.contains (.type X) = bmB.contains (.type X)) {kn : Str} {kv : Value} {fI : Addr}
    (hC : hp.get? C = some (excClassObj nm q C N bs bm hdct sn sub ab col dd k0 k1 k2 k3 k5 newId))
    (hi : W.Looks (model pg wo) hp (typeLookup (.ref C) "__init__") (some (.ref fI))) (hb : ∀ self, W.Looks (model pg wo) hp (bindSpecial (.ref fI) self) (.ref fI, [self]))
    (hq : codeAny (model pg wo) (ar.under (.builtin "type.__call__" ⟨[.ref C], [(kn, kv)]⟩)) (.call (.ref fI) ⟨[.ref (hp.objs.size + 1)], [(kn, kv)]⟩) (W.InitBack (hp.objs.size + 1) res)
      ⟨(hp.push (W.kdv_tup [])).push (excO C hp.objs.size), gs, dr, tt, os⟩) :
    codeAny (model pg wo) ar (.call (.ref C) ⟨[], [(kn, kv)]⟩) res ⟨hp, gs, dr, tt, os⟩ := by
  have f1 := tc_lookup
  have f2 := tc_bind (.ref C)
  have ty : (⟨hp, gs, dr, tt, os⟩ : Shared).TypeIs (.ref C) "type" := ⟨_, hC, rfl⟩
  refine codeAny_of_tree ?_
  show wpAny _ _ (callAny (.ref C) _) _ _ _
  repeat (any_goals (first | assumption | with_reducible refine wpAny_loadPart_at hC ?_ | wp_step))
  refine ⟨rfl, ?_⟩
  refine codeAny_call_builtin_at (Code.quiet_builtin _ (by decide +kernel)) entry_typeCall (check_type_kw hC (type_call_kw F hT hC hi hb ?_))
  refine codeAny_mono hq fun r s' z => ?_
  rcases r with e | (v | _ | _ | _) <;> exact z
end
end HandSPX
end PySem
namespace Sy
open PySem PySem.Spec PyProof.Rows L2
section
variable {P : Program} {w : World} {K : PySem.W.Frag} {mg : Str → Option Value} {base : Heap}
/-- an exception's class that is also made by its one keyword -/
structure ExcKw (P : Program) (w : World) (K : PySem.W.Frag) (mg : Str → Option Value) (base : Heap) (C f kn : Str) : Prop where
  ok : ExcOk P w K mg base C [f]
  ex : ∃ fd, FnG P w K mg base (L2.CX P w) 1 (fA K (C, some "__init__")) fd ["self", kn] (spX K [f]) ∧ ∀ (s : Shared) (u v : Value), BindsTo s fd ⟨[u], [(kn, v)]⟩ [("self", u), (kn, v)]
theorem bind_kw {x qual : Str} {params : Arguments} {body : List Stmt} {scope : Scope} {kws : List (Str × V)} {f : Addr} {fd : FuncData} {ar : Args} {bd : List (Str × Value)} (F : FunD K x qual params body scope [] kws f fd)
    (h : ∀ (kV doc pm : Value) (an : Option Addr) (cdv ct : Value), bindArgs (PySem.W.fnOf x qual params body scope .none kV doc pm an cdv ct) ar = pure bd) (s : Shared) : BindsTo s fd ar bd := by
  obtain ⟨oc, od, dV, kV, doc, pm, an, cdv, ct, osl, rfl, lk, hcd, hD, hK⟩ := F.ex
  rcases hD with ⟨_, rfl⟩ | ⟨e, _⟩
  · exact .of_eq (h kV doc pm an cdv ct)
  · exact absurd rfl e
theorem exc_initK {qual : Str} {st : Stmt} {C f p1 : Str} {z : Str} (D : DefAt K (C, some "__init__") "__init__" qual st ["self", p1]) (S : FnScope ["self", p1] ["self", p1] (defScope st)) (cl : XcC K (He.ga K C)) (no : PySem.W.findIn K (.ref (He.ga K C)) f = some none)
    (ii : PySem.W.findIn K (.ref (He.ga K C)) "__init__" = some (some (.ref (fA K (C, some "__init__"))))) (ti : PySem.W.typeIn K (.ref (fA K (C, some "__init__"))) = some (.type "function"))
    (hk : ∀ (kV doc pm : Value) (an : Option Addr) (cdv ct u v : Value), bindArgs (PySem.W.fnOf "__init__" qual (defArgs st) (defBody st) (defScope st) .none kV doc pm an cdv ct) ⟨[u], [(p1, v)]⟩ = pure [(("self" : Str), u), (p1, v)])
    (hb : ∀ (f0 : Addr) (cdv : Value) (A : Around) (out : List PySem.Env) (s : Shared) (H : Hp) (E : XK), PSs (cxOf (L2.CX P w) P w K mg base ["self", p1] qual (defScope st) f0 cdv A out s H E) (defBody st) (tInit1 K f z)) : ExcKw P w K mg base C f p1 := by
  refine ⟨exc_init1 D S cl no ii ti hb, ?_⟩
  obtain ⟨fd, F, b, kp⟩ := D.ex
  refine ⟨fd, FnG.of_funD (k := 0) F S (fun vs H Q E ⟨a, C, ws, e, hl, _⟩ => by rw [e, List.length_cons, hl]; rfl) fun cdv _ A out s H vs Q E hg hr ⟨a, C', ws, ev, hl, T, hn, ha, q⟩ => ⟨_, hb _ cdv A out s H E, ?_⟩, fun s u v => bind_kw F (fun kV doc pm an cdv ct => hk kV doc pm an cdv ct u v) s⟩
  obtain ⟨v, rfl⟩ : ∃ v, ws = [v] := by
    match ws, hl with
    | [v], _ => exact ⟨v, rfl⟩
  subst ev
  exact ⟨.ref a, rfl, a, C', [.str z], rfl, (by show (1 : Nat) ≤ 1000; decide), T, ha, v, rfl, .ref a, rfl, a, C', rfl, T, hn f (by simp), .inl ⟨ha, fun dx h1 h2 => q dx h1 h2⟩⟩
end
theorem run_excK {X : Cx} {C f kn : Str} {pins : List (Addr × Obj)} {σ : L2.St} {H : Hp} {s : Shared} {Q : VK} {u : Value} {v : V} (D : ExcKw X.prog X.w X.K X.mg X.base C f kn) (gd : X.A.guards = some []) (room : Room 2 X.A) (J : Inv X pins σ H s) (r : RelV v u)
    (h : ∀ a dx, H a = none → H dx = none → dx ≠ a → Q (.ref a) (upd (upd H dx (exd dx (fieldsX [f] [v]))) a (exo a (He.ga X.K C) (some dx)))) :
    wpAny (model X.prog X.w) X.A (call (.ref (He.ga X.K C)) [] [(kn, u)]) (EP X pins σ Q) X.xe s := by
  obtain ⟨fd, F1, hb⟩ := D.ex
  obtain ⟨nm, N, qn, bs, bm, hdct, sn, sub, ab, col, dd, k0, k1, k2, k3, k5, hC, hT⟩ := PySem.W.excInit_of J.kIn D.ok.cl.ini
  obtain ⟨hp, g, dr, tk, os⟩ := s
  have big : hp.objs.size ≤ hp.objs.size + 1 := Nat.le_succ _
  have nw : H (hp.objs.size + 1) = none := J.hok.fresh big
  have kk : ∀ b o, hp.get? b = some o → ((hp.push (PySem.W.kdv_tup [])).push (PySem.HandSPX.excO (He.ga X.K C) hp.objs.size)).get? b = some o := fun b o z => Heap.get?_push_of_some _ (Heap.get?_push_of_some _ z)
  have at_ : ((hp.push (PySem.W.kdv_tup [])).push (PySem.HandSPX.excO (He.ga X.K C) hp.objs.size)).get? (hp.objs.size + 1) = some (PySem.HandSPX.excO (He.ga X.K C) hp.objs.size) := by heap_get
  have J2 : Inv X pins σ (upd H (hp.objs.size + 1) (exo (hp.objs.size + 1) (He.ga X.K C) none)) ⟨(hp.push (PySem.W.kdv_tup [])).push (PySem.HandSPX.excO (He.ga X.K C) hp.objs.size), g, dr, tk, os⟩ := J.laid (t' := tk) kk big (exo_ok at_)
  have rr : Vals [V.ref (hp.objs.size + 1), v] [Value.ref (hp.objs.size + 1), u] := .cons rfl (.cons r .nil)
  have want : spX X.K [f] [V.ref (hp.objs.size + 1), v] (upd H (hp.objs.size + 1) (exo (hp.objs.size + 1) (He.ga X.K C) none)) (fun v H2 => v = .non ∧ Q (.ref (hp.objs.size + 1)) H2) (fun _ _ _ => False) := by
    refine ⟨_, _, [v], rfl, rfl, D.ok.cl, D.ok.no, upd_same, fun dx hn hne => ⟨rfl, ?_⟩⟩
    have hd : H dx = none := by rw [upd_ne hne] at hn; exact hn
    have q := h (hp.objs.size + 1) dx nw hd hne
    have e : upd (upd (upd H (hp.objs.size + 1) (exo (hp.objs.size + 1) (He.ga X.K C) none)) dx (exd dx (fieldsX [f] [v]))) (hp.objs.size + 1) (exo (hp.objs.size + 1) (He.ga X.K C) (some dx)) = upd (upd H dx (exd dx (fieldsX [f] [v]))) (hp.objs.size + 1) (exo (hp.objs.size + 1) (He.ga X.K C) (some dx)) := by
      funext b
      unfold upd
      by_cases z : b = hp.objs.size + 1
      · rw [if_pos z, if_pos z]
      · rw [if_neg z, if_neg z, if_neg z]
    rw [e]; exact q
  refine wpAny_call (PySem.HandSPX.call_kw F.excBase_Exception hT hC (PySem.W.looks_findIn J.kIn D.ok.ii) (fun self => PySem.W.bind_fn J.kIn self D.ok.ti)
    (codeAny_mono (F1.go _ X.stack _ _ ⟨[Value.ref (hp.objs.size + 1)], [(kn, u)]⟩ [Value.ref (hp.objs.size + 1), u] _ _ (fun _ _ _ => False) gd ((room.mono (by decide : 1 + 1 ≤ 2)).make (He.ga X.K C) [] [(kn, u)]) (J2.env0.make (He.ga X.K C) [] [(kn, u)]) (hb _ _ _) rr want) fun res s2 hres => ?_))
  match res, hres with
  | .error e, z => exact (passL (X := X) pins σ _ _ e s2 J2 z)
  | .ok (.ret u), z =>
    obtain ⟨v, H', J3, rv, ev, q3⟩ := J2.after z
    subst ev
    exact ⟨rv, ⟨V.ref (hp.objs.size + 1), H', J3, rfl, q3⟩⟩
  | .ok .next, z => exact False.elim z
  | .ok .brk, z => exact False.elim z
  | .ok .cont, z => exact False.elim z
section
variable {X : Cy}
theorem de_excK {x kn f : Str} {p pos kpos : Pos} {e : Expr} {we : WE} (D : ExcKw X.X.prog X.X.w X.X.K X.X.mg X.X.base x f kn) (hg : X.X.A.guards = some []) (room : Room 2 X.X.A) (gl : Gl X.X x) (hm : X.X.mg x = some (.ref (He.ga X.X.K x)))
    (he : DE X e we) (hdb : (x == ("__debug__" : Str)) = false := by decide) : DE X (.Call (.Name x p) [] [⟨some kn, e, kpos⟩] pos) (wExc x [f] (wCons we wNil)) := by
  obtain ⟨t, pe, le⟩ := he
  have pk : PK X.X [⟨some kn, e, kpos⟩] (tCons t tNil) := pk_cons pe pk_nil
  refine ⟨fun σ H Q => t σ H fun v H1 => ∀ a dx, H1 a = none → H1 dx = none → dx ≠ a → Q (.ref a) (upd (upd H1 dx (exd dx (fieldsX [f] [v]))) a (exo a (He.ga X.X.K x) (some dx))), ⟨fun pins s σ H Q J h => wpAny_Call_Name_kw (ld_glob J gl hm ?_ hdb)⟩, fun W σ ρ ms Q k hK Rl O hw q => ?_⟩
  · refine PySem.W.callWith_KW0 (h₀ := X.X.base) J.ok.mod.kin D.ok.cl.kp rfl ?_ rfl
    refine thn (pk.run pos pins s σ H (fun zs H1 => match zs with | [v] => (∀ a dx, H1 a = none → H1 dx = none → dx ≠ a → Q (.ref a) (upd (upd H1 dx (exd dx (fieldsX [f] [v]))) a (exo a (He.ga X.X.K x) (some dx)))) | _ => False) J h) fun ws s2 ⟨zs, H2, J2, rz, q2⟩ => ⟨J2.kIn, ?_⟩
    match zs, rz, q2 with
    | [v], .cons r1 .nil, q3 => exact run_excK D hg room J2 r1 q3
  · refine le W σ ρ ms _ _ hK Rl O hw fun W1 v d ms1 e1 O1 ok1 h1 => ?_
    intro a dx ha hdx hne
    have hKK : X.X.K = W1.K := (congrArg Sg.K (e1.s.trans hK)).symm
    obtain ⟨O2, e2⟩ := O1.lay (o := exd dx (fieldsX [f] [v])) hdx
    have ha2 : (W1.lay dx (exd dx (fieldsX [f] [v]))).H a = none := by show upd W1.H dx _ a = none; rw [upd_ne (fun z => hne z.symm)]; exact ha
    obtain ⟨O3, e3⟩ := O2.lay (o := exo a (He.ga X.X.K x) (some dx)) ha2
    refine q _ (.ref a) (.exc x (fieldsD [f] [d])) ms1 ((e1.trans e2).trans e3) O3 (.exc (d := dx) (xs := fieldsX [f] [v]) ?_ ?_ ?_) h1.2.2
    · show upd _ a _ a = some (exo a (He.ga W1.K x) (some dx)); rw [← hKK]; exact upd_same
    · show upd (upd W1.G dx _) a _ dx = _; rw [upd_ne hne]; exact upd_same
    · exact fields_ok (fs := [f]) (up_vs (e2.trans e3) (.cons ok1 .nil))
/-! // by a great divisor -/
theorem do_fdivW : OpR X.X (binaryOp .FloorDiv) (rI CDivW fun i j => .int (i / j)) ∧ LR2 X.S (rI CDivW fun i j => .int (i / j)) (wII L2.CDivW fun i j => .int (i / j)) := ⟨op_fdivW, lr_I fun _ _ _ _ _ => .int _⟩
end
end Sy
namespace Sy
open PySem PySem.Spec PyProof.Rows L2
/-! ## raise C(..) of an own class -/
def tMkX (C : Addr) (fs : List Str) (ta : TA) : L2.St → Hp → XK → Prop := fun σ H Q => ta σ H fun vs H1 => vs.length = fs.length ∧ vs.length ≤ 1000 ∧ ∀ dx, H1 dx = none → Q (.ref C) (some dx) (upd H1 dx (.xd (fieldsX fs vs)))
theorem run_mkX {X : Cx} {C : Str} {fs : List Str} {pins : List (Addr × Obj)} {σ : L2.St} {H : Hp} {s : Shared} {Q : XK} {us : List Value} {vs : List V} (D : ExcOk X.prog X.w X.K X.mg X.base C fs) (gd : X.A.guards = some []) (room : Room 2 X.A) (J : Inv X pins σ H s) (r : Vals vs us) (hl : vs.length = fs.length) (hz0 : vs.length ≤ 1000)
    (h : ∀ dx, H dx = none → Q (.ref (He.ga X.K C)) (some dx) (upd H dx (.xd (fieldsX fs vs)))) :
    wpAny (model X.prog X.w) X.A (call (.ref (He.ga X.K C)) us) (MkP X pins σ Q) X.xe s := by
  obtain ⟨fd, ps, F1, hps, hb⟩ := D.ex
  obtain ⟨nm, N, qn, bs, bm, hdct, sn, sub, ab, col, dd, k0, k1, k2, k3, k5, hC, hT⟩ := PySem.W.excInit_of J.kIn D.cl.ini
  obtain ⟨hp, g, dr, tk, os⟩ := s
  have big : hp.objs.size ≤ hp.objs.size + 1 := Nat.le_succ _
  have nw : H (hp.objs.size + 1) = none := J.hok.fresh big
  have kk : ∀ b o, hp.get? b = some o → ((hp.push (PySem.W.kdv_tup us)).push (PySem.HandSPX.excO (He.ga X.K C) hp.objs.size)).get? b = some o := fun b o z => Heap.get?_push_of_some _ (Heap.get?_push_of_some _ z)
  have at_ : ((hp.push (PySem.W.kdv_tup us)).push (PySem.HandSPX.excO (He.ga X.K C) hp.objs.size)).get? (hp.objs.size + 1) = some (PySem.HandSPX.excO (He.ga X.K C) hp.objs.size) := by heap_get
  have J2 : Inv X pins σ (upd H (hp.objs.size + 1) (exo (hp.objs.size + 1) (He.ga X.K C) none)) ⟨(hp.push (PySem.W.kdv_tup us)).push (PySem.HandSPX.excO (He.ga X.K C) hp.objs.size), g, dr, tk, os⟩ := J.laid (t' := tk) kk big (exo_ok at_)
  have rr : Vals (V.ref (hp.objs.size + 1) :: vs) (Value.ref (hp.objs.size + 1) :: us) := .cons rfl r
  have hz : us.length ≤ sizeLine := by rw [← Paired.length r, sizeLine_eq]; omega
  have want : spX X.K fs (V.ref (hp.objs.size + 1) :: vs) (upd H (hp.objs.size + 1) (exo (hp.objs.size + 1) (He.ga X.K C) none))
      (fun v H2 => v = .non ∧ ∃ (d : Addr) (xs : List (Str × V)), H2 (hp.objs.size + 1) = some (exo (hp.objs.size + 1) (He.ga X.K C) (some d)) ∧ H2 d = some (exd d xs) ∧ H d = none ∧ Q (.ref (He.ga X.K C)) (some d) (upd (del H2 (hp.objs.size + 1)) d (.xd xs))) (fun _ _ _ => False) := by
    refine ⟨_, _, vs, rfl, hl, D.cl, D.no, upd_same, fun dx hn hne => ⟨rfl, ?_⟩⟩
    have hd : H dx = none := by rw [upd_ne hne] at hn; exact hn
    refine ⟨dx, fieldsX fs vs, upd_same, by rw [upd_ne hne]; exact upd_same, hd, ?_⟩
    have q := h dx hd
    have e : upd (del (upd (upd (upd H (hp.objs.size + 1) (exo (hp.objs.size + 1) (He.ga X.K C) none)) dx (exd dx (fieldsX fs vs))) (hp.objs.size + 1) (exo (hp.objs.size + 1) (He.ga X.K C) (some dx))) (hp.objs.size + 1)) dx (.xd (fieldsX fs vs)) = upd H dx (.xd (fieldsX fs vs)) := by
      funext b
      unfold upd del
      by_cases x1 : b = dx
      · rw [if_pos x1, if_pos x1]
      · rw [if_neg x1, if_neg x1]
        by_cases x2 : b = hp.objs.size + 1
        · rw [if_pos x2, x2, nw]
        · simp only [x1, x2, if_false]
    rw [e]; exact q
  have hln : (Value.ref (hp.objs.size + 1) :: us).length = ps.length := by rw [List.length_cons, ← Paired.length r, hl, hps]
  have hb' := hb ⟨(hp.push (PySem.W.kdv_tup us)).push (PySem.HandSPX.excO (He.ga X.K C) hp.objs.size), g, dr, tk, os⟩ (Value.ref (hp.objs.size + 1) :: us) J2.kIn (by rw [List.append_nil]; exact hln)
  rw [List.append_nil] at hb'
  refine wpAny_call (PySem.HandSPX.call_own F.excBase_Exception hT hC (PySem.W.looks_findIn J.kIn D.ii) (fun self => PySem.W.bind_fn J.kIn self D.ti) hz
    (codeAny_mono (F1.go _ X.stack _ _ ⟨Value.ref (hp.objs.size + 1) :: us, []⟩ (Value.ref (hp.objs.size + 1) :: us) _ _ (fun _ _ _ => False) gd ((room.mono (by decide : 1 + 1 ≤ 2)).make (He.ga X.K C) us []) (J2.env0.make (He.ga X.K C) us []) hb' rr want) fun res s2 hres => ?_))
  match res, hres with
  | .error e, z => exact (passL (X := X) pins σ _ _ e s2 J2 z)
  | .ok (.ret u), z =>
    obtain ⟨v, H2, os2, bare2, un2, hok2, rv, ev, d, xs, ea, ed, hd1, q2⟩ := z
    subst ev
    obtain ⟨h2, g2, d2, t2, os'⟩ := s2
    exact ⟨rv, mk_end (raises_own D.cl.sb D.cl.ty) J big kk un2 hok2 os2 bare2 ea ed hd1 q2⟩
  | .ok .next, z => exact False.elim z
  | .ok .brk, z => exact False.elim z
  | .ok .cont, z => exact False.elim z
section
variable {X : Cy}
@[simp] def wRaise (C : Str) (fs : List Str) (wa : WA) : WS := fun E ρ ms => wa ρ ms fun rs ms1 => rs.length = fs.length ∧ rs.length ≤ 1000 ∧ ρ.ex ρ.sl C (fieldsD fs rs) ms1
theorem ds_raise {x : Str} {p pos rpos : Pos} {e : Expr} {es : List Expr} {fs : List Str} {wa : WA} (D : ExcOk X.X.prog X.X.w X.X.K X.X.mg X.X.base x fs) (hg : X.X.A.guards = some []) (room : Room 2 X.X.A) (hc : X.X.calm = true) (gl : Gl X.X x) (hm : X.X.mg x = some (.ref (He.ga X.X.K x)))
    (ha : DA X (e :: es) wa) (hdb : (x == ("__debug__" : Str)) = false := by decide) (he : starEach (e :: es) X.X.env = (false, eval e X.X.env) :: starEach es X.X.env := by rfl) (hpl : (backTo pos (starEach es X.X.env)).any (·.1) = false := by rfl) :
    DS X (.Raise (some (.Call (.Name x p) (e :: es) [] pos)) none rpos) (wRaise x fs wa) := by
  obtain ⟨t, pa, la⟩ := ha
  have mk : PMk X.X (.Call (.Name x p) (e :: es) [] pos) (tMkX (He.ga X.X.K x) fs t) := fun pins s σ H Q J h =>
    wpAny_Call_Name_kw (ld_glob J gl hm (PySem.W.callWith_K (h₀ := X.X.base) J.ok.mod.kin D.cl.kp (thn (pa.run pos pins s σ H _ J h) fun us s1 ⟨vs, H1, J1, r, z⟩ => ⟨J1.kIn, run_mkX D hg room J1 r z.1 z.2.1 z.2.2⟩) he hpl) hdb)
  refine ⟨_, ps_raise hc X.tk mk, fun W σ ρ ms D' E hK Rl O hw ok => ?_⟩
  refine la W σ ρ ms _ _ hK Rl O hw fun W1 vs rs ms1 e1 O1 ok1 h1 => ⟨by rw [ok1.length]; exact h1.1, by rw [ok1.length]; exact h1.2.1, fun dx hdx => ?_⟩
  obtain ⟨O2, e2⟩ := O1.lay (o := .xd (fieldsX fs vs)) hdx
  have hKK : X.X.K = W1.K := (congrArg Sg.K (e1.s.trans hK)).symm
  have z := Rl.ex (W1.lay dx (.xd (fieldsX fs vs))) σ ρ.sl x dx (fieldsX fs vs) (fieldsD fs rs) ms1 (e1.trans e2) O2 ((Rl.mono (e1.trans e2)).sl) upd_same (fields_ok (up_vs e2 ok1)) h1.2.2
  have hZ : W.S.Z = X.Z := congrArg Sg.Z hK
  have hW : W.K = X.X.K := congrArg Sg.K hK
  rw [hZ, hW] at z
  exact z
end
end Sy
/-! ## try: clauses with and without `as` -/
namespace Sy
open PySem PySem.Spec PyProof.Rows L2
abbrev Cl := Value × Option Nat × (Addr → Value → Option Addr → TS)
def offE (i : Nat) (D : Ends) : Ends := { nx := fun σ' H' => D.nx (σ'.set i none) H', rt := D.rt, bk := fun σ' H' => D.bk (σ'.set i none) H', ct := fun σ' H' => D.ct (σ'.set i none) H' }
def wCls (K : PySem.W.Frag) (Wo : WX) (D : Ends) : List Cl → WX
  | [] => Wo
  | (c, none, ts) :: r => fun cls d σ H => ∃ b, PySem.W.exmOne K cls c = some b ∧ (b = true → ∀ a, H a = none → ts a cls d D σ H) ∧ (b = false → wCls K Wo D r cls d σ H)
  | (c, some i, ts) :: r => fun cls d σ H => ∃ b, PySem.W.exmOne K cls c = some b ∧ (b = true → ∀ a, H a = none → ts a cls d (offE i D) (σ.set i (some (.ref a))) H) ∧ (b = false → wCls K Wo D r cls d σ H)
inductive ClsOk (X : Cx) : List ExceptHandler → List Cl → Prop
  | nil : ClsOk X [] []
  | no {x : Str} {c : Value} {ts : Addr → Value → Option Addr → TS} {b₀ : Stmt} {suite : List Stmt} {np hp : Pos} {hds : List ExceptHandler} {l : List Cl} (hc : Names X x c)
      (hsu : ∀ (a : Addr) (oe : Obj) (cls : Value) (d : Option Addr) (pn : List (Addr × Obj)), Zc cls d oe → (∃ vs, oe.data = .fields vs) → PSs (X.suite a ((a, oe) :: pn)) (b₀ :: suite) (ts a cls d)) (r : ClsOk X hds l) :
      ClsOk X (.ExceptHandler (some (.Name x np)) none (b₀ :: suite) hp :: hds) ((c, none, ts) :: l)
  | as {x n : Str} {i : Nat} {c : Value} {ts : Addr → Value → Option Addr → TS} {b₀ : Stmt} {suite : List Stmt} {np hp : Pos} {hds : List ExceptHandler} {l : List Cl} (hN : X.N.Nodup) (hi : X.N[i]? = some n) (hln : X.env.kindOf n = some .local) (hc : Names X x c)
      (hsu : ∀ (a : Addr) (oe : Obj) (cls : Value) (d : Option Addr) (pn : List (Addr × Obj)), Zc cls d oe → (∃ vs, oe.data = .fields vs) → PSs (X.suite a ((a, oe) :: pn)) (b₀ :: suite) (ts a cls d)) (r : ClsOk X hds l) :
      ClsOk X (.ExceptHandler (some (.Name x np)) (some n) (b₀ :: suite) hp :: hds) ((c, some i, ts) :: l)
theorem ps_try {X : Cx} {body : List Stmt} {h0 : ExceptHandler} {hds : List ExceptHandler} {l : List Cl} {pos : Pos} {tb : WX → TS} {Wo : WX} (hs : X.stack = X.env :: X.outer) (hf : X.env.frame = some X.env.locals) (tk : Takes X Wo)
    (hb : ∀ (W : WX) (pn : List (Addr × Obj)) (xe : Value → Shared → Prop), Takes (X.tr pn xe) W → PassesOwn (model X.prog X.w) X.A X.env xe → PSs (X.tr pn xe) body (tb W))
    (hh : ClsOk X (h0 :: hds) l) : PS X (.Try body (h0 :: hds) [] [] pos) (fun D σ H => tb (wCls X.K Wo D l) D σ H) := by
  refine ⟨fun pins s σ H D J0 h => ?_⟩
  have ok := J0.ok
  have frm : X.A.frames = some (X.env :: X.outer) := by rw [ok.frames, hs]
  refine wpAny_Try_except ?_
  refine wpAny_mono ((hb (wCls X.K Wo D l) (X.pn ++ pins) (fun e s1 => wpAny (model X.prog X.w) X.A (noteFrame e X.env) (fun _ s2 => wpAny (model X.prog X.w) X.A (setFlight e none) (fun _ s3 =>
    wpAny (model X.prog X.w) X.A (handleBy e X.env (h0 :: hds)) (SP X pins D) X.xe s3) X.xe s2) X.xe s1) (fun u s' xx => ?_) PassesOwn.looking).run [] s σ H D (J0.toTry _) h) (fun f s1 hsp => ?_) (fun e s1 he => he)
  · obtain ⟨a, B, sI, pins', σ', H', cls, d, rfl, J', nb, up, sky, na, os, ag, w⟩ := xx
    have J : Inv X pins σ' H' sI := J'.ofTry ok
    have sky2 : Sky B (X.env :: X.outer) a (Zc cls d) X.env.locals s'.heap := by rw [← hs]; exact sky
    show wpAny (model X.prog X.w) X.A (noteFrame (.ref a) X.env) _ _ _
    refine Sky.land Zc.steady frm hf sky2 fun h3 fl3 up3 => ?_
    have J3 : Inv X pins σ' H' { s' with heap := h3 } := J.landed nb fl3.1 (up.trans up3) os ag
    obtain ⟨oe3, vs3, he3, hz3, hd3⟩ := fl3.there
    have notin : a ∉ frs (X.env :: X.outer) := fun hm => by
      obtain ⟨_, o', e', hnf⟩ := fl3.2.2.1.mem hm
      rw [he3] at e'; cases e'
      exact hnf _ hd3
    have nL : a ≠ X.env.locals := fun z => notin (List.mem_filterMap.mpr ⟨X.env, List.mem_cons_self, by rw [hf, z]⟩)
    have nF : a ∉ X.fs := fun hm => by
      obtain ⟨e, he, q⟩ := List.mem_filterMap.mp hm
      exact notin (List.mem_filterMap.mpr ⟨e, List.mem_cons_of_mem _ he, q⟩)
    have S3 := J3.suite he3 hd3 na nL nF
    have LT : PySem.W.Looks (model X.prog X.w) h3 (typeOf (.ref a)) cls := fun A Q E s k q => wpAny_typeOf_ref (k _ _ he3) (by rw [hz3.1]; exact q)
    have test : ∀ {x : Str} {c : Value} {np : Pos}, Names X x c → ∀ {Q : Value → Shared → Prop} {E : Value → Shared → Prop}, Q c { s' with heap := h3 } → wpAny (model X.prog X.w) (X.A.mark (some (.ref a))) (eval (.Name x np) X.env) Q E { s' with heap := h3 } := fun {x c np} hc {Q E} q => by
      obtain ⟨hg, hdbg, hm | ⟨hm, hv, hnn⟩⟩ := hc
      · exact ld_glob (X := X.suite a ((a, oe3) :: (X.pn ++ pins))) S3 hg hm q hdbg
      · exact ld_blt (X := X.suite a ((a, oe3) :: (X.pn ++ pins))) S3 hg hm hv q hnn hdbg
    have go : ∀ {hds' : List ExceptHandler} {l' : List Cl}, ClsOk X hds' l' → wCls X.K Wo D l' cls d σ' H' → wpAny (model X.prog X.w) X.A (handleBy (.ref a) X.env hds') (SP X pins D) X.xe { s' with heap := h3 } := by
      intro hds' l' hk
      induction hk with
      | nil =>
        intro w
        refine wpAny_handleBy_nil ?_
        obtain ⟨k1, k2, k3, oe, vs, T, oT, ts', he, hz, hd, h1, hr⟩ := id fl3
        unfold PySem.passOn
        refine wpAny_bind (wpAny_field he hd h1 ?_)
        rw [if_neg (show ¬ ((Value.ref T == Value.none) = true) from by simp)]
        have fin : wpAny (model X.prog X.w) X.A (setFlight (.ref a) X.env.frame) (fun _ s4 => wpAny (model X.prog X.w) X.A (throw (.ref a) : Sem Flow) (SP X pins D) X.xe s4) X.xe { s' with heap := h3 } := by
          rw [hf]
          refine HandSPX.setFlight_upZ fl3 fun h4 hh4 up4 => wpAny_throw (tk _ _ ?_)
          exact ⟨a, B, sI, pins, σ', H', cls, d, rfl, J, nb, (up.trans up3).trans up4, .inr (.inr (by rw [hs]; exact hh4)), na, os, ag, w⟩
        first
          | exact wpAny_bind (wpAny_pure (wpAny_bind fin))
          | exact wpAny_bind fin
      | @no x c ts b₀ suite np hp hds2 l2 hc hsu r ih =>
        intro w
        obtain ⟨b, hb1, hyes, hno⟩ := w
        refine wpAny_handleBy_cons (codeAny_handlers_test ?_) (by intro q; cases q)
        have LM := PySem.W.exm_one (M := model X.prog X.w) (J3.kIn) LT hb1
        refine test hc (LM.here ?_)
        cases b with
        | true =>
          refine codeAny_handlers_suite ?_
          refine HandSPX.lands_againZ fl3 fun h4 fl4 up4 => ?_
          have J4 : Inv X pins σ' H' { s' with heap := h4 } := J.landed nb fl4.1 ((up.trans up3).trans up4) os ag
          obtain ⟨oe4, vs4, he4, hz4, hd4⟩ := fl4.there
          have S4 := J4.suite he4 hd4 na nL nF
          refine wpAny_mono ((hsu a oe4 cls d (X.pn ++ pins) hz4 ⟨_, hd4⟩).run [] _ _ H' _ S4 (hyes rfl a na)) (fun f s6 hsp => ?_) (fun _ _ z => False.elim z)
          cases f with
          | ret u => obtain ⟨v6, σ6, H6, S6, r6, q6⟩ := hsp; exact ⟨_, _, _, S6.unsuite ok, r6, q6⟩
          | next => obtain ⟨σ6, H6, S6, q6⟩ := hsp; exact ⟨_, _, S6.unsuite ok, q6⟩
          | brk => obtain ⟨σ6, H6, S6, q6⟩ := hsp; exact ⟨_, _, S6.unsuite ok, q6⟩
          | cont => obtain ⟨σ6, H6, S6, q6⟩ := hsp; exact ⟨_, _, S6.unsuite ok, q6⟩
        | false =>
          show wpAny _ X.A (handleBy (.ref a) X.env hds2) _ _ _
          exact ih (hno rfl)
      | @as x n i c ts b₀ suite np hp hds2 l2 hN hi hln hc hsu r ih =>
        intro w
        obtain ⟨b, hb1, hyes, hno⟩ := w
        refine wpAny_handleBy_cons (codeAny_handlers_test ?_) (by intro q; cases q)
        have LM := PySem.W.exm_one (M := model X.prog X.w) (J3.kIn) LT hb1
        refine test hc (LM.here ?_)
        cases b with
        | true =>
          refine codeAny_handlers_suite_as ?_
          refine HandSPX.lands_againZ fl3 fun h4 fl4 up4 => ?_
          have J4 : Inv X pins σ' H' { s' with heap := h4 } := J.landed nb fl4.1 ((up.trans up3).trans up4) os ag
          obtain ⟨oe4, vs4, he4, hz4, hd4⟩ := fl4.there
          have S4 := J4.suite he4 hd4 na nL nF
          refine store_ok (X := X.suite a ((a, oe4) :: (X.pn ++ pins))) (v := .ref a) S4 hN hi (.inl hln) rfl (fun s5 S5 => ?_) (.inr hln)
          refine wpAny_mono ((hsu a oe4 cls d (X.pn ++ pins) hz4 ⟨_, hd4⟩).run [] s5 _ H' _ S5 (hyes rfl a na)) (fun f s6 hsp => ?_) (fun _ _ z => False.elim z)
          have done : ∀ {σ6 : L2.St} {H6 : Hp} {Q : Shared → Prop}, Inv (X.suite a ((a, oe4) :: (X.pn ++ pins))) [] σ6 H6 s6 → (∀ s7, Inv X pins (σ6.set i none) H6 s7 → Q s7) →
              wpAny (model X.prog X.w) X.A (do bindName X.env n .none; unbindBehindTheSuite X.env n hp) (fun _ s7 => Q s7) X.xe s6 := fun {σ6 H6 Q} S6 hq => gone_ok (S6.unsuite ok) hN hi hln hq
          cases f with
          | ret u => obtain ⟨v6, σ6, H6, S6, r6, q6⟩ := hsp; exact done S6 fun s7 J7 => ⟨_, _, _, J7, r6, q6⟩
          | next => obtain ⟨σ6, H6, S6, q6⟩ := hsp; exact done S6 fun s7 J7 => ⟨_, _, J7, q6⟩
          | brk => obtain ⟨σ6, H6, S6, q6⟩ := hsp; exact done S6 fun s7 J7 => ⟨_, _, J7, q6⟩
          | cont => obtain ⟨σ6, H6, S6, q6⟩ := hsp; exact done S6 fun s7 J7 => ⟨_, _, J7, q6⟩
        | false =>
          show wpAny _ X.A (handleBy (.ref a) X.env hds2) _ _ _
          exact ih (hno rfl)
    exact go hh w
  · cases f with
    | ret u => obtain ⟨v, σ', H', J', r, q⟩ := hsp; exact ⟨v, σ', H', J'.ofTry ok, r, q⟩
    | next => obtain ⟨σ', H', J', q⟩ := hsp; exact wpAny_execs_nil ⟨σ', H', J'.ofTry ok, q⟩
    | brk => obtain ⟨σ', H', J', q⟩ := hsp; exact ⟨σ', H', J'.ofTry ok, q⟩
    | cont => obtain ⟨σ', H', J', q⟩ := hsp; exact ⟨σ', H', J'.ofTry ok, q⟩
end Sy
namespace Sy
open PySem PySem.Spec PyProof.Rows L2
/-! ## try over data -/
/-- the reading itself as a wish -/
def tOf (S : Sg) (w : WS) : TS := fun D σ H => ∃ (W : Wd) (ρ : Env) (ms : Ms) (E : WEnds), W.S = S ∧ W.H = H ∧ Rel W σ ρ ∧ Own W ms ∧ w E ρ ms ∧ EndsOk W E D
theorem DSs.pss {X : Cy} {sts : List Stmt} {w : WS} (h : DSs X sts w) : PSs X.X sts (tOf X.S w) := by
  obtain ⟨t, p, l⟩ := h
  refine ⟨fun pins s σ H D J ⟨W, ρ, ms, E, hS, hH, R, O, hw, ok⟩ => ?_⟩
  subst hH
  exact p.run pins s σ W.H D J (l W σ ρ ms D E hS R O hw ok)
/-- what an except clause answers of an own class -/
def XtOk (K : PySem.W.Frag) (xt : Str → Kd → Option Bool) : Prop := ∀ C b r, xt C b = some r → PySem.W.exmOne K (.ref (He.ga K C)) (b.val K) = some r
abbrev Wcl := Kd × Option Nat × WS
def tryE (ρ : Env) (E : WEnds) : WEnds := { nx := fun ρ' ms => E.nx { ρ' with ex := ρ.ex } ms, rt := E.rt, bk := fun ρ' ms => E.bk { ρ' with ex := ρ.ex } ms, ct := fun ρ' ms => E.ct { ρ' with ex := ρ.ex } ms }
def offS (o : Option Nat) (sl : Sl) : Sl := match o with
  | none => sl
  | some i => sl.set i none
def suiE (o : Option Nat) (ρ : Env) (E : WEnds) : WEnds := { nx := fun ρ' ms => E.nx { ρ with sl := offS o ρ'.sl } ms, rt := E.rt, bk := fun ρ' ms => E.bk { ρ with sl := offS o ρ'.sl } ms, ct := fun ρ' ms => E.ct { ρ with sl := offS o ρ'.sl } ms }
@[simp] def clW (xt : Str → Kd → Option Bool) (E : WEnds) (ρ : Env) : List Wcl → KX
  | [] => ρ.ex
  | (b, none, ws) :: r => fun sl C fs ms => match xt C b with
    | some true => ∀ a, ws (suiE none ρ E) ⟨sl, neverX, C, (Str.empty, .ref a) :: fs⟩ ms
    | some false => clW xt E ρ r sl C fs ms
    | none => False
  | (b, some i, ws) :: r => fun sl C fs ms => match xt C b with
    | some true => ∀ a, ws (suiE (some i) ρ E) ⟨sl.set i (some (.ref a)), neverX, C, (Str.empty, .ref a) :: fs⟩ ms
    | some false => clW xt E ρ r sl C fs ms
    | none => False
@[simp] def wTry (xt : Str → Kd → Option Bool) (wb : WS) (cl : List Wcl) : WS := fun E ρ ms => wb (tryE ρ E) { ρ with ex := clW xt E ρ cl } ms
def suiS (K : PySem.W.Frag) (a : Addr) (cls : Value) (d : Option Addr) : Sg := ⟨K, never, some (a, cls, d)⟩
def toCl (K : PySem.W.Frag) : Wcl → Cl
  | (b, o, ws) => (b.val K, o, fun a cls d => tOf (suiS K a cls d) ws)
section
variable {K : PySem.W.Frag} {xt : Str → Kd → Option Bool} {W : Wd} {ρ : Env} {E : WEnds} {D : Ends} {σ0 : L2.St}
def offD : Option Nat → Ends → Ends
  | none, D => D
  | some i, D => offE i D
theorem sui_ends (R : Rel W σ0 ρ) (ok : EndsOk W E D) (o : Option Nat) {W3 : Wd} (e : Ext0 W W3) (hp : W3.P = W.P) : EndsOk W3 (suiE o ρ E) (offD o D) := by
  have back : ∀ {W4 : Wd}, Ext W3 W4 → Ext W { W4 with S := W.S } := fun e' => ⟨rfl, e.ex.trans e'.ex, fun i x h => e'.adr i x (e.adr i x h), fun x o u h => e'.frz x o u (e.frz x o u h), e'.p.trans hp⟩
  have hk : ∀ {W4 : Wd}, Ext W3 W4 → W.S.K = W4.S.K := fun {W4} e' => by
    have h1 : W4.S.K = W3.S.K := by rw [e'.s]
    exact (h1.trans e.k).symm
  have rl : ∀ {W4 : Wd} {σ4 : L2.St} {sl4 : Sl}, Ext W3 W4 → RelS W4 σ4 sl4 → RelS { W4 with S := W.S } σ4 sl4 := fun e' r => r.low (sg_low (hk e'))
  have rv : ∀ {W4 : Wd} {v : V} {r : Dat}, Ext W3 W4 → RvOk W4 v r → RvOk { W4 with S := W.S } v r := fun {W4 v r} e' z => by
    show Dt W.S.K W4.G W4.A v r
    rw [hk e']; exact z
  cases o with
  | none => exact ⟨fun W4 σ4 ρ4 ms4 e4 O4 R4 h4 => ok.nx { W4 with S := W.S } σ4 { ρ with sl := ρ4.sl } ms4 (back e4) (O4.sg (hk e4)) ⟨rl e4 R4.sl, (R.mono (back e4)).ex, (R.mono (back e4)).hd⟩ h4,
      fun W4 v r ms4 e4 O4 r4 h4 => ok.rt { W4 with S := W.S } v r ms4 (back e4) (O4.sg (hk e4)) (rv e4 r4) h4,
      fun W4 σ4 ρ4 ms4 e4 O4 R4 h4 => ok.bk { W4 with S := W.S } σ4 { ρ with sl := ρ4.sl } ms4 (back e4) (O4.sg (hk e4)) ⟨rl e4 R4.sl, (R.mono (back e4)).ex, (R.mono (back e4)).hd⟩ h4,
      fun W4 σ4 ρ4 ms4 e4 O4 R4 h4 => ok.ct { W4 with S := W.S } σ4 { ρ with sl := ρ4.sl } ms4 (back e4) (O4.sg (hk e4)) ⟨rl e4 R4.sl, (R.mono (back e4)).ex, (R.mono (back e4)).hd⟩ h4⟩
  | some i => exact ⟨fun W4 σ4 ρ4 ms4 e4 O4 R4 h4 => ok.nx { W4 with S := W.S } (σ4.set i none) { ρ with sl := ρ4.sl.set i none } ms4 (back e4) (O4.sg (hk e4)) ⟨(rl e4 R4.sl).unset i, (R.mono (back e4)).ex, (R.mono (back e4)).hd⟩ h4,
      fun W4 v r ms4 e4 O4 r4 h4 => ok.rt { W4 with S := W.S } v r ms4 (back e4) (O4.sg (hk e4)) (rv e4 r4) h4,
      fun W4 σ4 ρ4 ms4 e4 O4 R4 h4 => ok.bk { W4 with S := W.S } (σ4.set i none) { ρ with sl := ρ4.sl.set i none } ms4 (back e4) (O4.sg (hk e4)) ⟨(rl e4 R4.sl).unset i, (R.mono (back e4)).ex, (R.mono (back e4)).hd⟩ h4,
      fun W4 σ4 ρ4 ms4 e4 O4 R4 h4 => ok.ct { W4 with S := W.S } (σ4.set i none) { ρ with sl := ρ4.sl.set i none } ms4 (back e4) (O4.sg (hk e4)) ⟨(rl e4 R4.sl).unset i, (R.mono (back e4)).ex, (R.mono (back e4)).hd⟩ h4⟩
theorem cl_go (T : XtOk K xt) (hKW : W.K = K) (R : Rel W σ0 ρ) (ok : EndsOk W E D) : ∀ (cl : List Wcl) (W2 : Wd) (σ : L2.St) (sl : Sl) (C : Str) (dd : Addr) (xs : List (Str × V)) (fs : List (Str × Dat)) (ms : Ms), Ext0 W W2 → W2.P = W.P → Own W2 ms → RelS W2 σ sl → W2.G dd = some (.xd xs) → Dtf W2.S.K W2.G W2.A xs fs → clW xt E ρ cl sl C fs ms →
    wCls K W.S.Z D (cl.map (toCl K)) (.ref (He.ga K C)) (some dd) σ W2.H := by
  intro cl
  have back : ∀ {W2 W4 : Wd}, Ext0 W W2 → W2.P = W.P → Ext0 W2 W4 → W4.P = W2.P → Ext W { W4 with S := W.S } := fun e hp e' hp' => ⟨rfl, e.ex.trans e'.ex, fun i x h => e'.adr i x (e.adr i x h), fun x o u h => e'.frz x o u (e.frz x o u h), hp'.trans hp⟩
  induction cl with
  | nil =>
    intro W2 σ sl C dd xs fs ms e hp O RS g x hw
    have hk2 : W2.S.K = W.S.K := e.k
    have e1 : Ext W { W2 with S := W.S } := back e hp (Ext0.refl _) rfl
    have := R.ex { W2 with S := W.S } σ sl C dd xs fs ms e1 (O.sg hk2.symm) (RS.low (sg_low hk2.symm)) g (by rw [show ({ W2 with S := W.S } : Wd).S.K = W2.S.K from hk2.symm]; exact x) hw
    rw [hKW] at this
    exact this
  | cons c r ih =>
    intro W2 σ sl C dd xs fs ms e hp O RS g x hw
    have hk2 : W2.S.K = W.S.K := e.k
    have hk3 : W2.S.K = K := hk2.trans hKW
    obtain ⟨b, o, ws⟩ := c
    have hkS : ∀ a cls d, (suiS K a cls d).K = W2.S.K := fun _ _ _ => hk3.symm
    have e3 : ∀ a cls d, Ext0 W { W2 with S := suiS K a cls d } := fun a cls d => ⟨hKW.symm, e.ex, e.adr, e.frz⟩
    have hd3 : ∀ a, HdOk { W2 with S := suiS K a (.ref (He.ga K C)) (some dd) } C ((Str.empty, .ref a) :: fs) := fun a a' cls' d' z => by
      cases z
      exact ⟨rfl, dd, xs, fs, rfl, g, rfl, by show Dtf K W2.G W2.A xs fs; rw [← hk3]; exact x⟩
    cases o with
    | none =>
      simp only [clW] at hw
      split at hw
      · rename_i hx
        exact ⟨true, T C b true hx, fun _ a _ => ⟨{ W2 with S := suiS K a (.ref (He.ga K C)) (some dd) }, ⟨sl, neverX, C, (Str.empty, .ref a) :: fs⟩, ms, suiE none ρ E, rfl, rfl, ⟨RS.low (sg_low (hkS _ _ _)), never_x, hd3 a⟩, O.sg (hkS _ _ _), hw a, sui_ends R ok none (e3 _ _ _) hp⟩, fun z => by cases z⟩
      · rename_i hx
        exact ⟨false, T C b false hx, (fun z => by cases z), fun _ => ih W2 σ sl C dd xs fs ms e hp O RS g x hw⟩
      · exact hw.elim
    | some i =>
      simp only [clW] at hw
      split at hw
      · rename_i hx
        exact ⟨true, T C b true hx, fun _ a _ => ⟨{ W2 with S := suiS K a (.ref (He.ga K C)) (some dd) }, ⟨sl.set i (some (.ref a)), neverX, C, (Str.empty, .ref a) :: fs⟩, ms, suiE (some i) ρ E, rfl, rfl, ⟨(RS.low (sg_low (hkS _ _ _))).set (.ref a) i, never_x, hd3 a⟩, O.sg (hkS _ _ _), hw a, sui_ends R ok (some i) (e3 _ _ _) hp⟩, fun z => by cases z⟩
      · rename_i hx
        exact ⟨false, T C b false hx, (fun z => by cases z), fun _ => ih W2 σ sl C dd xs fs ms e hp O RS g x hw⟩
      · exact hw.elim
end
/-- the clauses of a try, over data -/
inductive DCls (X : Cy) : List ExceptHandler → List Wcl → Prop
  | nil : DCls X [] []
  | no {x : Str} {b : Kd} {ws : WS} {b0 : Stmt} {suite : List Stmt} {np hp : Pos} {hds : List ExceptHandler} {l : List Wcl} (hc : Names X.X x (b.val X.X.K))
      (hsu : ∀ (a : Addr) (oe : Obj) (cls : Value) (d : Option Addr) (pn : List (Addr × Obj)), Zc cls d oe → (∃ vs, oe.data = .fields vs) → DSs ⟨X.X.suite a ((a, oe) :: pn), never, takes_none5, some (a, cls, d)⟩ (b0 :: suite) ws) (r : DCls X hds l) :
      DCls X (.ExceptHandler (some (.Name x np)) none (b0 :: suite) hp :: hds) ((b, none, ws) :: l)
  | as {x n : Str} {i : Nat} {b : Kd} {ws : WS} {b0 : Stmt} {suite : List Stmt} {np hp : Pos} {hds : List ExceptHandler} {l : List Wcl} (hN : X.X.N.Nodup) (hi : X.X.N[i]? = some n) (hln : X.X.env.kindOf n = some .local) (hc : Names X.X x (b.val X.X.K))
      (hsu : ∀ (a : Addr) (oe : Obj) (cls : Value) (d : Option Addr) (pn : List (Addr × Obj)), Zc cls d oe → (∃ vs, oe.data = .fields vs) → DSs ⟨X.X.suite a ((a, oe) :: pn), never, takes_none5, some (a, cls, d)⟩ (b0 :: suite) ws) (r : DCls X hds l) :
      DCls X (.ExceptHandler (some (.Name x np)) (some n) (b0 :: suite) hp :: hds) ((b, some i, ws) :: l)
theorem DCls.ok {X : Cy} {hds : List ExceptHandler} {l : List Wcl} (h : DCls X hds l) : ClsOk X.X hds (l.map (toCl X.X.K)) := by
  induction h with
  | nil => exact .nil
  | no hc hsu r ih => exact .no hc (fun a oe cls d pn z dd => (hsu a oe cls d pn z dd).pss) ih
  | as hN hi hln hc hsu r ih => exact .as hN hi hln hc (fun a oe cls d pn z dd => (hsu a oe cls d pn z dd).pss) ih
theorem ds_try {X : Cy} {xt : Str → Kd → Option Bool} {body : List Stmt} {h0 : ExceptHandler} {hds : List ExceptHandler} {cl : List Wcl} {wb : WS} {pos : Pos} (T : XtOk X.X.K xt) (hs : X.X.stack = X.X.env :: X.X.outer) (hf : X.X.env.frame = some X.X.env.locals)
    (hb : ∀ (Z : WX) (pn : List (Addr × Obj)) (xe : Value → Shared → Prop) (tk : Takes (X.X.tr pn xe) Z), PassesOwn (model X.X.prog X.X.w) X.X.A X.X.env xe → DSs ⟨X.X.tr pn xe, Z, tk, X.xh⟩ body wb)
    (hh : DCls X (h0 :: hds) cl) : DS X (.Try body (h0 :: hds) [] [] pos) (wTry xt wb cl) := by
  refine ⟨_, ps_try (tb := fun Z => tOf ⟨X.X.K, Z, X.xh⟩ wb) hs hf X.tk (fun Z pn xe tk po => (hb Z pn xe tk po).pss) hh.ok, fun W σ ρ ms D E hK R O hw ok => ?_⟩
  have hKW : W.K = X.X.K := congrArg Sg.K hK
  have hZ : W.S.Z = X.Z := congrArg Sg.Z hK
  have hx : W.S.xh = X.xh := congrArg Sg.xh hK
  let S1 : Sg := ⟨X.X.K, wCls X.X.K X.Z D (cl.map (toCl X.X.K)), X.xh⟩
  have hk1 : S1.K = W.S.K := hKW.symm
  refine ⟨{ W with S := S1 }, { ρ with ex := clW xt E ρ cl }, ms, tryE ρ E, rfl, rfl, ⟨R.sl.low (sg_low hk1), ?_, ?_⟩, O.sg hk1, hw, ?_⟩
  · intro W2 σ2 sl2 C dd xs fs ms2 e2 O2 RS g x h2
    have := cl_go T hKW R ok cl W2 σ2 sl2 C dd xs fs ms2 ⟨by show W2.S.K = W.S.K; rw [e2.s]; exact hk1, e2.ex, e2.adr, e2.frz⟩ e2.p O2 RS g x h2
    rw [hZ] at this
    exact this
  · exact R.hd.low (sg_low hk1) hx.symm
  · have back : ∀ {W4 : Wd}, Ext { W with S := S1 } W4 → Ext W { W4 with S := W.S } := fun e' => ⟨rfl, e'.ex, e'.adr, e'.frz, e'.p⟩
    have hk : ∀ {W4 : Wd}, Ext { W with S := S1 } W4 → W.S.K = W4.S.K := fun {W4} e' => by
      have h1 : W4.S.K = S1.K := by rw [e'.s]
      exact (h1.trans hk1).symm
    have hh2 : ∀ {W4 : Wd}, Ext { W with S := S1 } W4 → W.S.xh = W4.S.xh := fun {W4} e' => by rw [e'.s]; exact hx
    have rl : ∀ {W4 : Wd} {σ4 : L2.St} {ρ4 : Env}, Ext { W with S := S1 } W4 → Rel W4 σ4 ρ4 → Rel { W4 with S := W.S } σ4 { ρ4 with ex := ρ.ex } := fun e' r => ⟨r.sl.low (sg_low (hk e')), (R.mono (back e')).ex, r.hd.low (sg_low (hk e')) (hh2 e')⟩
    have rv : ∀ {W4 : Wd} {v : V} {r : Dat}, Ext { W with S := S1 } W4 → RvOk W4 v r → RvOk { W4 with S := W.S } v r := fun {W4 v r} e' z => by
      show Dt W.S.K W4.G W4.A v r
      rw [hk e']; exact z
    exact ⟨fun W4 σ4 ρ4 ms4 e4 O4 R4 h4 => ok.nx { W4 with S := W.S } σ4 { ρ4 with ex := ρ.ex } ms4 (back e4) (O4.sg (hk e4)) (rl e4 R4) h4, fun W4 v r ms4 e4 O4 r4 h4 => ok.rt { W4 with S := W.S } v r ms4 (back e4) (O4.sg (hk e4)) (rv e4 r4) h4,
      fun W4 σ4 ρ4 ms4 e4 O4 R4 h4 => ok.bk { W4 with S := W.S } σ4 { ρ4 with ex := ρ.ex } ms4 (back e4) (O4.sg (hk e4)) (rl e4 R4) h4, fun W4 σ4 ρ4 ms4 e4 O4 R4 h4 => ok.ct { W4 with S := W.S } σ4 { ρ4 with ex := ρ.ex } ms4 (back e4) (O4.sg (hk e4)) (rl e4 R4) h4⟩
/-! e.f in an except suite -/
def tXs (K : PySem.W.Frag) (a : Addr) (cls : Value) (d : Option Addr) (f : Str) (te : TE) : TE := fun σ H Q => te σ H fun x H1 => ∃ (C dd : Addr) (xs : List (Str × V)) (v : V), x = .ref a ∧ cls = .ref C ∧ XcC K C ∧ PySem.W.findIn K (.ref C) f = some none ∧ d = some dd ∧ H1 dd = some (.xd xs) ∧ xs.lookup f = some v ∧ Q v H1
theorem pe_xs {X : Cx} {a : Addr} {oe : Obj} {cls : Value} {d : Option Addr} {pn : List (Addr × Obj)} {e : Expr} {te : TE} {pos : Pos} {f : Str} (hz : Zc cls d oe) (hf : ∃ vs, oe.data = .fields vs) (he : PE (X.suite a ((a, oe) :: pn)) e te)
    (hb : attributeBase e f X.env (eval e X.env) = eval e X.env := by rfl) : PE (X.suite a ((a, oe) :: pn)) (.Attribute e f pos) (tXs X.K a cls d f te) := by
  refine ⟨fun pins s σ H Q J h => attr_of hb (thn (he.run pins s σ H _ J h) fun u s1 hh => ?_)⟩
  obtain ⟨y, H1, J1, ry, C, dd, xs, v, ey, ec, T, hno, ed, ea, hl, q⟩ := hh
  subst ey ec ed
  obtain rfl : u = Value.ref a := ry
  obtain ⟨at_, _⟩ := J1.pin (a, oe) (List.mem_append_left _ List.mem_cons_self)
  obtain ⟨ws, hd⟩ := hf
  obtain ⟨mA, hns, hr⟩ : ObjOk X.prog X.w H1 s1.heap dd (.xd xs) := J1.hok dd _ ea
  obtain ⟨od, ho, look⟩ := lookIn_ns hns
  obtain ⟨u, hu, ru⟩ := RelO.some_of (v := v) (o := mA f) (by rw [← hl]; exact hr f)
  have I : PySem.W.InstAt s1.heap a oe C (some od) := ⟨at_, hz.1, by unfold PySem.W.notCls; rw [hd] <;> rfl, by rw [hz.2]; exact ho⟩
  exact HandSPX.exc_get J1.kIn I T.ga T.gt T.sb (PySem.W.findObj_own T.hd hno rfl (by rw [look, hu])) (handed_of ru) ⟨v, H1, J1.tok _, ru, q⟩
@[simp] def wXs (Cs : List Str) (f : Str) (we : WE) : WE := fun ρ ms k => we ρ ms fun r ms1 => match r, ρ.xf with
  | .ref a, (_, .ref a') :: fs => a = a' ∧ ρ.xc ∈ Cs ∧ (match fs.lookup f with
    | some d => k d ms1
    | none => False)
  | _, _ => False
theorem de_xs {X : Cx} {a : Addr} {oe : Obj} {cls : Value} {d : Option Addr} {pn : List (Addr × Obj)} {tk : Takes (X.suite a ((a, oe) :: pn)) never} {o : Expr} {Cs : List Str} {f : Str} {pos : Pos} {wo : WE}
    (T : ∀ C ∈ Cs, XcC X.K (He.ga X.K C) ∧ PySem.W.findIn X.K (.ref (He.ga X.K C)) f = some none) (hz : Zc cls d oe) (hf : ∃ vs, oe.data = .fields vs) (ho : DE ⟨X.suite a ((a, oe) :: pn), never, tk, some (a, cls, d)⟩ o wo)
    (hb : attributeBase o f X.env (eval o X.env) = eval o X.env := by rfl) : DE ⟨X.suite a ((a, oe) :: pn), never, tk, some (a, cls, d)⟩ (.Attribute o f pos) (wXs Cs f wo) := by
  obtain ⟨t, p, l⟩ := ho
  refine ⟨_, pe_xs hz hf p hb, fun W σ ρ ms Q k hK Rl O hw q => l W σ ρ ms _ _ hK Rl O hw fun W1 v r ms1 e1 O1 ok1 h1 => ?_⟩
  have hS : W1.S = ⟨X.K, never, some (a, cls, d)⟩ := e1.s.trans hK
  have hKK : W1.K = X.K := congrArg Sg.K hS
  obtain ⟨g1, dd, xs, fs0, g2, g3, g4, g5⟩ := (Rl.mono e1).hd a cls d (congrArg Sg.xh hS)
  rw [g4] at h1
  split at h1
  · rename_i a1 _ a2 fs e
    cases e
    obtain ⟨rfl, hC, h2⟩ := h1
    cases ok1
    split at h2
    · rename_i y e2
      obtain ⟨u, hu, oku⟩ := g5.look e2
      exact ⟨_, dd, xs, u, rfl, g1, by rw [hKK]; exact (T _ hC).1, by rw [hKK]; exact (T _ hC).2, g2, O1.ex _ _ g3, hu, q W1 u y ms1 e1 O1 oku h2⟩
    · exact h2.elim
  · exact h1.elim
end Sy
namespace Sy
open PySem PySem.Spec PyProof.Rows L2
/-! ## e.f, a property -/
theorem getpropG {X : Cx} {k : Nat} {C p g a dx : Addr} {fs : List (Str × V)} {f : Str} {fd : FuncData} {ps : List Str} {sp : Sp} {pins : List (Addr × Obj)} {σ : L2.St} {H : Hp} {s : Shared} {Q : VK} {b : Bool} {E' : Value → Shared → Prop} (J : Inv X pins σ H s) (ea : H a = some (.ins C dx fs)) (c : Cls X.K C) (hp : PropOf X.K C f p g)
    (F : FnG X.prog X.w X.K X.mg X.base (L2.CX X.prog X.w) k g fd ps sp) (gd : X.A.guards = some []) (hr : Room (k + 1) X.A) (hb : Binds X.K fd ps []) (hl : ps.length = 1) (h : sp [.ref a] H Q (fun _ _ _ => False)) :
    wpAny (model X.prog X.w) X.A (getAttr (.ref a) f b) (EP X pins σ Q) E' s := by
  obtain ⟨mA, O, _, _, _, _⟩ := ins_get J.hok ea
  obtain ⟨od, I, _⟩ := O.look
  obtain ⟨rest, hrec⟩ := hp.rec_
  have J1 := J.tok (s.toks + 1)
  have hc : (PySem.W.clsIn X.K C).isSome = true := by
    obtain ⟨cd, hc, _⟩ := PySem.W.any_some c.hd
    rw [hc]
    rfl
  have hb' := hb { s with toks := s.toks + 1 } [.ref a] J1.kIn (by rw [List.append_nil]; exact hl.symm)
  rw [List.append_nil] at hb'
  refine PySem.W.get_bind J.kIn I (PySem.W.plainGet_of (c.get f)).1 (PySem.W.findObj_data hc hp.at_ hp.get hp.tak) (PySem.W.plainGet_of (c.get f)).2 (wpAny_call (PySem.W.prop_get (s := { s with toks := s.toks + 1 }) J.kIn hrec ?_))
  refine codeAny_mono (F.go X.A.in1 X.stack { s with toks := s.toks + 1 } H ⟨[.ref a], []⟩ [.ref a] [.ref a] Q (fun _ _ _ => False) gd hr.in1 J1.env0.in1 hb' (.cons rfl .nil) h) fun r s' hq => ?_
  match r, hq with
  | .error e, z =>
    obtain ⟨_, _, _, _, _, _, _, _, _, _, _, _, y⟩ := z
    exact False.elim y
  | .ok (.ret u), z =>
    obtain ⟨v, H', J3, rv, q3⟩ := J1.after z
    show wpAny _ _ (handedOut u) _ _ _
    rw [PySem.W.handedOut_of (handed_of rv)]
    exact wpAny_pure ⟨v, H', J3, rv, q3⟩
  | .ok .next, z => exact False.elim z
  | .ok .brk, z => exact False.elim z
  | .ok .cont, z => exact False.elim z
section
variable {X : Cy}
@[simp] def wProp (C f : Str) (R : FSpec) (wo : WE) : WE := fun ρ ms k => wo ρ ms fun o ms1 => match insOf ms1 o with
  | some (C', fs) => C' = C ∧ R [o] ms1 k (fun _ _ _ => False)
  | none => False
def tPropG (C : Addr) (sp : Sp) (to : TE) : TE := fun σ H Q => to σ H fun x H1 => ∃ a dx fs, x = .ref a ∧ H1 a = some (.ins C dx fs) ∧ sp [.ref a] H1 Q (fun _ _ _ => False)
theorem de_prop {o : Expr} {C f : Str} {pos : Pos} {k : Nat} {p : Addr} {ps : List Str} {R : FSpec} {wo : WE} (c : Cls X.X.K (He.ga X.X.K C)) (hp : PropOf X.X.K (He.ga X.X.K C) f p (fA X.X.K (C, some f))) (D : DefOk X.X.prog X.X.w X.X.K X.X.mg X.X.base (C, some f) ps k R) (hl : ps.length = 1) (hg : X.X.A.guards = some []) (room : Room (k + 1) X.X.A)
    (ho : DE X o wo) (hb : attributeBase o f X.X.env (eval o X.X.env) = eval o X.X.env := by rfl) : DE X (.Attribute o f pos) (wProp C f R wo) := by
  obtain ⟨to, po, lo⟩ := ho
  obtain ⟨fd, F, bd, kp⟩ := D.ex
  refine ⟨tPropG (He.ga X.X.K C) (spF X.X.K R) to, ⟨fun pins s σ H Q J h => attr_of hb (thn (po.run pins s σ H _ J h) fun u s1 ⟨x, H1, J1, rx, a, dx, fs, ex, ea, q⟩ => ?_)⟩, fun W σ ρ ms Q k hK Rl O hw q => ?_⟩
  · subst ex
    obtain rfl : u = Value.ref a := rx
    exact getpropG J1 ea c hp F hg room bd hl q
  · refine lo W σ ρ ms _ _ hK Rl O hw fun W1 v r ms1 e1 O1 ok1 h1 => ?_
    have hKK : X.X.K = W1.K := (congrArg Sg.K (e1.s.trans hK)).symm
    split at h1
    · rename_i C' fs e
      obtain ⟨rfl, h1⟩ := h1
      obtain ⟨a, dx, xs, rfl, ha, rk⟩ := O1.inst ok1 e
      refine ⟨a, dx, xs, rfl, by rw [hKK]; exact ha, W1, [r], ms1, _, fun _ _ _ => False, rfl, hKK.symm, O1, .cons ok1 .nil, h1, fun W' v r ms' e2 O2 ok2 h2 => q W' v r ms' (e1.trans e2) O2 ok2 h2, fun _ _ _ _ _ _ _ _ _ _ z => z.elim⟩
    · exact h1.elim
end
end Sy
namespace Sy
open PySem PySem.Spec PyProof.Rows L2
/-! ## a op b of two instances of an own class with its method for op -/
theorem bin_own {X : Cx} {op : Operator} {a C f b : Addr} {ox : Obj} {od : Option Obj} {w : Value} {Q : Value → Shared → Prop} {E : Value → Shared → Prop} {s : Shared} (kin : X.K.In s.heap) (I : PySem.W.InstAt s.heap a ox C od) (hb : PySem.W.Looks (model X.prog X.w) s.heap (typeOf w) (.ref C)) (sf : PySem.W.selfFirst X.K C = true)
    (hs : PySem.W.findIn X.K (.ref C) (PySem.dunder op.info.2) = some (some (.ref f))) (hf : PySem.W.isFn X.K (.ref f) = true)
    (h : wpAny (model X.prog X.w) X.A (call (.ref f) [.ref a, w]) (PySem.W.CmpBack Q) E s) : wpAny (model X.prog X.w) X.A (binaryOp op (.ref a) w) Q E s := by
  obtain ⟨cd, hcd, hm⟩ := PySem.W.any_some sf
  obtain ⟨rest, hm⟩ : ∃ rest, cd.mro = .ref C :: rest := by
    cases z : cd.mro with
    | nil => rw [z] at hm; cases hm
    | cons c r => rw [z] at hm; exact ⟨r, by rw [List.head?_cons] at hm; cases (beq_iff_eq.mp hm); rfl⟩
  unfold binaryOp
  refine wpAny_holding (wpAny_bind ?_)
  unfold binaryOp1
  refine wpAny_bind (I.type.here (wpAny_bind (hb.here (wpAny_bind ((PySem.W.fills_K kin hcd hm hs).here ?_)))))
  simp only [beq_self_eq_true, if_true]
  refine wpAny_bind (wpAny_pure ?_)
  simp only [Bool.and_false, Bool.false_eq_true, if_false, Bool.false_and]
  refine wpAny_bind (wpAny_pure ?_)
  simp only [Bool.false_eq_true, if_false]
  refine wpAny_bind (m := tryMethod (.ref a) _ w) ?_
  unfold tryMethod
  refine wpAny_bind (PySem.W.special_fn kin I hs (beq_iff_eq.mp hf) (wpAny_mono h (fun v s' hv => ?_) fun _ _ e => e))
  cases v <;> first | exact hv.elim | exact wpAny_pure (wpAny_pure (wpAny_pure hv))
section
variable {X : Cy}
def rBin (K : PySem.W.Frag) (C : Addr) (sp : Sp) (E : XK) : R2 := fun x y H Q => ∃ a dx fs b dx' fs', x = .ref a ∧ y = .ref b ∧ H a = some (.ins C dx fs) ∧ H b = some (.ins C dx' fs') ∧ sp [x, y] H Q E
@[simp] def wBin (C : Str) (R : FSpec) (wa wb : WE) : WE := fun ρ ms k => wa ρ ms fun o ms1 => wb ρ ms1 fun p ms2 => match insOf ms2 o, insOf ms2 p with
  | some (C1, _), some (C2, _) => C1 = C ∧ C2 = C ∧ R [o, p] ms2 k (ρ.ex ρ.sl)
  | _, _ => False
theorem notNI {v : V} {u : Value} {Q : Value → Shared → Prop} {s : Shared} (r : L2.RelV v u) (h : Q u s) : PySem.W.CmpBack Q u s := by
  cases v with
  | non => cases r; exact h
  | bl b => cases r; exact h
  | ref a => cases r; exact h
  | ty n => cases r; exact h
  | int i => obtain ⟨t, rfl⟩ := r; exact h
  | str i => obtain ⟨t, rfl⟩ := r; exact h
  | byt i => obtain ⟨t, rfl⟩ := r; exact h
  | flt i => obtain ⟨t, rfl⟩ := r; exact h
theorem de_bin {op : Operator} {C m : Str} {k : Nat} {ps : List Str} {R : FSpec} {a b : Expr} {wa wb : WE} {pos : Pos} (sf : PySem.W.selfFirst X.X.K (He.ga X.X.K C) = true) (hs : PySem.W.findIn X.X.K (.ref (He.ga X.X.K C)) (PySem.dunder op.info.2) = some (some (.ref (fA X.X.K (C, some m)))))
    (hf : PySem.W.isFn X.X.K (.ref (fA X.X.K (C, some m))) = true) (D : DefOk X.X.prog X.X.w X.X.K X.X.mg X.X.base (C, some m) ps k R) (hg : X.X.A.guards = some []) (room : Room k X.X.A) (ha : DE X a wa) (hb : DE X b wb) : DE X (.BinOp a op b pos) (wBin C R wa wb) := by
  obtain ⟨ta, pa, la⟩ := ha
  obtain ⟨tb, pb, lb⟩ := hb
  obtain ⟨fd, F, bd, kp⟩ := D.ex
  refine ⟨fun σ H Q => tOp (rBin X.X.K (He.ga X.X.K C) (spF X.X.K R) (exS X σ)) ta tb σ H Q, ⟨fun pins s σ H Q J h => wpAny_BinOp (binT pa pb J h fun v u s2 x y H2 J2 rx ry q => ?_)⟩, fun W σ ρ ms Q k hK Rl O hw q => ?_⟩
  · obtain ⟨p, dx, fs, p', dx', fs', rfl, rfl, e1, e2, want⟩ := q
    cases (show v = Value.ref p from rx)
    cases (show u = Value.ref p' from ry)
    obtain ⟨mA, O1, _, _, _, _⟩ := ins_get J2.hok e1
    obtain ⟨od, I1, _⟩ := O1.look
    obtain ⟨mB, O2, _, _, _, _⟩ := ins_get J2.hok e2
    obtain ⟨od2, I2, _⟩ := O2.look
    refine bin_own (b := p') J2.kIn I1 I2.type sf hs hf ?_
    refine thn (F.runS (us := [.ref p, .ref p']) (vs := [.ref p, .ref p']) hg room bd (pass_s σ) J2 (.cons rfl (.cons rfl .nil)) want) fun u s3 z => ?_
    obtain ⟨v3, H3, J3, r3, q3⟩ := z
    exact notNI r3 ⟨v3, H3, J3, r3, q3⟩
  · refine la W σ ρ ms _ _ hK Rl O hw fun W1 v r ms1 e1 O1 ok1 h1 => lb W1 σ ρ ms1 _ _ (e1.s.trans hK) (Rl.mono e1) O1 h1 fun W2 v2 r2 ms2 e2 O2 ok2 h2 => ?_
    have hKK : X.X.K = W2.K := (congrArg Sg.K (e2.s.trans (e1.s.trans hK))).symm
    split at h2
    · rename_i C1 f1 C2 f2 g1 g2
      obtain ⟨rfl, rfl, h2⟩ := h2
      obtain ⟨p, dx, xs, rfl, hp, _⟩ := O2.inst (up_v e2 ok1) g1
      obtain ⟨p', dx', xs', rfl, hp', _⟩ := O2.inst ok2 g2
      exact ⟨p, dx, xs, p', dx', xs', rfl, rfl, by rw [hKK]; exact hp, by rw [hKK]; exact hp', call_go (e2.s.trans (e1.s.trans hK)) ((Rl.mono e1).mono e2) O2 (.cons (up_v e2 ok1) (.cons ok2 .nil)) h2 fun W3 v r ms3 e3 O3 ok3 h3 => q W3 v r ms3 ((e1.trans e2).trans e3) O3 ok3 h3⟩
    · exact h2.elim
end
end Sy
namespace Sy
open PySem PySem.Spec PyProof.Rows L2
section
variable {X : Cy} {pos : Pos}
/-! ### for c in text -/
def sgns (x : Str) : List Dat := x.cps.toList.map fun c => .str ⟨#[c]⟩
@[simp] def wiStr (we : WE) : WI := fun ρ ms k => we ρ ms fun r ms1 => match r with
  | .str x => k (sgns x) ms1
  | _ => False
theorem di_str {tg e : Expr} {we : WE} (h : DE X e we) : DI X tg e (wiStr we) := by
  obtain ⟨t, p, l⟩ := h
  refine ⟨_, pi_str p, fun W σ ρ ms R k hK Rl O hw q => l W σ ρ ms _ _ hK Rl O hw fun W1 v r ms1 e1 O1 ok1 h1 => ?_⟩
  split at h1
  · rename_i x
    cases ok1
    have hl : (sgns x).length = x.cps.size := by simp [sgns]
    refine ⟨x, rfl, q W1 _ _ ms1 e1 O1 ⟨fun W' ms' i e O' hi => by rw [hl] at hi; exact hi, fun W' ms' e O' => by rw [hl]; exact Nat.le_refl _, fun W' ms' i x' H' d e O' hget y => ?_⟩ h1⟩
    obtain ⟨rfl, c, hc, rfl⟩ := y
    unfold sgns at hget
    rw [List.getElem?_map, Array.getElem?_toList, hc] at hget
    cases hget
    exact ⟨W', Ext.refl _, O', rfl, .str _⟩
  · exact h1.elim
/-! ### xs.count(y), xs.index(y) -/
def rCntF (K : PySem.W.Frag) : V → List V → Hp → VK → Prop := fun x xs H Q => ∃ (p : Addr) (ys : List V) (y : V), x = .ref p ∧ xs = [y] ∧ SqL K H p ys ∧ L2.flatV y = true ∧ ys.all L2.flatV = true ∧ Q (.int (ys.countP fun z => L2.eqV z y : Nat)) H
theorem countU {y : V} : ∀ {ys : List V} {us : List Value}, Vals ys us → ys.all L2.flatV = true → us.countP (eqU y) = ys.countP fun z => L2.eqV z y
  | _, _, .nil, _ => rfl
  | _, _, .cons r t, f => by
    rw [List.all_cons, Bool.and_eq_true] at f
    rw [List.countP_cons, List.countP_cons, countU t f.2, eqU_of r f.1]
theorem mt_lcountF {X : Cx} : MtR X "list.count" (rCntF X.K) := by
  intro pins s σ H x xs v us Q I rx rxs h
  obtain ⟨p, ys, y, rfl, rfl, hs, fy, fys, q⟩ := h
  cases rx
  obtain ⟨u, rfl, ru⟩ := rxs.one
  obtain ⟨its, rv, ⟨⟨cls, dd, data, sl⟩, n, ho, hc, hdn, hd⟩, hlen⟩ := I.list hs
  simp only at hc hd
  subst hc hd
  refine call_meets PySem.F.slot_list_count ⟨_, ho, rfl⟩ PySem.F.entry_list_count (PySem.F.args_list_count_2 _ _)
    (SeqAt.list_countAt p its.toArray n dd sl u (eqU y)) ⟨ho, fun u' hu' => mem_eqAt ru fy rv fys u' (by simpa using hu'), ?_⟩
  have ec : its.toArray.toList.countP (eqU y) = ys.countP fun z => L2.eqV z y := countU rv fys
  refine ⟨.int (ys.countP fun z => L2.eqV z y : Nat), H, I.tok _, ⟨s.toks, ?_⟩, q⟩
  show Value.int ((its.toArray.toList.countP (eqU y) : Nat) : Int) s.toks = _
  rw [ec]
theorem Dts.countV {K : PySem.W.Frag} {G : Hp} {A : List Addr} {x : V} {d : Dat} (h : Dt K G A x d) (f : flat d = true) : ∀ {vs : List V} {ds : List Dat}, Dts K G A vs ds → ds.all flat = true → vs.all L2.flatV = true ∧ (vs.countP fun z => L2.eqV z x) = ds.countP fun z => eqD z d
  | _, _, .nil, _ => ⟨rfl, rfl⟩
  | _, _, .cons q r, a => by
    rw [List.all_cons, Bool.and_eq_true] at a
    obtain ⟨h1, h2⟩ := Dts.countV h f r a.2
    refine ⟨by rw [List.all_cons, q.flatV a.1, h1]; rfl, ?_⟩
    rw [List.countP_cons, List.countP_cons, h2, q.eqV h a.1 f]
@[simp] def lstOf (ms : Ms) (r : Dat) : Option (List Dat) := match look ms r with
  | some (.lst ds) => some ds
  | _ => none
theorem lstOf_look {ms : Ms} {r : Dat} {ds : List Dat} (h : lstOf ms r = some ds) : look ms r = some (.lst ds) := by
  unfold lstOf at h
  split at h
  · rename_i e; cases h; exact e
  · cases h
@[simp] def wCnt (wo we : WE) : WE := fun ρ ms k => wo ρ ms fun r ms1 => match lstOf ms1 r with
  | some _ => we ρ ms1 fun d ms2 => (match lstOf ms2 r with
    | some ds => flat d = true ∧ ds.all flat = true ∧ k (.int (ds.countP fun z => eqD z d : Nat)) ms2
    | none => False)
  | none => False
theorem tyL_of {W : Wd} {ms : Ms} {v : V} {r : Dat} {ds : List Dat} {K : PySem.W.Frag} (O : Own W ms) (ok : RvOk W v r) (h : lstOf ms r = some ds) : tyV K "list" v W.H := by
  obtain ⟨a, xs, rfl, h1, _⟩ := O.list ok (lstOf_look h)
  exact .inl ⟨rfl, _, SqL.of h1⟩
theorem de_count {o e : Expr} {apos cpos : Pos} {wo we : WE} (ho : DE X o wo) (he : DE X e we) (hbase : attributeBase o "count" X.X.env (eval o X.X.env) = eval o X.X.env := by rfl) (hs : starEach [e] X.X.env = (false, eval e X.X.env) :: starEach [] X.X.env := by rfl) (hpl : (backTo cpos (starEach [] X.X.env)).any (·.1) = false := by rfl)
    (hfew : ((backTo cpos (starEach [e] X.X.env)).all (fun x => !x.1) && (backToKw cpos (keywordEach [] X.X.env)).all (fun x => x.1.isSome)
      && decide ([e].length + ([] : List Keyword).length + (if ([] : List Keyword).isEmpty then 0 else 1) < 30)) = true := by rfl) (hline : (apos.endLine == cpos.line) = true := by rfl) :
    DE X (.Call (.Attribute o "count" apos) [e] [] cpos) (wCnt wo we) := by
  obtain ⟨t, p, l⟩ := ho
  obtain ⟨te, pe, le⟩ := he
  refine ⟨_, pe_bm PySem.F.plainAttrs_list PySem.F.slot_list_count PySem.F.type_list_count mt_lcountF p (pa_cons pe pa_nil hs) hbase hfew hline hs hpl, fun W σ ρ ms Q k hK R O hw q => ?_⟩
  refine l W σ ρ ms _ _ hK R O hw fun W1 v r ms1 e1 O1 ok1 h1 => ?_
  split at h1
  · rename_i d0 ek
    refine ⟨tyL_of O1 ok1 ek, le W1 σ ρ ms1 _ _ (e1.s.trans hK) (R.mono e1) O1 h1 fun W2 u d ms2 e2 O2 ok2 h2 => ?_⟩
    split at h2
    · rename_i ds ek2
      obtain ⟨f1, f2, h2⟩ := h2
      have hKK : X.X.K = W2.K := (congrArg Sg.K (e2.s.trans (e1.s.trans hK))).symm
      obtain ⟨a, xs, rfl, g1, g2⟩ := O2.list (up_v e2 ok1) (lstOf_look ek2)
      obtain ⟨c1, c2⟩ := Dts.countV ok2 f1 g2 f2
      exact ⟨a, xs, u, rfl, rfl, SqL.of g1, ok2.flatV f1, c1, by rw [c2]; exact q W2 _ (.int _) ms2 (e1.trans e2) O2 (.int _) h2⟩
    · exact h2.elim
  · exact h1.elim
@[simp] def wIdx (wo we : WE) : WE := fun ρ ms k => wo ρ ms fun r ms1 => match lstOf ms1 r with
  | some _ => we ρ ms1 fun d ms2 => (match lstOf ms2 r with
    | some ds => ∃ (j : Nat) (z : Dat), flat d = true ∧ ds.all flat = true ∧ ds[j]? = some z ∧ eqD z d = true ∧ (∀ (m : Nat) (z' : Dat), m < j → ds[m]? = some z' → eqD z' d = false) ∧ k (.int j) ms2
    | none => False)
  | none => False
theorem de_index {o e : Expr} {apos cpos : Pos} {wo we : WE} (ho : DE X o wo) (he : DE X e we) (hbase : attributeBase o "index" X.X.env (eval o X.X.env) = eval o X.X.env := by rfl) (hs : starEach [e] X.X.env = (false, eval e X.X.env) :: starEach [] X.X.env := by rfl) (hpl : (backTo cpos (starEach [] X.X.env)).any (·.1) = false := by rfl)
    (hfew : ((backTo cpos (starEach [e] X.X.env)).all (fun x => !x.1) && (backToKw cpos (keywordEach [] X.X.env)).all (fun x => x.1.isSome)
      && decide ([e].length + ([] : List Keyword).length + (if ([] : List Keyword).isEmpty then 0 else 1) < 30)) = true := by rfl) (hline : (apos.endLine == cpos.line) = true := by rfl) :
    DE X (.Call (.Attribute o "index" apos) [e] [] cpos) (wIdx wo we) := by
  obtain ⟨t, p, l⟩ := ho
  obtain ⟨te, pe, le⟩ := he
  refine ⟨_, pe_bm PySem.F.plainAttrs_list PySem.F.slot_list_index PySem.F.type_list_index mt_index p (pa_cons pe pa_nil hs) hbase hfew hline hs hpl, fun W σ ρ ms Q k hK R O hw q => ?_⟩
  refine l W σ ρ ms _ _ hK R O hw fun W1 v r ms1 e1 O1 ok1 h1 => ?_
  split at h1
  · rename_i d0 ek
    refine ⟨tyL_of O1 ok1 ek, le W1 σ ρ ms1 _ _ (e1.s.trans hK) (R.mono e1) O1 h1 fun W2 u d ms2 e2 O2 ok2 h2 => ?_⟩
    split at h2
    · rename_i ds ek2
      obtain ⟨j, z, f1, f2, hz, hzj, hno, h2⟩ := h2
      obtain ⟨a, xs, rfl, g1, g2⟩ := O2.list (up_v e2 ok1) (lstOf_look ek2)
      obtain ⟨c1, c2⟩ := Dts.countV ok2 f1 g2 f2
      obtain ⟨vz, hvz, okz⟩ := g2.get hz
      refine ⟨a, xs, u, j, vz, rfl, rfl, SqL.of g1, ok2.flatV f1, c1, hvz, ?_, fun m z' hm hz' => ?_, q W2 _ (.int _) ms2 (e1.trans e2) O2 (.int _) h2⟩
      · rw [okz.eqV ok2 (List.all_eq_true.mp f2 z (List.mem_of_getElem? hz)) f1]; exact hzj
      · obtain ⟨dz, hdz, okz'⟩ := g2.get' hz'
        rw [okz'.eqV ok2 (List.all_eq_true.mp f2 dz (List.mem_of_getElem? hdz)) f1]; exact hno m dz hm hdz
    · exact h2.elim
  · exact h1.elim
/-! ### sorted(d), texts -/
def rSortDS : List V → Hp → VK → Prop := fun xs H Q => ∃ (a : Addr) (kvs : List (Key × V)) (ks : List Str), xs = [.ref a] ∧ Rd H a (.dK kvs) ∧ kvs.map (·.1) = ks.map Sum.inr ∧ ks.length < 64 ∧ ∀ ys p, ys.Perm ks → sortedS ys = true → H p = none → Q (.ref p) (upd H p (.lst (ys.map V.str)))
theorem RkOk.keysEq {κ : Type} {W : Wd} : ∀ {xs : List (κ × V)} {ds : List (κ × Dat)}, RkOk W xs ds → xs.map (·.1) = ds.map (·.1)
  | _, _, .nil => rfl
  | _, _, .cons _ r => by rw [List.map_cons, List.map_cons, RkOk.keysEq r]
@[simp] def wSortDS : WC := fun rs ms k => match rs with
  | [r] => (match dicOf ms r with
    | some kvs => ∃ ks : List Str, kvs.map (·.1) = ks.map Sum.inr ∧ ks.length < 64 ∧ ∀ ys : List Str, ys.Perm ks → sortedS ys = true → k (.lst (ys.map Dat.str)) ms
    | none => False)
  | _ => False
theorem dc_sortDS (hc : X.X.calm = true) : CallR X.X (.builtin "sorted") rSortDS ∧ LC X.S rSortDS wSortDS := ⟨call_sortedD hc, fun W vs rs ms Q k hK ok O hw q => by
  unfold wSortDS at hw
  split at hw
  · obtain ⟨v, rfl, o1⟩ := ok.one
    split at hw
    · rename_i kvs e
      obtain ⟨ks, hks, hl, hk⟩ := hw
      obtain ⟨a, xs, rfl, h1, h2⟩ := O.dict o1 (dicOf_look e)
      refine ⟨a, xs, ks, rfl, h1, by rw [h2.keysEq]; exact hks, hl, fun ys p hp hs hnew => ?_⟩
      obtain ⟨O2, e2⟩ := O.lay (o := .lst (ys.map V.str)) hnew
      exact q (W.lay p _) (.ref p) (.lst (ys.map Dat.str)) ms e2 O2 (.lst upd_same (dts_strs ys)) (hk ys hp hs)
    · exact hw.elim
  · exact hw.elim⟩
/-! ### == of dicts -/
def okV (K : PySem.W.Frag) (H : Hp) (v : V) (d : PyData) : Prop := Dp K H v d ∧ SeqAt.shaped d = true
def getP (ls : List (Key × PyData)) (k : Key) : Option PyData := (ls.find? fun p => decide (p.1 = k)).map (·.2)
inductive DpK (K : PySem.W.Frag) (H : Hp) : List (Key × V) → List (Key × PyData) → Prop
  | nil : DpK K H [] []
  | cons {k : Key} {v : V} {d : PyData} {r : List (Key × V)} {ds : List (Key × PyData)} : Dp K H v d → SeqAt.shaped d = true → DpK K H r ds → DpK K H ((k, v) :: r) ((k, d) :: ds)
def hitsP (ls : List (Key × PyData)) : List (Key × PyData) → Bool
  | [] => true
  | (k, d) :: r => match getP ls k with
    | none => false
    | some e => PyData.eqv d e && hitsP ls r
def eqvDic (ks ls : List (Key × PyData)) : Bool := ks.length == ls.length && hitsP ls ks
theorem DpK.val {K : PySem.W.Frag} {H : Hp} {k : Key} : ∀ {xs : List (Key × V)} {ds : List (Key × PyData)}, DpK K H xs ds → (getP ds k = none → valV xs k = none) ∧ ∀ d, getP ds k = some d → ∃ v, valV xs k = some v ∧ Dp K H v d ∧ SeqAt.shaped d = true
  | _, _, .nil => ⟨fun _ => rfl, fun d h => by cases h⟩
  | _, _, .cons (k := j) (v := v) (d := d) (r := xs) (ds := ds) h s r => by
    obtain ⟨h1, h2⟩ := DpK.val (k := k) r
    by_cases z : j = k
    · subst z
      refine ⟨fun e => by simp [getP] at e, fun d' e => ⟨v, valV_pos rfl, ?_⟩⟩
      have : d = d' := by simpa [getP] using e
      subst this; exact ⟨h, s⟩
    · have e1 : getP ((j, d) :: ds) k = getP ds k := by simp [getP, z]
      have e2 : valV ((j, v) :: xs) k = valV xs k := valV_neg (fun q => z q)
      rw [e1, e2]; exact ⟨h1, h2⟩
theorem DpK.length {K : PySem.W.Frag} {H : Hp} : ∀ {xs : List (Key × V)} {ds : List (Key × PyData)}, DpK K H xs ds → xs.length = ds.length
  | _, _, .nil => rfl
  | _, _, .cons _ _ r => by simp [DpK.length r]
theorem hits_dp {X : Cx} {pins : List (Addr × Obj)} {σ : L2.St} {H : Hp} {s : Shared} (I : Inv X pins σ H s) (hu : X.A.units + 65 < cLine) {ys : List (Key × V)} {ls : List (Key × PyData)} {vb : List (Key × Value)} (rb : KV ys vb) (db : DpK X.K H ys ls) :
    ∀ {xs : List (Key × V)} {ks : List (Key × PyData)} {va : List (Key × Value)}, KV xs va → DpK X.K H xs ks → PySem.W.KeqHits X.A.in1 s vb va (hitsP ls ks) := by
  intro xs ks va ra
  unfold KV at ra
  induction ra generalizing ks with
  | nil => intro d; cases d; exact .nil
  | @cons p q ps qs h t ih =>
    intro d
    obtain ⟨h1, h2⟩ := h
    obtain ⟨k, v⟩ := q
    cases d with
    | @cons k0 v0 d0 _ ds0 hd sd r =>
      have h1' : k0 = k := h1
      subst h1'
      have ih' := ih r
      have rr : RelO (valV ys k0) (valueAt vb k0) := rb.val k0
      unfold hitsP
      cases e : getP ls k0 with
      | none =>
        rw [(db.val (k := k0)).1 e] at rr
        exact .miss rr.none_of
      | some e1 =>
        obtain ⟨w, hw, hdw, sw⟩ := (db.val (k := k0)).2 e1 e
        rw [hw] at rr
        obtain ⟨y, hy, ry⟩ := rr.some_of
        obtain ⟨as, r1⟩ := Dp.reads I d0 v0 v hd h2
        obtain ⟨bs, r2⟩ := Dp.reads I e1 w y hdw ry
        exact .hit hy (SeqAt.eqAt_reads d0 e1 X.A.in1 s v y as bs r1 r2 (SeqAt.canLay_of_shaped sd) (SeqAt.canLay_of_shaped sw) (SeqAt.room_of_shaped sd (by show X.A.units + 1 + 64 < cLine; omega))) ih'
def rEqDD (K : PySem.W.Frag) (neg : Bool) : R2 := fun x y H Q => ∃ a b xs ys ks ls, x = .ref a ∧ y = .ref b ∧ Rd H a (.dK xs) ∧ Rd H b (.dK ys) ∧ DpK K H xs ks ∧ DpK K H ys ls ∧ Q (.bl (if neg then !eqvDic ks ls else eqvDic ks ls)) H
theorem op_eqDD {X : Cx} (hu : X.A.units + 65 < cLine) : OpR X (compareOp .Eq) (rEqDD X.K false) := by
  intro pins s σ H x y v u Q I rx ry h
  obtain ⟨a, b, xs, ys, ks, ls, rfl, rfl, ea, eb, da, db, q⟩ := h
  obtain rfl : v = Value.ref a := rx
  obtain rfl : u = Value.ref b := ry
  obtain ⟨_, ya, va, ra, oa⟩ := dk_rd I.hok ea
  obtain ⟨_, yb, vb, rb, ob⟩ := dk_rd I.hok eb
  exact PySem.W.keq_eq (knd := mixKind X.prog X.w) (r := hitsP ls ks) ya yb oa ob (by omega) (fun _ => hits_dp I hu rb db ra da) (fin_bl I q (by simp [eqvDic, ← ra.length, ← rb.length, da.length, db.length]))
theorem op_neDD {X : Cx} (hu : X.A.units + 65 < cLine) : OpR X (compareOp .NotEq) (rEqDD X.K true) := by
  intro pins s σ H x y v u Q I rx ry h
  obtain ⟨a, b, xs, ys, ks, ls, rfl, rfl, ea, eb, da, db, q⟩ := h
  obtain rfl : v = Value.ref a := rx
  obtain rfl : u = Value.ref b := ry
  obtain ⟨_, ya, va, ra, oa⟩ := dk_rd I.hok ea
  obtain ⟨_, yb, vb, rb, ob⟩ := dk_rd I.hok eb
  exact PySem.W.keq_ne (knd := mixKind X.prog X.w) (r := hitsP ls ks) ya yb oa ob (by omega) (fun _ => hits_dp I hu rb db ra da) (fin_bl I q (by simp [eqvDic, ← ra.length, ← rb.length, da.length, db.length]))
def toPyK (kvs : List (Key × Dat)) : List (Key × PyData) := kvs.map fun p => (p.1, toPy p.2)
def okK (kvs : List (Key × Dat)) : Bool := kvs.all fun p => plain p.2 && SeqAt.shaped (toPy p.2)
theorem RkOk.dpk {W : Wd} {ms : Ms} (O : Own W ms) : ∀ {xs : List (Key × V)} {ds : List (Key × Dat)}, RkOk W xs ds → okK ds = true → DpK W.K W.H xs (toPyK ds)
  | _, _, .nil, _ => .nil
  | _, _, .cons h r, e => by
    simp only [okK, List.all_cons, Bool.and_eq_true] at e
    exact .cons (Dt.dp O.ex h e.1.1) e.1.2 (RkOk.dpk O r (by simp only [okK]; exact e.2))
@[simp] def wEqA (neg : Bool) : WR2 := fun a b ms k => match dicOf ms a, dicOf ms b with
  | some xs, some ys => okK xs = true ∧ okK ys = true ∧ k (.bl (if neg then !eqvDic (toPyK xs) (toPyK ys) else eqvDic (toPyK xs) (toPyK ys))) ms
  | _, _ => if neg then wNe a b ms k else wEq a b ms k
theorem lr_eqDD {S : Sg} {neg : Bool} {W : Wd} {x y : V} {a b : Dat} {ms : Ms} {Q : VK} {k : KR} {xs ys : List (Key × Dat)} (hK : W.S = S) (oa : RvOk W x a) (ob : RvOk W y b) (O : Own W ms) (e1 : dicOf ms a = some xs) (e2 : dicOf ms b = some ys) (f1 : okK xs = true) (f2 : okK ys = true) (hk : k (.bl (if neg then !eqvDic (toPyK xs) (toPyK ys) else eqvDic (toPyK xs) (toPyK ys))) ms)
    (q : ∀ W' v r ms', Ext W W' → Own W' ms' → RvOk W' v r → k r ms' → Q v W'.H) : rEqDD S.K neg x y W.H Q := by
  obtain ⟨p, us, rfl, h1, h2⟩ := O.dict oa (dicOf_look e1)
  obtain ⟨p', us', rfl, h1', h2'⟩ := O.dict ob (dicOf_look e2)
  subst hK
  exact ⟨p, p', us, us', _, _, rfl, rfl, h1, h1', h2.dpk O f1, h2'.dpk O f2, q W _ (.bl _) ms (Ext.refl W) O (.bl _) hk⟩
theorem do_eqA (hu : X.X.A.units + 65 < cLine) : OpR X.X (compareOp .Eq) (fun x y H Q => rEqD X.X.K x y H Q ∨ rEqDD X.X.K false x y H Q) ∧ LR2 X.S (fun x y H Q => rEqD X.X.K x y H Q ∨ rEqDD X.X.K false x y H Q) (wEqA false) := ⟨OpR.or (op_eqD (by omega)) (op_eqDD hu), fun W x y a b ms Q k hK oa ob O hw q => by
  unfold wEqA at hw
  split at hw
  · rename_i xs ys e1 e2
    obtain ⟨f1, f2, hk⟩ := hw
    exact .inr (lr_eqDD hK oa ob O e1 e2 f1 f2 hk q)
  · exact .inl ((do_eq (X := X) (by omega)).2 W x y a b ms Q k hK oa ob O hw q)⟩
theorem do_neA (hu : X.X.A.units + 65 < cLine) : OpR X.X (compareOp .NotEq) (fun x y H Q => rNeD X.X.K x y H Q ∨ rEqDD X.X.K true x y H Q) ∧ LR2 X.S (fun x y H Q => rNeD X.X.K x y H Q ∨ rEqDD X.X.K true x y H Q) (wEqA true) := ⟨OpR.or (op_neD (by omega)) (op_neDD hu), fun W x y a b ms Q k hK oa ob O hw q => by
  unfold wEqA at hw
  split at hw
  · rename_i xs ys e1 e2
    obtain ⟨f1, f2, hk⟩ := hw
    exact .inr (lr_eqDD hK oa ob O e1 e2 f1 f2 hk q)
  · exact .inl ((do_ne (X := X) (by omega)).2 W x y a b ms Q k hK oa ob O hw q)⟩
end
end Sy
namespace Sy
open PySem PySem.Spec PyProof.Rows L2
/-! ## [e for x in xs if .. for y in ys if ..] -/
@[simp] def lc2W (wg : WG) (wt : WT) (wi1 : WI) (wg1 : WG) (wt1 : WT) (we : WE) (vs1 : List Nat) (ρ : Env) (k : List Dat → Ms → Prop) : List Dat → List Dat → Ms → Prop
  | [], acc, ms => k acc ms
  | d :: ds, acc, ms => wg d ρ ms fun ρ1 ms1 => wt ρ1 ms1 fun b ms2 => if b = true then wi1 ρ1 ms2 fun es ms3 => lcW wg1 wt1 we (wipeE ρ1 vs1) (fun acc' ms4 => lc2W wg wt wi1 wg1 wt1 we vs1 ρ k ds acc' ms4) es acc ms3 else lc2W wg wt wi1 wg1 wt1 we vs1 ρ k ds acc ms2
@[simp] def wLc2 (wi : WI) (wg : WG) (wt : WT) (wi1 : WI) (wg1 : WG) (wt1 : WT) (we : WE) (vs vs1 : List Nat) : WE := fun ρ ms k => wi ρ ms fun ds ms1 => lc2W wg wt wi1 wg1 wt1 we vs1 (wipeE ρ vs) (fun acc ms2 => k (.lst acc) ms2) ds [] ms1
theorem Held.e0hold {W1 W' : Wd} {D : Addr} {xs : List V} {u : HO} {ms : Ms} (h : Held W1 W' D (.lst xs)) (O : Own W' ms) : Ext0 W' (W'.hold D u) := ⟨rfl, Same.refl _, fun _ _ x => x, fun a ob v e => by
  show upd W'.H D u a = _
  rw [upd_ne (fun z => by subst z; rw [h.at O] at e; cases e)]; exact e⟩
theorem lc2_go {S : Sg} {ti ti1 : TI} {g g1 : TG} {tt tt1 : TT} {te : TE} {wi wi1 : WI} {wg wg1 : WG} {wt wt1 : WT} {we : WE} {vs ss vs1 ss1 : List Nat} (hss : ∀ i ∈ ss, i ∈ vs) (hss1 : ∀ i ∈ ss1, i ∈ vs1) (li : LI S ti wi) (lg : LG (S.nv) g wg ss) (lt : LT (S.nv) tt wt)
    (li1 : LI (S.nv) ti1 wi1) (lg1 : LG (S.nv) g1 wg1 ss1) (lt1 : LT (S.nv) tt1 wt1) (le : LE (S.nv) te we)
    (W : Wd) (σ : L2.St) (ρ : Env) (ms : Ms) (Q : VK) (kf : List Dat → Ms → Prop) (hK : W.S = S) (R : Rel W σ ρ) (O : Own W ms) (hw : wi ρ ms fun ds ms1 => lc2W wg wt wi1 wg1 wt1 we vs1 (wipeE ρ vs) kf ds [] ms1)
    (q : ∀ W1 W' ms' D xs acc, Ext W W1 → Held W1 W' D (.lst xs) → W'.K = W1.K → Own W' ms' → RvsOk W' xs acc → kf acc ms' → Q (.ref D) W'.H) : tLc2 ti g tt ti1 g1 tt1 te vs vs1 σ W.H Q := by
  refine li W σ ρ ms _ _ hK R O hw fun W1 J ds ms1 e1 O1 wk h1 => ?_
  intro D hD
  have hS1 : W1.S = S := e1.s.trans hK
  obtain ⟨hd0, Oh0⟩ := Held.start (W0 := W1) (o := .lst []) O1 hD
  refine ⟨fun i m H => m = ds.length - i ∧ i ≤ ds.length ∧ ∃ W' ms' xs acc, H = W'.H ∧ W'.S = (S.nv) ∧ Held W1 W' D (.lst xs) ∧ Own W' ms' ∧ RvsOk W' xs acc ∧ lc2W wg wt wi1 wg1 wt1 we vs1 (wipeE ρ vs) kf (ds.drop i) acc ms',
    ⟨ds.length, by simp, Nat.zero_le _, (W1.hold D (.lst [])).wish never, ms1, [], [], rfl, by show ({ W1.S with Z := never } : Sg) = _; rw [hS1]; rfl, ⟨hd0.new, hd0.gn, hd0.pn, hd0.e0.trans wish_e0, hd0.p⟩, Oh0.wish, .nil, h1⟩, ?_⟩
  rintro i m H' ⟨rfl, hi, W', ms', xs, acc, rfl, hS, hh, O', hacc, hf⟩
  have hk' : W'.K = W1.K := by show W'.S.K = W1.S.K; rw [hS, hS1]; rfl
  by_cases hlt : i < ds.length
  · rw [List.drop_eq_getElem_cons hlt] at hf
    refine .inr ⟨wk.goes W' ms' i hh.e0 O' hlt, fun H => ∃ W' ms' xs acc, H = W'.H ∧ W'.S = (S.nv) ∧ Held W1 W' D (.lst xs) ∧ Own W' ms' ∧ RvsOk W' xs acc ∧ lc2W wg wt wi1 wg1 wt1 we vs1 (wipeE ρ vs) kf (ds.drop (i + 1)) acc ms', fun H2 h2 => ⟨ds.length - (i + 1), by omega, rfl, hlt, h2⟩, fun x H2 y => ?_⟩
    obtain ⟨W2, e2, O2, rfl, hd⟩ := wk.yields W' ms' i x H2 _ hh.e0 O' (List.getElem?_eq_getElem hlt) y
    have RS : RelS W2 (L2.wipe σ vs) (wipeE ρ vs).sl := (((R.sl.low e1.low).low hh.e0.low).low e2.low).wipe vs
    refine lg W2 (L2.wipe σ vs) (wipeE ρ vs) ms' x ds[i] _ _ (e2.s.trans hS) ⟨RS, never_x, ((R.hd.low e1.low (by rw [e1.s])).low (hh.e0.low) (by rw [hS, hS1]; rfl)).low e2.low (by rw [e2.s])⟩ O2 hd hf fun W3 σ3 ρ3 ms3 e3 O3 R3 n3 f3 h3 => ?_
    refine ⟨wipe_same hss n3 f3, ?_⟩
    refine lt W3 σ3 ρ3 ms3 _ _ (e3.s.trans (e2.s.trans hS)) R3 O3 h3 fun W4 b ms4 e4 O4 h4 => ?_
    have e24 : Ext W' W4 := (e2.trans e3).trans e4
    cases b with
    | false =>
      rw [if_neg Bool.false_ne_true] at h4 ⊢
      exact ⟨W4, ms4, xs, acc, rfl, e24.s.trans hS, hh.on e24, O4, up_vs e24 hacc, h4⟩
    | true =>
      rw [if_pos rfl] at h4 ⊢
      refine li1 W4 σ3 ρ3 ms4 _ _ (e24.s.trans hS) (R3.mono e4) O4 h4 fun W5 J1 es ms5 e5 O5 wk1 h5 => ?_
      have e25 : Ext W' W5 := e24.trans e5
      have R5 : Rel W5 σ3 ρ3 := (R3.mono e4).mono e5
      have hS5 : W5.S = S.nv := e25.s.trans hS
      have hh5 := hh.on e25
      refine ⟨fun j k H => k = es.length - j ∧ j ≤ es.length ∧ ∃ V ms' xs acc, H = V.H ∧ V.S = (S.nv) ∧ Held W1 V D (.lst xs) ∧ Ext0 W5 V ∧ Own V ms' ∧ RvsOk V xs acc ∧ lcW wg1 wt1 we (wipeE ρ3 vs1) (fun acc' ms4 => lc2W wg wt wi1 wg1 wt1 we vs1 (wipeE ρ vs) kf (ds.drop (i + 1)) acc' ms4) (es.drop j) acc ms',
        ⟨es.length, by simp, Nat.zero_le _, W5, ms5, xs, acc, rfl, hS5, hh5, Ext0.refl _, O5, up_vs e25 hacc, h5⟩, ?_⟩
      rintro j k H6 ⟨rfl, hj, V, msv, xsv, accv, rfl, hSv, hhv, ev, Ov, haccv, hfv⟩
      by_cases hlt1 : j < es.length
      · rw [List.drop_eq_getElem_cons hlt1] at hfv
        refine .inr ⟨wk1.goes V msv j ev Ov hlt1, fun H => ∃ V ms' xs acc, H = V.H ∧ V.S = (S.nv) ∧ Held W1 V D (.lst xs) ∧ Ext0 W5 V ∧ Own V ms' ∧ RvsOk V xs acc ∧ lcW wg1 wt1 we (wipeE ρ3 vs1) (fun acc' ms4 => lc2W wg wt wi1 wg1 wt1 we vs1 (wipeE ρ vs) kf (ds.drop (i + 1)) acc' ms4) (es.drop (j + 1)) acc ms', fun H2 h2 => ⟨es.length - (j + 1), by omega, rfl, hlt1, h2⟩, fun x1 H7 y1 => ?_⟩
        obtain ⟨V2, d2, P2, rfl, hdv⟩ := wk1.yields V msv j x1 H7 _ ev Ov (List.getElem?_eq_getElem hlt1) y1
        have RSv : RelS V2 (L2.wipe σ3 vs1) (wipeE ρ3 vs1).sl := ((R5.sl.low ev.low).low d2.low).wipe vs1
        refine lg1 V2 (L2.wipe σ3 vs1) (wipeE ρ3 vs1) msv x1 es[j] _ _ (d2.s.trans hSv) ⟨RSv, never_x, (R5.hd.low ev.low (by rw [hSv, hS5])).low d2.low (by rw [d2.s])⟩ P2 hdv hfv fun V3 τ3 θ3 ns3 d3 P3 T3 m3 g3 k3 => ?_
        refine ⟨wipe_same hss1 m3 g3, ?_⟩
        refine lt1 V3 τ3 θ3 ns3 _ _ (d3.s.trans (d2.s.trans hSv)) T3 P3 k3 fun V4 b ns4 d4 P4 k4 => ?_
        have d24 : Ext V V4 := (d2.trans d3).trans d4
        cases b with
        | false =>
          rw [if_neg Bool.false_ne_true] at k4 ⊢
          exact ⟨V4, ns4, xsv, accv, rfl, d24.s.trans hSv, hhv.on d24, ev.trans d24.e0, P4, up_vs d24 haccv, k4⟩
        | true =>
          rw [if_pos rfl] at k4 ⊢
          refine le V4 τ3 θ3 ns4 _ _ (d24.s.trans hSv) (T3.mono d4) P4 k4 fun V5 v r ns5 d5 P5 ok5 k5 => ?_
          have d25 : Ext V V5 := d24.trans d5
          have hv5 := hhv.on d25
          have ha5 := up_vs d25 haccv
          obtain ⟨hv6, P6⟩ := hv5.put (u := .lst (xsv ++ [v])) P5
          refine ⟨xsv, hv5.at P5, by rw [ha5.length]; exact k5.1, V5.hold D (.lst (xsv ++ [v])), ns5, xsv ++ [v], accv ++ [r], rfl, d25.s.trans hSv, hv6, (ev.trans d25.e0).trans (hv5.e0hold P5), P6, ?_, k5.2⟩
          exact low_vs hold_low (Dts.append ha5 (.cons ok5 .nil))
      · have hj' : j = es.length := by omega
        subst hj'
        rw [List.drop_length] at hfv
        exact .inl ⟨wk1.stops V msv ev Ov, V, msv, xsv, accv, rfl, hSv, hhv, Ov, haccv, hfv⟩
  · have hi' : i = ds.length := by omega
    subst hi'
    rw [List.drop_length] at hf
    exact .inl ⟨wk.stops W' ms' hh.e0 O', q W1 W' ms' D xs acc e1 hh hk' O' hacc hf⟩
theorem le_lc2 {S : Sg} {ti ti1 : TI} {g g1 : TG} {tt tt1 : TT} {te : TE} {wi wi1 : WI} {wg wg1 : WG} {wt wt1 : WT} {we : WE} {vs ss vs1 ss1 : List Nat} (hss : ∀ i ∈ ss, i ∈ vs) (hss1 : ∀ i ∈ ss1, i ∈ vs1) (li : LI S ti wi) (lg : LG (S.nv) g wg ss) (lt : LT (S.nv) tt wt)
    (li1 : LI (S.nv) ti1 wi1) (lg1 : LG (S.nv) g1 wg1 ss1) (lt1 : LT (S.nv) tt1 wt1) (le : LE (S.nv) te we) : LE S (tLc2 ti g tt ti1 g1 tt1 te vs vs1) (wLc2 wi wg wt wi1 wg1 wt1 we vs vs1) :=
  fun W σ ρ ms Q k hK R O hw q => lc2_go hss hss1 li lg lt li1 lg1 lt1 le W σ ρ ms Q _ hK R O hw fun W1 W' ms' D xs acc e1 hh hk O' ha hkf => by
    obtain ⟨e, O2, low⟩ := hh.lay (u := .lst xs) O' hk
    have := q (W'.laid W1.S W1.P D (.lst xs)) (.ref D) (.lst acc) ms' (e1.trans e) O2 (.lst upd_same (low_vs low ha)) hkf
    have z : (W'.laid W1.S W1.P D (.lst xs)).H = W'.H := upd_id (hh.at O')
    rw [z] at this; exact this
def tiOf (S : Sg) (w : WI) : TI := fun σ H R => ∃ (W : Wd) (ρ : Env) (ms : Ms) (k : List Dat → Ms → Prop), W.H = H ∧ W.S = S ∧ Rel W σ ρ ∧ Own W ms ∧ w ρ ms k ∧ ∀ W' J ds ms', Ext W W' → Own W' ms' → WalkD W' J ds → k ds ms' → R J W'.H
theorem li_of {S : Sg} {w : WI} : LI S (tiOf S w) w := fun W σ ρ ms R k hK Rl O hw q => ⟨W, ρ, ms, k, rfl, hK, Rl, O, hw, q⟩
section
variable {X : Cy} {pos : Pos}
theorem DI.pi {tg e : Expr} {w : WI} (h : DI X tg e w) : PI X.X tg e (tiOf X.S w) := by
  obtain ⟨t, p, l⟩ := h
  exact ⟨fun pins s σ H R I ⟨W, ρ, ms, k, hH, hK, Rl, O, hw, q⟩ => p.run pins s σ H R I (by rw [← hH]; exact l W σ ρ ms R k hK Rl O hw q)⟩
theorem de_lc2 {elt tg iter tg1 iter1 : Expr} {ifs ifs1 : List Expr} {scope : Scope} {own : List (Str × Nat)} {vs1 : List Nat} {wi wi1 : WI} {wg wg1 : WG} {wt wt1 : WT} {we : WE} {ss ss1 : List Nat} (hc : X.X.calm = true) (hN : X.X.N.Nodup) (hi : DI X tg iter wi) (ok : BlkOk X.X.N X.X.env.scope scope own)
    (hg : ∀ s H C cl fp, DG (X.blk s H scope cl C fp) tg wg ss) (ht : ∀ s H C cl fp, DTs (X.blk s H scope cl C fp) ifs wt)
    (hi1 : ∀ s H C cl fp, DI (X.blk s H scope cl C fp) tg1 iter1 wi1) (hg1 : ∀ s H C cl fp, DG (X.blk s H scope cl C fp) tg1 wg1 ss1) (ht1 : ∀ s H C cl fp, DTs (X.blk s H scope cl C fp) ifs1 wt1)
    (he : ∀ s H C cl fp, DE (X.blk s H scope cl C fp) elt we) (hv : ∀ i ∈ vs1, i ∈ own.map (·.2) := by decide) (hss : ∀ i ∈ ss, i ∈ own.map (·.2) := by decide) (hss1 : ∀ i ∈ ss1, i ∈ vs1 := by decide) (hs : ∀ x, foldedSetIterable iter X.X.env x = pure x := by intro _; rfl) (hs1 : ∀ env x, foldedSetIterable iter1 env x = pure x := by intro _ _; rfl) :
    DE X (.ListComp elt [⟨tg, iter, ifs, 0⟩, ⟨tg1, iter1, ifs1, 0⟩] scope pos) (wLc2 wi wg wt wi1 wg1 wt1 we (own.map (·.2)) vs1) := by
  obtain ⟨ti, pi, li⟩ := hi
  exact ⟨_, pe_lc2 (wi1 := tiOf (X.S.nv) wi1) (g := tgOf (X.S.nv) wg ss) (g1 := tgOf (X.S.nv) wg1 ss1) (tt := ttOf (X.S.nv) wt) (tt1 := ttOf (X.S.nv) wt1) (te := teOf (X.S.nv) we) hc hN pi ok hv (fun s H C cl fp => (hg s H C cl fp).pg) (fun s H C cl fp => (ht s H C cl fp).pts) (fun s H C cl fp => (hi1 s H C cl fp).pi) (fun s H C cl fp => (hg1 s H C cl fp).pg) (fun s H C cl fp => (ht1 s H C cl fp).pts) (fun s H C cl fp => (he s H C cl fp).pe) hs hs1, le_lc2 hss hss1 li lg_of lt_of li_of lg_of lt_of le_of⟩
theorem ds_setLc2 {i : Nat} {y : Str} {py : Pos} {elt tg iter tg1 iter1 : Expr} {ifs ifs1 : List Expr} {scope : Scope} {own : List (Str × Nat)} {vs1 : List Nat} {pos spos : Pos} {wi wi1 : WI} {wg wg1 : WG} {wt wt1 : WT} {we : WE} {ss ss1 : List Nat} (hc : X.X.calm = true) (hN : X.X.N.Nodup) (hy : X.X.N[i]? = some y) (hyl : X.X.env.scope.names.lookup y = some .local)
    (hsw : swapsWith (.ListComp elt [⟨tg, iter, ifs, 0⟩, ⟨tg1, iter1, ifs1, 0⟩] scope pos) (some (.Name y py)) spos.line X.X.env = pure true) (hi : DI X tg iter wi) (ok : BlkOk X.X.N X.X.env.scope scope own)
    (hg : ∀ s H C cl fp, DG (X.blk s H scope cl C fp) tg wg ss) (ht : ∀ s H C cl fp, DTs (X.blk s H scope cl C fp) ifs wt)
    (hi1 : ∀ s H C cl fp, DI (X.blk s H scope cl C fp) tg1 iter1 wi1) (hg1 : ∀ s H C cl fp, DG (X.blk s H scope cl C fp) tg1 wg1 ss1) (ht1 : ∀ s H C cl fp, DTs (X.blk s H scope cl C fp) ifs1 wt1)
    (he : ∀ s H C cl fp, DE (X.blk s H scope cl C fp) elt we) (hv : ∀ i ∈ vs1, i ∈ own.map (·.2) := by decide) (hss : ∀ i ∈ ss, i ∈ own.map (·.2) := by decide) (hss1 : ∀ i ∈ ss1, i ∈ vs1 := by decide) (hs : ∀ x, foldedSetIterable iter X.X.env x = pure x := by intro _; rfl) (hs1 : ∀ env x, foldedSetIterable iter1 env x = pure x := by intro _ _; rfl) :
    DS X (.Assign [.Name y py] (.ListComp elt [⟨tg, iter, ifs, 0⟩, ⟨tg1, iter1, ifs1, 0⟩] scope pos) spos) (wAsg (wLc2 wi wg wt wi1 wg1 wt1 we (own.map (·.2)) vs1) (wgName i)) := by
  obtain ⟨ti, pi, li⟩ := hi
  exact ⟨_, L2.ps_setLc2 (wi1 := tiOf (X.S.nv) wi1) (g := tgOf (X.S.nv) wg ss) (g1 := tgOf (X.S.nv) wg1 ss1) (tt := ttOf (X.S.nv) wt) (tt1 := ttOf (X.S.nv) wt1) (te := teOf (X.S.nv) we) hc hN hy hyl hsw pi ok hv (fun s H C cl fp => (hg s H C cl fp).pg) (fun s H C cl fp => (ht s H C cl fp).pts) (fun s H C cl fp => (hi1 s H C cl fp).pi) (fun s H C cl fp => (hg1 s H C cl fp).pg) (fun s H C cl fp => (ht1 s H C cl fp).pts) (fun s H C cl fp => (he s H C cl fp).pe) hs hs1, ls_asg (le_lc2 hss hss1 li lg_of lt_of li_of lg_of lt_of le_of) lg_name⟩
end
end Sy
namespace Sy
open PySem PySem.Spec PyProof.Rows L2
/-! ## an own class: its fields, methods, properties, operators -/
structure Kl where
  nm : Str
  fs : List Str := []
  ms : List Str := []
  ps : List Str := []
  mkq : Bool := false
  ops : List (Operator × Str) := []
def clB (K : PySem.W.Frag) (C : Addr) : Bool := PySem.W.plainGet K C Str.empty && PySem.W.hasDictIn K C && PySem.W.plainOver K C && decide (PySem.W.findIn K (.ref C) "__setattr__" = some (some (.builtin "object.__setattr__")))
theorem clB_ok {K : PySem.W.Frag} {C : Addr} (h : clB K C = true) : Cls K C := by
  unfold clB at h
  simp only [Bool.and_eq_true, decide_eq_true_eq] at h
  exact ⟨h.1.1.1, h.1.1.2, h.1.2, h.2⟩
def meB (K : PySem.W.Frag) (C : Addr) (m : Str) (f : Addr) : Bool := decide (PySem.W.findIn K (.ref C) m = some (some (.ref f))) && PySem.W.isFn K (.ref f) && PySem.W.keepIn K (.ref f)
theorem meB_ok {K : PySem.W.Frag} {C f : Addr} {m : Str} (h : meB K C m f = true) : Meth K C m f := by
  unfold meB at h
  simp only [Bool.and_eq_true, decide_eq_true_eq] at h
  exact ⟨h.1.1, h.1.2, h.2⟩
def mkB (K : PySem.W.Frag) (C f : Addr) : Bool := PySem.W.makesIn K C && decide (PySem.W.findIn K (.ref C) "__init__" = some (some (.ref f))) && PySem.W.isFn K (.ref f) && PySem.W.keepIn K (.ref C)
theorem mkB_ok {K : PySem.W.Frag} {C f : Addr} (h : mkB K C f = true) : Mk K C f := by
  unfold mkB at h
  simp only [Bool.and_eq_true, decide_eq_true_eq] at h
  exact ⟨h.1.1.1, h.1.1.2, h.1.2, h.2⟩
def prB (K : PySem.W.Frag) (C : Addr) (f : Str) (p g : Addr) : Bool := decide (PySem.W.findIn K (.ref C) f = some (some (.ref p))) && decide (PySem.W.specialIn K (.ref p) "__get__" = some (some (.builtin "property.__get__"))) && decide (PySem.W.takesIn K (.ref p) = some true) &&
  (match PySem.W.recIn K p "property" with
    | some (.ref g' :: _) => g' == g
    | _ => false)
theorem prB_ok {K : PySem.W.Frag} {C p g : Addr} {f : Str} (h : prB K C f p g = true) : PropOf K C f p g := by
  unfold prB at h
  simp only [Bool.and_eq_true, decide_eq_true_eq] at h
  refine ⟨h.1.1.1, h.1.1.2, h.1.2, ?_⟩
  have h4 := h.2
  split at h4
  · rename_i g' r e
    rw [← eq_of_beq h4]
    exact ⟨r, e⟩
  · cases h4
structure OpIn (K : PySem.W.Frag) (C : Addr) (op : Operator) (f : Addr) : Prop where
  sf : PySem.W.selfFirst K C = true
  hs : PySem.W.findIn K (.ref C) (PySem.dunder op.info.2) = some (some (.ref f))
  hf : PySem.W.isFn K (.ref f) = true
def opB (K : PySem.W.Frag) (C : Addr) (op : Operator) (f : Addr) : Bool := PySem.W.selfFirst K C && decide (PySem.W.findIn K (.ref C) (PySem.dunder op.info.2) = some (some (.ref f))) && PySem.W.isFn K (.ref f)
theorem opB_ok {K : PySem.W.Frag} {C f : Addr} {op : Operator} (h : opB K C op f = true) : OpIn K C op f := by
  unfold opB at h
  simp only [Bool.and_eq_true, decide_eq_true_eq] at h
  exact ⟨h.1.1, h.1.2, h.2⟩
def klB (K : PySem.W.Frag) (k : Kl) : Bool := clB K (He.ga K k.nm) && (k.fs.all fun f => decide (PySem.W.findIn K (.ref (He.ga K k.nm)) f = some none)) && (k.ms.all fun m => meB K (He.ga K k.nm) m (fA K (k.nm, some m))) &&
  (k.ps.all fun f => prB K (He.ga K k.nm) f (He.ma K (He.ga K k.nm) f) (fA K (k.nm, some f))) && (!k.mkq || mkB K (He.ga K k.nm) (fA K (k.nm, some "__init__"))) && (k.ops.all fun p => opB K (He.ga K k.nm) p.1 (fA K (k.nm, some p.2)))
structure KlOk (K : PySem.W.Frag) (k : Kl) : Prop where
  cls : Cls K (He.ga K k.nm)
  fld : ∀ f ∈ k.fs, NoAttr K (He.ga K k.nm) f
  mth : ∀ m ∈ k.ms, Meth K (He.ga K k.nm) m (fA K (k.nm, some m))
  prp : ∀ f ∈ k.ps, PropOf K (He.ga K k.nm) f (He.ma K (He.ga K k.nm) f) (fA K (k.nm, some f))
  mkr : k.mkq = true → Mk K (He.ga K k.nm) (fA K (k.nm, some "__init__"))
  opr : ∀ p ∈ k.ops, OpIn K (He.ga K k.nm) p.1 (fA K (k.nm, some p.2))
theorem klB_ok {K : PySem.W.Frag} {k : Kl} (h : klB K k = true) : KlOk K k := by
  unfold klB at h
  simp only [Bool.and_eq_true] at h
  obtain ⟨⟨⟨⟨⟨h1, h2⟩, h3⟩, h4⟩, h5⟩, h6⟩ := h
  refine ⟨clB_ok h1, fun f hf => (show PySem.W.findIn K (.ref (He.ga K k.nm)) f = some none from of_decide_eq_true (List.all_eq_true.mp h2 f hf)), fun m hm => meB_ok (List.all_eq_true.mp h3 m hm), fun f hf => prB_ok (List.all_eq_true.mp h4 f hf), fun hk => ?_, fun p hp => opB_ok (List.all_eq_true.mp h6 p hp)⟩
  rw [hk] at h5
  exact mkB_ok (by simpa using h5)
section
variable {X : Cy}
theorem de_binK {op : Operator} {C m : Str} {k : Nat} {ps : List Str} {R : FSpec} {a b : Expr} {wa wb : WE} {pos : Pos} (o : OpIn X.X.K (He.ga X.X.K C) op (fA X.X.K (C, some m))) (D : DefOk X.X.prog X.X.w X.X.K X.X.mg X.X.base (C, some m) ps k R) (hg : X.X.A.guards = some []) (room : Room k X.X.A) (ha : DE X a wa) (hb : DE X b wb) : DE X (.BinOp a op b pos) (wBin C R wa wb) := de_bin o.sf o.hs o.hf D hg room ha hb
end
end Sy
namespace Sy
open PySem PySem.Spec PyProof.Rows L2
/-! a new thing that is frozen at once -/
def fixK (k : KR) : KR := fun r ms1 => match r with
  | .own i => (match ms1[i]? with
    | some (.ins C fs) => k (.ins C fs) (ms1.set i .gone)
    | some (.lst ds) => k (.lst ds) (ms1.set i .gone)
    | some (.dic ds) => k (.dic ds) (ms1.set i .gone)
    | _ => False)
  | x => k x ms1
theorem wFix_eq {we : WE} {ρ : Env} {ms : Ms} {k : KR} : wFix we ρ ms k = we ρ ms (fixK k) := rfl
theorem fixK_at {k : KR} {ms : Ms} {i : Nat} {c : Cell} {d : Dat} (e : ms[i]? = some c) (hc : (∃ C fs, c = .ins C fs ∧ d = .ins C fs) ∨ (∃ ds, c = .lst ds ∧ d = .lst ds) ∨ ∃ ds, c = .dic ds ∧ d = .dic ds) (h : k d (ms.set i .gone)) : fixK k (.own i) ms := by
  rcases hc with ⟨C, fs, rfl, rfl⟩ | ⟨ds, rfl, rfl⟩ | ⟨ds, rfl, rfl⟩ <;> simp [fixK, e, h]
theorem fixK_dic {k : KR} {M : Ms} {d : List (Key × Dat)} (h : k (.dic d) (M ++ [.gone])) : fixK k (.own M.length) (M ++ [.dic d]) := by
  simp [fixK, h]
theorem fixK_lst {k : KR} {M : Ms} {d : List Dat} (h : k (.lst d) (M ++ [.gone])) : fixK k (.own M.length) (M ++ [.lst d]) := by
  simp [fixK, h]
theorem fixK_ins {k : KR} {ms : Ms} {i : Nat} {C : Str} {fs : List (Str × Dat)} (e : ms[i]? = some (.ins C fs)) (h : k (.ins C fs) (ms.set i .gone)) : fixK k (.own i) ms := by
  simp [fixK, e, h]
/-! a cell among others -/
theorem at_set {ms g : Ms} {j : Nat} {c : Cell} (hj : j < ms.length) : (ms.set j c ++ g)[j]? = some c := by
  rw [List.getElem?_append_left (by simpa using hj)]; simp [hj]
theorem set_set {ms g : Ms} {j : Nat} {c c' : Cell} (hj : j < ms.length) : (ms.set j c ++ g).set j c' = ms.set j c' ++ g := by
  rw [List.set_append_left _ _ (by simpa using hj)]; simp
theorem at_app {ms g : Ms} {j : Nat} {c : Cell} (e : ms[j]? = some c) : (ms ++ g)[j]? = some c := by
  rw [List.getElem?_append_left (List.getElem?_eq_some_iff.mp e).1]; exact e
theorem lt_of_at {ms : Ms} {j : Nat} {c : Cell} (e : ms[j]? = some c) : j < ms.length := (List.getElem?_eq_some_iff.mp e).1
/-! all([..]) -/
theorem all_bl {α : Type} {l : List α} : (l.map fun _ => Dat.bl true) = (List.replicate l.length true).map Dat.bl := by
  simp [List.map_const']
theorem all_yes {ms : Ms} {k : KR} {n : Nat} (h : k (.bl true) ms) : wAllL [.lst ((List.replicate n true).map Dat.bl)] ms k := ⟨_, rfl, by simpa using h⟩
theorem all_map {α : Type} {l : List α} {f : α → Bool} {ms : Ms} {k : KR} (h : k (.bl (l.all f)) ms) : wAllL [.lst (l.map fun x => Dat.bl (f x))] ms k := ⟨l.map f, by simp, by simpa [List.all_map] using h⟩
theorem lc_len {α : Type} {xs : List α} {n : Nat} (h : xs.length ≤ n) (hn : n ≤ 1000000) : xs.length ≤ sizeLine := Nat.le_trans h (Nat.le_trans hn size_big)
end Sy
namespace Sy
open PySem PySem.Spec PyProof.Rows L2
@[simp] theorem shI {i : Int} : SeqAt.shaped (.int i) = true := by simp [SeqAt.shaped, PyData.canLay0, PyData.depth]
@[simp] theorem shB {i : Bool} : SeqAt.shaped (.bool i) = true := by simp [SeqAt.shaped, PyData.canLay0, PyData.depth]
@[simp] theorem shN : SeqAt.shaped .none = true := by decide
@[simp] theorem shL0 : SeqAt.shaped (.list []) = true := by decide
theorem shIs (ns : List Int) : plains (ns.map .int) = true ∧ SeqAt.shaped (.list (toPys (ns.map .int))) = true := by
  have f : fine 2 (.lst (ns.map .int)) := fine_lst fun d hd => by
    obtain ⟨i, _, rfl⟩ := List.mem_map.mp hd
    exact fine_leaf (by decide) rfl
  exact ⟨f.1, f.shaped (by decide)⟩
end Sy
namespace Sy
open PySem PySem.Spec PyProof.Rows L2
theorem lcW_ind {wg : WG} {wt : WT} {we : WE} {ρ : Env} {k : List Dat → Ms → Prop} {I : List Dat → List Dat → Ms → Prop}
    (step : ∀ d ds acc ms, I (d :: ds) acc ms → ∀ F : List Dat → Ms → Prop, (∀ acc' ms', I ds acc' ms' → F acc' ms') → wg d ρ ms fun ρ1 ms1 => wt ρ1 ms1 fun b ms2 => if b = true then we ρ1 ms2 fun y ms3 => acc.length < sizeLine ∧ F (acc ++ [y]) ms3 else F acc ms2)
    (fin : ∀ acc ms, I [] acc ms → k acc ms) : ∀ ds acc ms, I ds acc ms → lcW wg wt we ρ k ds acc ms
  | [], acc, ms, h => fin acc ms h
  | d :: ds, acc, ms, h => step d ds acc ms h _ fun acc' ms' h' => lcW_ind step fin ds acc' ms' h'
theorem cut_take {ds : List Dat} {m : Nat} : cutD ds none (some (m : Int)) = ds.take m := by
  unfold cutD
  rw [HT.sIx_none, HT.sIx_nat]
  simp only [List.drop_zero, Nat.sub_zero]
  rw [Nat.min_comm]
  rcases Nat.le_total m ds.length with h | h
  · rw [Nat.min_eq_right h]
  · rw [Nat.min_eq_left h, List.take_of_length_le (Nat.le_refl _), List.take_of_length_le h]
theorem eqI {a b : Int} {ms : Ms} {k : KR} (h : k (.bl (decide (a = b))) ms) : wEq (.int a) (.int b) ms k := ⟨_, _, rfl, rfl, rfl, rfl, shI, shI, h⟩
theorem neI {a b : Int} {ms : Ms} {k : KR} (h : k (.bl (!decide (a = b))) ms) : wNe (.int a) (.int b) ms k := ⟨_, _, rfl, rfl, rfl, rfl, shI, shI, h⟩
theorem cnt_str {ws : List Str} {x : Str} : (ws.map Dat.str).countP (fun z => eqD z (.str x)) = ws.count x := by
  rw [List.countP_map]
  rfl
theorem flat_strs {ws : List Str} : (ws.map Dat.str).all flat = true := by simp
end Sy
namespace Sy
open PySem L2
/-! {**a, k: v} -/
section
variable {prog : Program} {w : World} {κ : Type} [DecidableEq κ] {kd : KeyKind prog w κ} {A : Around} {E : Value → Shared → Prop} {s : Shared}
theorem put_pairs {d : Addr} {xs : List (κ × Value)} {k : κ} {kv v : Value} {Q : Unit → Shared → Prop} (hz : xs.length ≤ sizeLine) (hi : kd.is k kv = true) (hx : s.heap.DictOf kd d xs)
    (hq : ∀ g, g.DictOf kd d (stored xs k v) → Heap.SameBut d s.heap g → Q () { s with heap := g }) :
    wpAny (model prog w) A (dictPut d (kd.hash k) kv v) Q E s := by
  obtain ⟨ob, es, ep, g1, g2, g3, g4, g5, g6⟩ := hx
  have ln : es.size ≤ sizeLine := by
    have a := g5.length
    rw [Array.length_toList] at a
    omega
  have same : (es.findIdx? fun z => kd.is k z.key) = xs.findIdx? fun z => decide (z.1 = k) := by
    have a := g5.findIdx k
    obtain ⟨l⟩ := es
    simpa using a
  unfold dictPut
  refine wpAny_bind (wpAny_dictFind_of hi g1 g3 g4 ?_)
  cases at_ : es.findIdx? fun z => kd.is k z.key with
  | none =>
    have out : k ∉ xs.map (·.1) := not_mem_of_findIdx_none (same ▸ at_)
    have no : ¬ (xs.any fun z => decide (z.1 = k)) = true := fun a => by
      obtain ⟨z, hz, e⟩ := List.any_eq_true.mp a
      exact out (List.mem_map.mpr ⟨z, hz, of_decide_eq_true e⟩)
    refine wpAny_updateDictKeys (hz := ln) (f := fun z => z.push ⟨kd.hash k, kv, v⟩) g1 g3 (hq (s.heap.update d (Obj.mapDictKeys fun z => z.push ⟨kd.hash k, kv, v⟩)) ⟨_, es.push ⟨kd.hash k, kv, v⟩, ep + 1, ?_, g2.mapDictKeys _, Obj.data_mapDictKeys g3 fun z => z.push ⟨kd.hash k, kv, v⟩, g4.push hi _, ?_, ?_⟩ (Heap.SameBut.update ..))
    · exact Heap.get?_update_self _ g1 (Obj.isFreed_of_dict (Obj.data_mapDictKeys g3 _))
    · rw [stored, if_neg no]
      have a := g5.append hi (kd.hash k) v
      obtain ⟨l⟩ := es
      simpa using a
    · rw [stored, if_neg no, List.map_append, List.nodup_append]
      refine ⟨g6, by simp, fun a ha b hb => ?_⟩
      rw [show b = k by simpa using hb]
      exact fun e => out (e ▸ ha)
  | some i =>
    have yes := any_of_findIdx_some (same ▸ at_)
    refine wpAny_updateDict (f := fun z => z.modify i fun e => { e with val := v }) g1 g3 (hq (s.heap.update d (Obj.mapDict fun z => z.modify i fun e => { e with val := v })) ⟨_, es.modify i fun e => { e with val := v }, ep, ?_, g2.mapDict _, Obj.data_mapDict g3 fun z => z.modify i fun e => { e with val := v }, g4.modify _ _, ?_, ?_⟩ (Heap.SameBut.update ..))
    · exact Heap.get?_update_self _ g1 (Obj.isFreed_of_dict (Obj.data_mapDict g3 _))
    · rw [stored, if_pos yes]
      have a : (es.toList.findIdx? fun z => kd.is k z.key) = some i := by
        rw [← at_]; obtain ⟨l⟩ := es; simp
      have b := g5.modify g6 a v
      obtain ⟨l⟩ := es
      simpa using b
    · rw [stored, if_pos yes, keys_map_store]; exact g6
theorem merge_pairs {d o : Addr} {xs ys : List (κ × Value)} {Q : Unit → Shared → Prop} (hr : ∀ k v, kd.is k v = true → ∀ a, v ≠ .ref a) (hne : d ≠ o) (hsy : (o == sysModules) = false) (hz : xs.length + ys.length ≤ sizeLine)
    (hx : s.heap.DictOf kd d xs) (hy : s.heap.DictOf kd o ys) (hq : ∀ g, g.DictOf kd d (merged xs ys) → g.DictOf kd o ys → Heap.SameBut d s.heap g → Q () { s with heap := g }) :
    wpAny (model prog w) A (mergeMapping d (.ref o) false) Q E s := by
  obtain ⟨ob, es, ep, g1, g2, g3, g4, g5, g6⟩ := id hx
  obtain ⟨ob2, es2, ep2, k1, k2, k3, k4, k5, k6⟩ := id hy
  have ln : ys.length = es2.size := by rw [← k5.length]; simp
  unfold mergeMapping
  refine wpAny_bind (wpAny_isInstance hy.typeIs isSubtype_dict_dict ?_)
  dsimp only
  rw [if_pos rfl]
  refine wpAny_bind (wpAny_specialOf hy.typeIs F.slot_dict_iter.lookup ?_)
  refine wpAny_bind (wpAny_pure ?_)
  simp only [beq_self_eq_true]
  rw [hsy, if_neg Bool.false_ne_true]
  refine wpAny_bind (wpAny_dictEntries g1 g3 ?_)
  have turns : wpAny (model prog w) A (do
      let l ← dictEntries o
      let e0 ← dictEpoch o
      forIn (List.range l.size) PUnit.unit fun i (_ : PUnit) => (do
        let l2 ← dictEntries o
        match l2[i]? with
          | some e => do
            holding [e.key, e.val] (dictPut d e.hash e.key e.val)
            let e1 ← dictEpoch o
            if (e1 != e0) = true then do
              (unsupported "dict.changed-during-merge" : Sem PUnit)
              pure (ForInStep.yield PUnit.unit)
            else pure (ForInStep.yield PUnit.unit)
          | _ => do
            (unsupported "dict.changed-during-merge" : Sem PUnit)
            pure (ForInStep.yield PUnit.unit) : Sem (ForInStep PUnit))
      pure ()) Q E s := by
    refine wpAny_bind (wpAny_dictEntries k1 k3 ?_)
    refine wpAny_bind (wpAny_dictEpoch k1 k3 ?_)
    refine wpAny_bind ?_
    refine wpAny_forIn_list _ (fun rest _ t => ∃ g i, t = { s with heap := g } ∧ rest = List.range' i (es2.size - i) ∧ i ≤ es2.size ∧ g.DictOf kd d (merged xs (ys.take i)) ∧ g.get? o = some ob2 ∧ Heap.SameBut d s.heap g)
      _ ?_ ?_ _ _ ⟨s.heap, 0, rfl, by rw [List.range_eq_range']; rfl, Nat.zero_le _, by simpa [merged] using hx, k1, Heap.SameBut.refl _ _⟩
    · rintro x rest b t ⟨g, i, rfl, er, hi, m1, m2, m3⟩
      have lt : i < es2.size := by
        apply Classical.byContradiction
        intro z
        rw [show es2.size - i = 0 by omega] at er
        cases er
      rw [show es2.size - i = (es2.size - (i + 1)) + 1 by omega, List.range'_succ] at er
      injection er with q1 q2
      subst q1
      refine wpAny_bind (wpAny_dictEntries m2 k3 ?_)
      rw [Array.getElem?_eq_getElem lt]
      obtain ⟨⟨k, v⟩, hkv⟩ : ∃ kv, ys[x]? = some kv := ⟨ys[x]'(by rw [ln]; exact lt), List.getElem?_eq_getElem _⟩
      obtain ⟨c1, c2⟩ := k5.get? (e := es2[x]) (by simp [lt]) hkv
      obtain ⟨k', c3, c4⟩ := k4 es2[x] (Array.getElem_mem lt)
      obtain rfl : k' = k := kd.inj _ _ _ c3 c1
      have room : (merged xs (ys.take x)).length ≤ sizeLine := by
        have a := merged_length_le xs (ys.take x)
        have b : (ys.take x).length ≤ ys.length := by rw [List.length_take]; omega
        omega
      show wpAny _ _ (holding [es2[x].key, es2[x].val] (dictPut d es2[x].hash es2[x].key es2[x].val) >>= _) _ _ _
      rw [c4, c2]
      refine wpAny_bind (wpAny_holding (put_pairs room c1 m1 fun g' n1 n2 => ?_))
      have back : g'.get? o = some ob2 := (n2.2 o (Ne.symm hne)).trans m2
      refine wpAny_bind (wpAny_dictEpoch back k3 ?_)
      rw [if_neg (by simp)]
      refine wpAny_pure ⟨g', x + 1, rfl, q2, lt, ?_, back, m3.trans n2⟩
      rw [merged_take_succ xs ys x (k', v) hkv]
      exact n1
    · rintro b t ⟨g, i, rfl, er, hi, m1, m2, m3⟩
      have last : i = es2.size := by
        apply Classical.byContradiction
        intro z
        rw [show es2.size - i = (es2.size - (i + 1)) + 1 by omega, List.range'_succ] at er
        cases er
      refine wpAny_pure (hq g ?_ ⟨ob2, es2, ep2, m2, k2, k3, k4, k5, k6⟩ m3)
      rw [last, ← ln, List.take_length] at m1
      exact m1
  split
  · refine wpAny_bind (wpAny_dictEntries k1 k3 ?_)
    refine wpAny_bind ?_
    rw [← Array.forIn_toList]
    refine wpAny_forIn_list _ (fun rest _ t => t = s ∧ ∀ z ∈ rest, z ∈ es2.toList) _ ?_ ?_ _ _ ⟨rfl, fun _ h => h⟩
    · rintro x rest b t ⟨rfl, hm⟩
      obtain ⟨k', c3, c4⟩ := k4 x (by simpa using hm x (by simp))
      have nr := hr _ _ c3
      split
      · rename_i a e; exact absurd e (nr a)
      · exact wpAny_pure ⟨rfl, fun z hz => hm z (List.mem_cons_of_mem _ hz)⟩
    · rintro b t ⟨rfl, _⟩
      exact turns
  · exact turns
end
end Sy
namespace Sy
open PySem L2
theorem mix_ref {P : Program} {w : World} : ∀ k v, (mixKind P w).is k v = true → ∀ a, v ≠ .ref a := fun k v h a e => by
  subst e
  rcases keyIs_shape h with ⟨i, t, _, e⟩ | ⟨x, t, _, e⟩ <;> cases e
section
variable {X : Cx}
def tSpr1 (ta : TE) (trs : List (TE × TE)) : TE := fun σ H Q => ∀ p, H p = none → ta σ (upd H p (.dK [])) fun x H1 => ∃ a xs, x = .ref a ∧ a ≠ p ∧ H1 p = some (.dK []) ∧ Rd H1 a (.dK xs) ∧ xs.length + 16 ≤ sizeLine ∧
  ∀ q, upd H1 p (.dK xs) q = none → tPairs trs σ (upd (upd H1 p (.dK xs)) q (.dK [])) fun ps H2 => ∃ ys : List (Key × V), H2 p = some (.dK xs) ∧ H2 q = some (.dK []) ∧ ps = ys.map (fun kv => (kV kv.1, kv.2)) ∧ ys.length ≤ 15 ∧ Q (.ref p) (upd (upd H2 q (.dK (mergeK [] ys))) p (.dK (mergeK xs (mergeK [] ys))))
theorem pe_spr1 {a k v : Expr} {ta : TE} {trs : List (TE × TE)} {pos : Pos} (ha : PE X a ta) (hp : PPs X pos [some k] [v] trs) : PE X (.Dict [none, some k] [a, v] pos) (tSpr1 ta trs) := by
  refine ⟨fun pins s σ H Q I h => ?_⟩
  rw [arm_eval_Dict]
  refine wpAny_bind (wpAny_standAt ?_)
  show wpAny _ _ (dictDisplay [(none, do let x ← eval a X.env; standAt pos; pure x), (some (eval k X.env), do let x ← eval v X.env; standAt pos; pure x)]) _ _ _
  unfold dictDisplay
  simp only [List.forIn_cons, List.forIn_nil, pure_bind, bind_assoc, List.isEmpty_nil, List.nil_append, List.length_cons, List.length_nil, if_true]
  have hn := I.hok.fresh (Nat.le_refl s.heap.objs.size)
  have I1 := I.laid (a := s.heap.objs.size) (o := .dK []) (h' := s.heap.push { cls := .type "dict", data := .dict #[] }) (t' := s.toks) (fun _ _ z => Heap.get?_push_of_some _ z) (Nat.le_refl _) (dk_empty s.heap I.big)
  refine wpAny_bind (wpAny_alloc ?_)
  refine wpAny_bind (wpAny_holding (wpAny_bind (thn (ha.run pins _ σ _ _ I1 (h _ hn)) fun va s2 ⟨x, H1, I2, r1, b, xs, ex, ne, e1, rd, sz, q1⟩ => ?_)))
  subst ex
  cases r1
  refine wpAny_bind (wpAny_standAt (wpAny_pure ?_))
  generalize hpp : s.heap.objs.size = p at *
  obtain ⟨z0, hd, vs0, r0, dd⟩ := dk_of I2.hok e1
  cases r0
  obtain ⟨z1, hdb, vsb, rb, db⟩ := dk_rd I2.hok rd
  have lb : vsb.length = xs.length := rb.length.symm
  refine wpAny_bind (wpAny_onRaise (wpAny_tryCatch (wpAny_onRaise (wpAny_holding (merge_pairs (kd := mixKind X.prog X.w) mix_ref (Ne.symm ne) hdb (by rw [lb]; simp; omega) dd db fun g m1 m2 m3 => ?_)))))
  have nod : (vsb.map (·.1)).Nodup := let ⟨_, _, _, _, _, _, _, _, z⟩ := db; z
  rw [merged_nil_of_nodup vsb nod] at m1
  have I3 := d_write (t' := s2.toks) I2 (by rw [e1]; exact True.intro) m3 (let ⟨z, _, _, y, _⟩ := m1; ⟨z, y⟩) (dk_new (H' := upd H1 p (.dK xs)) z1 hd rb m1)
  have I3' : L2.Inv X pins σ (upd H1 p (.dK xs)) { s2 with heap := g } := I3
  refine wpAny_bind ?_
  rw [if_neg (by decide)]
  refine wpAny_pure ?_
  refine wpAny_bind (wpAny_pure ?_)
  dsimp only
  refine wpAny_bind ?_
  rw [if_neg (by simp)]
  have fr := I3'.hok.fresh (Nat.le_refl g.objs.size)
  have I4 := I3'.laid (a := g.objs.size) (o := .dK []) (h' := g.push { cls := .type "dict", data := .dict #[] }) (t' := s2.toks) (fun _ _ z => Heap.get?_push_of_some _ z) (Nat.le_refl _) (dk_empty g I3'.big)
  refine wpAny_bind (wpAny_holding (wpAny_subDict (knd := mixKind X.prog X.w) (by simp) (thn (hp.run pins _ σ _ _ I4 (q1 _ fr)) fun ws s4 ⟨ps, H2, I5, rel, ys, e2, e3, ep, ly, q2⟩ => ?_)))
  subst ep
  obtain ⟨rs, c, rk⟩ := carries_of (P := X.prog) (w := X.w) rel
  have npq : p ≠ g.objs.size := fun z => by
    rw [← z, upd_same] at fr
    cases fr
  generalize hqq : g.objs.size = q at *
  obtain ⟨z2, hd2, vs2, r2, dd2⟩ := dk_of I5.hok e3
  cases r2
  refine ⟨rs, c, dd2, fun h' dd' hs => ?_⟩
  have ly2 : (mergeK [] ys).length ≤ 15 := by
    have h1 := length_mergeK ys []
    rw [List.length_nil] at h1
    omega
  have I6 := d_write (t' := s4.toks + ws.length) I5 (by rw [e3]; exact True.intro) hs (let ⟨z, _, _, y, _⟩ := dd'; ⟨z, y⟩) (dk_new (H' := upd H2 q (.dK (mergeK [] ys))) (by omega) hd2 (rk.merge .nil) dd')
  have e4 : upd H2 q (.dK (mergeK [] ys)) p = some (.dK xs) := by rw [upd_ne npq]; exact e2
  obtain ⟨z3, hd3, vs3, r3, dd3⟩ := dk_of I6.hok e4
  have l3 : vs3.length = xs.length := r3.length.symm
  have lr : (merged [] rs).length = (mergeK [] ys).length := (rk.merge .nil).length.symm
  refine wpAny_bind (wpAny_onRaise (wpAny_holding (merge_pairs (kd := mixKind X.prog X.w) mix_ref npq hd2 (by rw [l3, lr]; omega) dd3 dd' fun g' m1 m2 m3 => ?_)))
  have ly3 : (mergeK xs (mergeK [] ys)).length ≤ sizeLine := by
    have h1 := length_mergeK (mergeK [] ys) xs
    omega
  have I7 := d_write (t' := s4.toks + ws.length) I6 (by rw [e4]; exact True.intro) m3 (let ⟨z, _, _, y, _⟩ := m1; ⟨z, y⟩) (dk_new (H' := upd (upd H2 q (.dK (mergeK [] ys))) p (.dK (mergeK xs (mergeK [] ys)))) ly3 hd3 ((rk.merge .nil).merge r3) m1)
  exact wpAny_pure (wpAny_pure ⟨.ref p, _, I7, rfl, q2⟩)
end
end Sy
namespace Sy
open PySem L2
@[simp] def wSpr1 (wa : WE) (ws : List (WE × WE)) : WE := fun ρ ms k => wa ρ ms fun r ms1 => match dicOf ms1 r with
  | some kvs => kvs.length + 16 ≤ sizeLine ∧ wPairs ws ρ ms1 fun ps ms2 => ps.length ≤ 15 ∧ k (.own ms2.length) (ms2 ++ [.dic (mergeD kvs (mergeD [] ps))])
  | none => False
theorem de_spr1 {X : Cy} {a k v : Expr} {wa : WE} {ws : List (WE × WE)} {pos : Pos} (ha : DE X a wa) (h : DPs X pos [some k] [v] ws) : DE X (.Dict [none, some k] [a, v] pos) (wSpr1 wa ws) := by
  obtain ⟨ta, pa, la⟩ := ha
  obtain ⟨trs, pp, l⟩ := h.ok
  refine ⟨_, pe_spr1 pa pp, fun W σ ρ ms Q k hK R O hw q D hD => ?_⟩
  obtain ⟨hh, Oh⟩ := Held.start (W0 := W) (o := .dK []) O hD
  refine la (W.hold D (.dK [])) σ ρ ms _ _ hK (hh.rel rfl R) Oh hw fun W1 x r ms1 e1 O1 ok1 h1 => ?_
  have h2 := hh.on e1
  split at h1
  · rename_i kvs ek
    obtain ⟨b, xs, rfl, rd, rk⟩ := O1.dict ok1 (dicOf_look ek)
    have nb : b ≠ D := by
      cases ok1 with
      | dic g _ => exact ne_of_none g (h2.g O1)
      | own ha => exact h2.l O1 _ _ ha
      | _ => cases ek
    refine ⟨b, xs, rfl, nb, h2.at O1, rd, by rw [rk.length]; exact h1.1, ?_⟩
    intro D2 hD2
    obtain ⟨h3, O3⟩ := h2.put (u := .dK xs) O1
    obtain ⟨h4, O4⟩ := Held.start (W0 := W1.hold D (.dK xs)) (o := .dK []) O3 hD2
    have hS : (W1.hold D (.dK xs)).S = W.S := e1.s
    refine l ((W1.hold D (.dK xs)).hold D2 (.dK [])) σ ρ ms1 _ _ (hS.trans hK) (h4.rel rfl (h3.rel hS R)) O4 h1.2 fun W4 ys ps ms4 e4 O5 rk4 h5 => ?_
    have h6 := h4.on e4
    have nD : D ≠ D2 := fun z => by
      have : upd W1.H D (.dK xs) D2 = none := hD2
      rw [← z, upd_same] at this; cases this
    refine ⟨ys, ?_, h6.at O5, rfl, by rw [rk4.length]; exact h5.1, ?_⟩
    · refine O5.px _ _ ?_
      rw [h6.p, upd_ne nD]
      exact upd_same
    · obtain ⟨h7, O7⟩ := h6.put (u := .dK (mergeK [] ys)) O5
      have hk4 : W4.K = (W1.hold D (.dK xs)).K := e4.k
      obtain ⟨e8, O8, low8⟩ := h7.drop O7 hk4
      have h9 := h3.on e8
      have hk9 : W4.K = W.K := hk4.trans e1.k
      have lowA : Low W1 W4 := ⟨e4.low.k, e4.low.ex, e4.low.adr⟩
      generalize hW8 : ({ W4.hold D2 (.dK (mergeK [] ys)) with S := (W1.hold D (.dK xs)).S, P := (W1.hold D (.dK xs)).P } : Wd) = W8 at e8 O8 low8 h9
      have hk8 : W8.K = W.K := by rw [← hW8]; exact e1.k
      have lowC : Low W4 W8 := ⟨low8.k, low8.ex, low8.adr⟩
      have lowB : Low W8 (W8.labl W.S W.P D (.dK (mergeK xs (mergeK [] ys)))) := ⟨hk8.symm, Same.refl _, fun i a e => by show (W8.A ++ [D])[i]? = some a; rw [List.getElem?_append_left (List.getElem?_eq_some_iff.mp e).1]; exact e⟩
      obtain ⟨e10, O10, ok10⟩ := h9.take (u := .dK (mergeK xs (mergeK [] ys))) (c := .dic (mergeD kvs (mergeD [] ps))) O8 hk8 ⟨_, rfl, RkOk.merge (((RkOk.merge rk4 .nil).low lowC).low lowB) (((rk.low lowA).low lowC).low lowB)⟩
      have := q _ _ _ _ e10 O10 ok10 h5.2
      rw [← hW8] at this
      exact this
  · exact h1.elim
end Sy
namespace Sy
open PySem PySem.Spec PyProof.Rows L2
section
variable {X : Cy}
/-! xs[::-1] -/
@[simp] def wRev (we : WE) : WE := fun ρ ms k => we ρ ms fun r ms1 => match look ms1 r with
  | some (.lst ds) => k (.lst ds.reverse) ms1
  | _ => False
theorem Dts.rev {K : PySem.W.Frag} {G : Hp} {A : List Addr} : ∀ {vs : List V} {ds : List Dat}, Dts K G A vs ds → Dts K G A vs.reverse ds.reverse
  | _, _, .nil => .nil
  | _, _, .cons h r => by
    rw [List.reverse_cons, List.reverse_cons]
    exact (Dts.rev r).append (.cons h .nil)
theorem de_rev {e : Expr} {we : WE} {k : Nat} {p1 p2 p3 pos : Pos} (h : DE X e we) : DE X (.Subscript e (.Slice none none (some (.UnaryOp .USub (.Constant (.int 1) k p1) p2)) p3) pos) (wRev we) := by
  obtain ⟨t, p, l⟩ := h
  refine ⟨_, pe_revL p, fun W σ ρ ms Q k hK R O hw q => l W σ ρ ms _ _ hK R O hw fun W1 v r ms1 e1 O1 ok1 h1 => ?_⟩
  split at h1
  · rename_i ds e
    obtain ⟨a, xs, rfl, g1, g2⟩ := O1.list ok1 e
    refine ⟨a, xs, rfl, ?_, fun p hp => ?_⟩
    · have := SqL.of (K := X.X.K) g1
      exact this
    · obtain ⟨O2, e2⟩ := O1.lay (o := .lst xs.reverse) hp
      exact q _ _ (.lst ds.reverse) ms1 (e1.trans e2) O2 (.lst upd_same (up_vs e2 (Dts.rev g2))) h1
  · exact h1.elim
/-! x in [..], deep -/
@[simp] def wInD (neg : Bool) : WR2 := fun a b ms k => ∃ x ds, look ms a = some x ∧ look ms b = some (.lst ds) ∧ plain x = true ∧ plains ds = true ∧ SeqAt.shaped (toPy x) = true ∧ SeqAt.shaped (.list (toPys ds)) = true ∧ k (.bl (if neg then !(toPys ds).any (fun z => PyData.eqv z (toPy x)) else (toPys ds).any (fun z => PyData.eqv z (toPy x)))) ms
theorem do_inDp (hu : X.X.A.units + 65 < cLine) : OpR X.X (compareOp .In) (rInD X.X.K) ∧ LR2 X.S (rInD X.X.K) (wInD false) := ⟨op_inD hu, fun W x y a b ms Q k hK oa ob O ⟨p, ds, h1, h2, p1, p2, s1, s2, hk⟩ z => by
  rw [show X.X.K = W.K from (congrArg Sg.K hK).symm]
  exact ⟨_, _, O.dp oa h1 p1, O.dp (x := .lst ds) ob h2 p2, s1, s2, z W _ (.bl _) ms (Ext.refl W) O (.bl _) hk⟩⟩
theorem do_notinDp (hu : X.X.A.units + 65 < cLine) : OpR X.X (compareOp .NotIn) (rNotInD X.X.K) ∧ LR2 X.S (rNotInD X.X.K) (wInD true) := ⟨op_notInD hu, fun W x y a b ms Q k hK oa ob O ⟨p, ds, h1, h2, p1, p2, s1, s2, hk⟩ z => by
  rw [show X.X.K = W.K from (congrArg Sg.K hK).symm]
  exact ⟨_, _, O.dp oa h1 p1, O.dp (x := .lst ds) ob h2 p2, s1, s2, z W _ (.bl _) ms (Ext.refl W) O (.bl _) hk⟩⟩
/-! sorted(texts) -/
@[simp] def wSortS : WC := fun rs ms k => match rs with
  | [r] => ∃ xs : List Str, look ms r = some (.lst (xs.map Dat.str)) ∧ xs.length < 64 ∧ ∀ ys : List Str, ys.Perm xs → sortedS ys = true → k (.lst (ys.map Dat.str)) ms
  | _ => False
theorem dc_sortS : CallR X.X (.builtin "sorted") (rSortedS X.X.K) ∧ LC X.S (rSortedS X.X.K) wSortS := ⟨cr_sortedS, fun W vs rs ms Q k hK ok O hw q => by
  unfold wSortS at hw
  split at hw
  · obtain ⟨v, rfl, o1⟩ := ok.one
    obtain ⟨ss, e, hl, hk⟩ := hw
    obtain ⟨a, xs, rfl, g1, g2⟩ := O.list o1 e
    rw [g2.strs] at g1
    refine ⟨a, ss, rfl, SqL.of g1, hl, fun ys p hp hs hnew => ?_⟩
    obtain ⟨O2, e2⟩ := O.lay (o := .lst (ys.map V.str)) hnew
    exact q (W.lay p _) (.ref p) (.lst (ys.map Dat.str)) ms e2 O2 (.lst upd_same (dts_strs ys)) (hk ys hp hs)
  · exact hw.elim⟩
/-! list(d) -/
@[simp] def wListD : WC := fun rs ms k => match rs with
  | [r] => (match dicOf ms r with
    | some kvs => k (.lst (kvs.map fun p => datK p.1)) ms
    | none => False)
  | _ => False
theorem dts_keys {K : PySem.W.Frag} {G : Hp} {A : List Addr} {W : Wd} : ∀ {xs : List (Key × V)} {ds : List (Key × Dat)}, RkOk W xs ds → Dts K G A (xs.map fun kv => kV kv.1) (ds.map fun p => datK p.1)
  | _, _, .nil => .nil
  | _, _, .cons (k := k) h r => by
    refine .cons ?_ (dts_keys r)
    cases k with
    | inl i => exact .int i
    | inr x => exact .str x
theorem dc_listD (hc : X.X.calm = true) : CallR X.X (.type "list") (fun xs H Q => ∃ (a : Addr) (kvs : List (Key × V)), xs = [.ref a] ∧ Rd H a (.dK kvs) ∧ ∀ p, H p = none → Q (.ref p) (upd H p (.lst (kvs.map fun kv => kV kv.1)))) ∧
    LC X.S (fun xs H Q => ∃ (a : Addr) (kvs : List (Key × V)), xs = [.ref a] ∧ Rd H a (.dK kvs) ∧ ∀ p, H p = none → Q (.ref p) (upd H p (.lst (kvs.map fun kv => kV kv.1)))) wListD := ⟨call_listD hc, fun W vs rs ms Q k hK ok O hw q => by
  unfold wListD at hw
  split at hw
  · obtain ⟨v, rfl, o1⟩ := ok.one
    split at hw
    · rename_i kvs e
      obtain ⟨a, xs, rfl, g1, g2⟩ := O.dict o1 (dicOf_look e)
      refine ⟨a, xs, rfl, g1, fun p hp => ?_⟩
      obtain ⟨O2, e2⟩ := O.lay (o := .lst (xs.map fun kv => kV kv.1)) hp
      exact q (W.lay p _) (.ref p) _ ms e2 O2 (.lst upd_same (dts_keys g2)) hw
    · exact hw.elim
  · exact hw.elim⟩
/-! a name's dict stays as it is from now on -/
def tsFrz (i : Nat) (t : TS) : TS := fun D σ H => t D σ H ∨ ∃ d u, σ[i]? = some (some (.ref d)) ∧ H d = some u ∧ Mut (some u) ∧ ∀ od, t D σ (upd H d (.frz od u))
theorem ps_frz {X : Cx} {st : Stmt} {t : TS} {i : Nat} (h : PS X st t) : PS X st (tsFrz i t) := ⟨fun pins s σ H D I hw => by
  rcases hw with hw | ⟨d, u, _, hd, mu, hw⟩
  · exact h.run pins s σ H D I hw
  · obtain ⟨od, I2⟩ := I.lock hd mu
    exact h.run pins s σ _ D I2 (hw od)⟩
@[simp] def wFzV (i : Nat) (ws : WS) : WS := fun E ρ ms => match ρ.sl[i]? with
  | some (some (.own j)) => (match ms[j]? with
    | some (.dic kvs) => ws E (ρ.put i (.dic kvs)) (ms.set j .gone)
    | _ => False)
  | _ => ws E ρ ms
theorem ds_frz (i : Nat) {st : Stmt} {ws : WS} (h : DS X st ws) : DS X st (wFzV i ws) := by
  obtain ⟨t, p, l⟩ := h
  refine ⟨_, ps_frz (i := i) p, fun W σ ρ ms D E hK R O hw ok => ?_⟩
  unfold wFzV at hw
  split at hw
  · rename_i j ej
    split at hw
    · rename_i kvs e
      obtain ⟨v, hv, okv⟩ := R.get ej
      cases okv with
      | own ha =>
        obtain ⟨b, o, hb, hg, ho, xs, rfl, rk⟩ := O.cell j _ e (fun z => by cases z)
        rw [ha] at hb; cases hb
        refine .inr ⟨_, _, hv, ho, trivial, fun od => ?_⟩
        have O2 := O.fix (o := .frz od (.dK xs)) ha hg
        have e2 := Ext.fix (W := W) (o := .frz od (.dK xs)) hg ho (.inl fun _ _ z => by cases z)
        have R2 := (R.mono e2).set (r := .dic kvs) (.dic upd_same (rk.up e2).dtk) i
        have es : ∀ x, σ[i]? = some x → σ.set i x = σ := fun x hx => by
          obtain ⟨hl, hx⟩ := List.getElem?_eq_some_iff.mp hx
          rw [← hx]; simp
        rw [es _ hv] at R2
        exact l _ σ _ _ D E (e2.s.trans hK) R2 O2 hw (ok.mono e2)
    · exact hw.elim
  · exact .inl (l W σ ρ ms D E hK R O hw ok)
/-! list(d.items()) -/
@[simp] def wLItems (wo : WE) : WE := fun ρ ms k => wo ρ ms fun r ms1 => match r with
  | .own j => (match ms1[j]? with
    | some (.dic kvs) => k (.lst (kvs.map fun p => .tup [datK p.1, p.2])) ms1
    | _ => False)
  | _ => False
def Wd.many (W : Wd) (H' : Hp) (as : List Addr) : Wd := { W with H := H', G := fun b => if b ∈ as then H' b else W.G b }
theorem many_ok {W : Wd} {ms : Ms} {H' : Hp} {as : List Addr} (O : Own W ms) (le : ∀ b o, W.H b = some o → H' b = some o) (new : ∀ b ∈ as, W.H b = none) : Ext W (W.many H' as) ∧ Own (W.many H' as) ms := by
  have off : ∀ b o, W.H b = some o → b ∉ as := fun b o h z => by rw [new b z] at h; cases h
  have gs : ∀ b o, W.H b = some o → (W.many H' as).G b = W.G b := fun b o h => if_neg (off b o h)
  have low : Low W (W.many H' as) := ⟨rfl, fun b o h => by rw [gs b o (O.ex b o h)]; exact h, fun _ _ h => h⟩
  refine ⟨⟨rfl, low.ex, fun _ _ h => h, fun b o u h => le _ _ h, rfl⟩, ⟨fun b o h => ?_, O.len, O.inj, fun i a h => ?_, fun b o h => le _ _ (O.px b o h), fun b o h => ?_, O.pl, fun i c h n => ?_, O.tb⟩⟩
  · show H' b = some o
    have h : (if b ∈ as then H' b else W.G b) = some o := h
    split at h
    · exact h
    · exact le _ _ (O.ex b o h)
  · obtain ⟨o, ho⟩ := O.all i a h
    exact ⟨o, le _ _ ho⟩
  · rw [gs b o (O.px b o h)]; exact O.pg b o h
  · obtain ⟨a, o, h1, h2, h3, h4⟩ := O.cell i c h n
    exact ⟨a, o, h1, by rw [gs a o h3]; exact h2, le _ _ h3, h4.low low⟩
theorem dt_items {K : PySem.W.Frag} {W : Wd} {G' : Hp} : ∀ {ts : List Addr} {xs : List (Key × V)} {ds : List (Key × Dat)}, RkOk W xs ds → Same W.G G' → K = W.S.K → Paired (fun (t : Addr) (q : Key × V) => G' t = some (.tup [kV q.1, q.2])) ts xs → Dts K G' W.A (ts.map V.ref) (ds.map fun p => .tup [datK p.1, p.2])
  | _, _, _, .nil, _, _, .nil => .nil
  | _, _, _, .cons (k := k) h r, sm, hk, .cons e t => by
    refine .cons (.tup e (.cons ?_ (.cons ?_ .nil))) (dt_items r sm hk t)
    · cases k with
      | inl i => exact .int i
      | inr x => exact .str x
    · rw [hk]; exact Dt.mono sm (fun _ _ z => z) h
theorem de_litems {e : Expr} {we : WE} {p apos cpos pos : Pos} (hc : X.X.calm = true) (h : DE X e we) (hg : Gl X.X "list") (hm : X.X.mg "list" = none) (hbase : attributeBase e "items" X.X.env (eval e X.X.env) = eval e X.X.env := by rfl) (hline : (apos.endLine == cpos.line) = true := by rfl) :
    DE X (.Call (.Name "list" p) [.Call (.Attribute e "items" apos) [] [] cpos] [] pos) (wLItems we) := by
  obtain ⟨t, pp, l⟩ := h
  refine ⟨_, LiI.pe_listItems hc pp hg hm (by decide +kernel) hbase hline, fun W σ ρ ms Q k hK R O hw q => l W σ ρ ms _ _ hK R O hw fun W1 v r ms1 e1 O1 ok1 h1 => ?_⟩
  split at h1
  · rename_i j
    split at h1
    · rename_i kvs e
      cases ok1 with
      | own ha =>
        obtain ⟨b, o, hb, hg, ho, xs, rfl, rk⟩ := O1.cell j _ e (fun z => by cases z)
        rw [ha] at hb; cases hb
        refine ⟨_, xs, rfl, ho, fun H' p ts le hp hts hn hl pr => ?_⟩
        obtain ⟨e2, O2⟩ := many_ok (as := p :: ts) O1 le (fun b hb => by
          rcases List.mem_cons.mp hb with rfl | hb
          · exact hp
          · exact hts b hb)
        have gp : (W1.many H' (p :: ts)).G p = some (.lst (ts.map V.ref)) := (if_pos (by simp)).trans hl
        have gt : Paired (fun (t : Addr) (q : Key × V) => (W1.many H' (p :: ts)).G t = some (.tup [kV q.1, q.2])) ts xs := by
          have : ∀ {as : List Addr} {ys : List (Key × V)}, (∀ t ∈ as, t ∈ ts) → Paired (fun (t : Addr) (q : Key × V) => H' t = some (.tup [kV q.1, q.2])) as ys → Paired (fun (t : Addr) (q : Key × V) => (W1.many H' (p :: ts)).G t = some (.tup [kV q.1, q.2])) as ys := by
            intro as ys hm hp
            induction hp with
            | nil => exact .nil
            | cons h _ ih => exact .cons ((if_pos (List.mem_cons_of_mem _ (hm _ (by simp)))).trans h) (ih fun t ht => hm t (List.mem_cons_of_mem _ ht))
          exact this (fun _ h => h) pr
        exact q _ _ _ _ (e1.trans e2) O2 (.lst gp (dt_items (W := W1) rk e2.ex rfl gt)) h1
    · exact h1.elim
  · exact h1.elim
end
end Sy
namespace Sy
open PySem PySem.Spec PyProof.Rows L2
/-! repr([d, ..]) of dicts -/
def tLstN (t : TA) : TE := fun σ H Q => t σ H fun xs H1 => xs.length ≤ sizeLine ∧ ∀ p, H1 p = none → p ≠ sysModules → Q (.ref p) (upd H1 p (.lst xs))
theorem pe_lstN {X : Cx} {es : List Expr} {t : TA} {pos : Pos} (h : PA X es t) : PE X (.List es pos) (tLstN t) := by
  refine ⟨fun pins s σ H Q I hq => ?_⟩
  refine wpAny_List_spliced (thn (h.run pos pins s σ H _ I hq) fun us t1 ⟨xs, H1, J, r, z, q⟩ => ?_)
  refine ⟨by rw [← r.length]; exact z, .ref t1.heap.objs.size, upd H1 t1.heap.objs.size (.lst xs), ?_, rfl, q _ (J.hok.fresh (Nat.le_refl _)) fun e => ?_⟩
  · refine J.laid (t' := t1.toks) (fun _ _ e => Heap.get?_push_of_some _ e) (Nat.le_refl _) ?_
    exact ⟨z, us, 0, r, Heap.get?_push_size _ rfl⟩
  · exact Nat.ne_of_gt J.big e
abbrev pyDic (ds : List (Key × PyData)) : PyData := .dict (ds.map fun p => (keyPy p.1, p.2))
def rReprLD : List V → Hp → VK → Prop := fun xs H Q => ∃ (p : Addr) (as : List Addr) (dss : List (List (Key × PyData))), xs = [.ref p] ∧ p ≠ sysModules ∧ H p = some (.lst (as.map V.ref)) ∧
  Paired (fun a ds => ∃ kvs : List (Key × V), Rd H a (.dK kvs) ∧ Paired (fun (p : Key × V) (q : Key × PyData) => p.1 = q.1 ∧ ∀ h u, RelV p.2 u → Reads h u q.2 []) kvs ds) as dss ∧
  (PyData.list (dss.map pyDic)).showable = true ∧ (PyData.list (dss.map pyDic)).depth ≤ 64 ∧ (PyData.list (dss.map pyDic)).shown.length ≤ sizeLine ∧ Q (.str (PyData.list (dss.map pyDic)).shown) H
theorem readsAll_dicts {X : Cx} {pins : List (Addr × Obj)} {σ : L2.St} {H : Hp} {s : Shared} (J : L2.Inv X pins σ H s) : ∀ {as : List Addr} {dss : List (List (Key × PyData))}, Paired (fun a ds => ∃ kvs : List (Key × V), Rd H a (.dK kvs) ∧ Paired (fun (p : Key × V) (q : Key × PyData) => p.1 = q.1 ∧ ∀ h u, RelV p.2 u → Reads h u q.2 []) kvs ds) as dss →
    ReadsAll s.heap (as.map Value.ref) (dss.map pyDic) as ∧ sysModules ∉ as
  | _, _, .nil => ⟨.nil, by simp⟩
  | _, _, .cons ⟨kvs, hd, hp⟩ r => by
    obtain ⟨_, hm, vs, kv, dd⟩ := dk_rd J.hok hd
    obtain ⟨r1, r2⟩ := readsAll_dicts J r
    refine ⟨ReadsAll.cons (reads_dict dd (paired_trans kv hp)) r1, fun z => ?_⟩
    rcases List.mem_cons.mp z with z | z
    · rw [← z] at hm; simp at hm
    · exact r2 z
theorem refs_vals : ∀ {as : List Addr} {us : List Value}, Vals (as.map V.ref) us → us = as.map Value.ref
  | [], _, .nil => rfl
  | a :: as, _, .cons h r => by cases h; rw [refs_vals r]; rfl
theorem call_reprLD {X : Cx} (hg : X.A.guards = some []) (hu : X.A.units + 65 < cLine) : CallR X (.builtin "repr") rReprLD := by
  rintro pins s σ H xs us Q J r ⟨p, as, dss, rfl, hps, hl, hp, hs, hdep, hsz, q⟩
  obtain ⟨u, rfl, ru⟩ := vals1 r
  cases ru
  obtain ⟨z, its, n, rv, e⟩ := (show ObjOk X.prog X.w H s.heap p (.lst (as.map V.ref)) from J.hok p _ hl)
  obtain ⟨r1, r2⟩ := readsAll_dicts J hp
  rw [← refs_vals rv] at r1
  have rr : Reads s.heap (.ref p) (.list (dss.map pyDic)) (p :: as) := Reads.list e rfl rfl (by simpa using r1)
  refine repr_of_reads' (h₀ := s.heap) rr hs (fun _ z => ?_) hg (by omega) (fun _ _ z => z) (fun h' t tk kept => ⟨.str _, H, J.kept (t' := tk) kept, ⟨t, rfl⟩, q⟩) hsz
  rcases List.mem_cons.mp z with z | z
  · exact hps z.symm
  · exact r2 z
@[simp] def wReprL (wa : WA) : WE := fun ρ ms k => wa ρ ms fun rs ms1 => ∃ kvss : List (List (Key × Dat)), rs.map (dicOf ms1) = kvss.map some ∧ rs.length ≤ sizeLine ∧ (kvss.all fun kvs => kvs.all fun p => flat p.2) = true ∧ (PyData.list (kvss.map dicPy)).showable = true ∧ (PyData.list (kvss.map dicPy)).depth ≤ 64 ∧ (PyData.list (kvss.map dicPy)).shown.length ≤ sizeLine ∧
  k (.str (PyData.list (kvss.map dicPy)).shown) ms1
theorem dics_of {W : Wd} {ms : Ms} {p : Addr} {o : HO} (O : Own W ms) (hp : W.H p = none) : ∀ {vs : List V} {rs : List Dat} {kvss : List (List (Key × Dat))}, RvsOk W vs rs → rs.map (dicOf ms) = kvss.map some → (kvss.all fun kvs => kvs.all fun p => flat p.2) = true →
    ∃ as : List Addr, vs = as.map V.ref ∧ Paired (fun a ds => ∃ kvs : List (Key × V), Rd (upd W.H p o) a (.dK kvs) ∧ Paired (fun (p : Key × V) (q : Key × PyData) => p.1 = q.1 ∧ ∀ h u, RelV p.2 u → Reads h u q.2 []) kvs ds) as (kvss.map fun kvs => kvs.map fun p => (p.1, toPy p.2))
  | _, _, [], .nil, _, _ => ⟨[], rfl, .nil⟩
  | _, _, kvs :: kvss, .cons h r, e, f => by
    rw [List.map_cons, List.map_cons] at e
    injection e with e1 e2
    rw [List.all_cons, Bool.and_eq_true] at f
    obtain ⟨as, rfl, pr⟩ := dics_of (o := o) O hp r e2 f.2
    obtain ⟨a, xs, rfl, g1, g2⟩ := O.dict h (dicOf_look e1)
    refine ⟨a :: as, rfl, .cons ⟨xs, ?_, g2.py f.1⟩ pr⟩
    rcases g1 with g1 | ⟨ob, g1⟩
    · exact .inl (by rw [upd_ne (ne_of_none g1 hp)]; exact g1)
    · exact .inr ⟨ob, by rw [upd_ne (ne_of_none g1 hp)]; exact g1⟩
  | _, _, [], .cons h r, e, f => by cases e
  | _, _, _ :: _, .nil, e, f => by cases e
theorem de_reprL {X : Cy} {es : List Expr} {wa : WA} {p lp pos : Pos} (hg : X.X.A.guards = some []) (hu : X.X.A.units + 65 < cLine) (hgl : Gl X.X "repr") (hm : X.X.mg "repr" = none) (ha : DA X es wa) (he : starEach [Expr.List es lp] X.X.env = (false, eval (.List es lp) X.X.env) :: starEach [] X.X.env := by rfl) : DE X (.Call (.Name "repr" p) [.List es lp] [] pos) (wReprL wa) := by
  obtain ⟨t, pa, la⟩ := ha
  refine ⟨_, pe_callB (call_reprLD hg hu) hgl hm (by decide +kernel) (pa_cons (pe_lstN pa) pa_nil he) (by decide) (by decide) he rfl, fun W σ ρ ms Q k hK R O hw q => ?_⟩
  refine la W σ ρ ms _ _ hK R O hw fun W1 vs rs ms1 e1 O1 ok1 h1 => ?_
  obtain ⟨kvss, h2, h3, h4, h5, h6, h7, h8⟩ := h1
  refine ⟨by rw [ok1.length]; exact h3, fun p hp hs => ?_⟩
  obtain ⟨as, rfl, pr⟩ := dics_of (o := .lst vs) O1 hp ok1 h2 h4
  have em : (kvss.map fun kvs => kvs.map fun (p : Key × Dat) => (p.1, toPy p.2)).map pyDic = kvss.map dicPy := by
    rw [List.map_map]
    refine List.map_congr_left fun kvs _ => ?_
    simp [pyDic, dicPy]
  refine ⟨p, as, _, rfl, hs, upd_same, pr, ?_⟩
  rw [em]
  obtain ⟨O2, e2⟩ := O1.lay (o := .lst (as.map V.ref)) hp
  exact ⟨h5, h6, h7, q (W1.lay p _) _ (.str _) ms1 (e1.trans e2) O2 (.str _) h8⟩
end Sy
namespace Sy
open PySem PySem.Spec PyProof.Rows L2
/-! ## steps that unfold one reading (simp would go below binders, and the kernel check explodes) -/
theorem asg_op {w : WR2} {wa wb : WE} {wg : WG} {E : WEnds} {ρ : Env} {ms : Ms} (h : wa ρ ms fun a ms1 => wb ρ ms1 fun b ms2 => w a b ms2 fun r ms3 => wg r ρ ms3 E.nx) : wAsg (wOp w wa wb) wg E ρ ms := h
theorem lc_of {wi : WI} {wg : WG} {wt : WT} {we : WE} {vs : List Nat} {ρ : Env} {ms : Ms} {k : KR} (h : wi ρ ms fun ds ms1 => lcW wg wt we (wipeE ρ vs) (fun acc ms2 => k (.lst acc) ms2) ds [] ms1) : wLc wi wg wt we vs ρ ms k := h
theorem sz_lt {n : Nat} (h : n < 1000) : n < sizeLine := Nat.lt_of_lt_of_le h (Nat.le_trans (by decide) size_big)
theorem sz_le {n : Nat} (h : n ≤ 1000) : n ≤ sizeLine := Nat.le_trans h (Nat.le_trans (by decide) size_big)
end Sy
namespace Sy
open PySem PySem.Spec PyProof.Rows L2 LamX
/-! ## a lambda without parameters, handed to a def -/
/-- behind the making: all as before, or the table has one row more -/
def Grown (Kn : Addr → Prop) (H H1 : Hp) (P : Addr) (q : Str) (c : Addr) : Prop :=
  (H1 = H ∧ Kn c) ∨ (H c = none ∧ ∃ ps : Array Value, H1 = upd (upd H P (.tbl ps)) c (CodeO c q) ∧ TriplesOk ps.toList ∧ ∀ (pos : Pos) (cv : Value), codeAmong pos ps.toList = some cv → (∃ d, cv = .ref d ∧ Kn d) ∨ cv = .ref c)
section
variable {X : Cx} {pins : List (Addr × Obj)} {σ : L2.St} {H : Hp} {s : Shared}
theorem lam_born {Kn : Addr → Prop} {q : Str} {c P : Addr} {ps : Array Value} {params : Arguments} {body : Expr} {scope : Scope} {pos : Pos} {Q E : Value → Shared → Prop} (J : L2.Inv X pins σ H s) (B : TabB X.base X.mg c P) (ec : X.env.code = .ref c) (eq : X.env.qual ++ "<lambda>" = q)
    (hP : H P = some (.tbl ps)) (tri : TriplesOk ps.toList) (kn : ∀ (pos : Pos) (cv : Value), codeAmong pos ps.toList = some cv → ∃ d, cv = .ref d ∧ Kn d) (nodef : defaultsOf params X.env = ([], [])) (fr : ∀ y ∈ scope.names, y.2 = .free → ∃ d, X.env.cells.lookup y.1 = some d)
    (k : ∀ (f d : Addr) (pm ctv : Value) (H1 : Hp) (s1 : Shared), L2.Inv X pins σ H1 s1 → Grown Kn H H1 P q d → s1.heap.get? f = some (PySem.W.kla_obj "<lambda>" q params body scope (cloFrom X.env.cells scope.names []) pm d ctv) → H1 f = none → f ∉ frs X.stack → Q (.ref f) s1) :
    wpAny (model X.prog X.w) X.A (eval (.Lambda params body scope pos) X.env) Q E s := by
  subst eq
  have tabl : s.heap.get? P = some { cls := .none, data := .fields ps } := J.hok P _ hP
  have bi := B.bm.keeps J.bk
  have far : ∀ f, s.heap.objs.size ≤ f → f ∉ frs X.stack := by
    intro f hf hm
    rcases List.mem_cons.mp (J.stkSub _ hm) with z | z
    · have below := J.lt
      rw [← z] at below
      exact absurd (Nat.lt_of_lt_of_le below hf) (Nat.lt_irrefl _)
    · exact J.nofs hf z
  apply PySem.W.kla_eval nodef
  match em : codeAmong pos ps.toList with
  | some cv =>
    obtain ⟨d, rfl, hd⟩ := kn pos cv em
    refine PySem.W.kla_makeFunctionHit (mg := X.mg) (c := c) (P := P) (ps := ps) (closure_ok fr) J.ok.glob (J.mod.glob.keeps J.bk) ec (B.code.keeps J.bk) tabl tri em bi fun ctv h2 tk up sz => ?_
    exact k h2.objs.size d _ ctv H _ (J.kept fun b o z => Heap.get?_push_of_some _ (up b o z)) (.inl ⟨rfl, hd⟩) (Heap.get?_push_size _ rfl) (J.hok.fresh sz) (far _ sz)
  | none =>
    refine PySem.W.kla_makeFunction (mg := X.mg) (c := c) (P := P) (ps := ps) (closure_ok fr) J.ok.glob (J.mod.glob.keeps J.bk) ec (B.code.keeps J.bk) tabl tri em B.gP bi fun d ctv h2 tk keeps ge lt2 coded tab2 => ?_
    obtain ⟨d', oc, flds, tq, z, at_d, is_flds, nm⟩ := coded
    cases z
    have unknown : H d = none := J.hok.fresh ge
    have up : s.heap.objs.size ≤ h2.objs.size := Nat.le_trans ge (Nat.le_of_lt lt2)
    have J2 := inv_table (t' := tk) (q := X.env.qual ++ "<lambda>") (more := #[rawInt pos.line, rawInt pos.col, .ref d]) (h' := h2.push (PySem.W.kla_obj "<lambda>" (X.env.qual ++ "<lambda>") params body scope (cloFrom X.env.cells scope.names []) ((X.mg "__name__").getD .none) d ctv)) J hP
      (fun b o nb z => Heap.get?_push_of_some _ (keeps b o nb z)) (Heap.get?_push_of_some _ tab2) ge ⟨oc, flds, tq, Heap.get?_push_of_some _ at_d, is_flds, nm⟩
    have lst : (ps ++ #[rawInt pos.line, rawInt pos.col, Value.ref d]).toList = ps.toList ++ [rawInt pos.line, rawInt pos.col, .ref d] := by simp
    have offd : h2.objs.size ≠ d := Nat.ne_of_gt lt2
    have offP : h2.objs.size ≠ P := Nat.ne_of_gt (Nat.lt_of_lt_of_le (Heap.lt_size tabl) up)
    refine k h2.objs.size d _ ctv _ _ J2 (.inr ⟨unknown, _, rfl, by rw [lst]; exact PySem.TriplesOk_snoc _ _ _ _ tri, fun pos' cv z => ?_⟩) (Heap.get?_push_size _ rfl) ?_ (far _ up)
    · rw [lst] at z
      exact (among_app _ tri z).imp (fun z => kn pos' cv z) id
    · rw [upd_ne offd, upd_ne offP]
      exact J.hok.fresh up
/-- the call of what was handed over: Z is the context of the def that got it -/
theorem pe_act2 {CXg : CXT} {Eg : XK} {Ng : List Str} {qg : Str} {sg : Scope} {g f d : Addr} {cdg pm ctv : Value} {params : Arguments} {body : Expr} {scope : Scope} {k i : Nat} {a : Str} {pn : List (Addr × Obj)} {xe : Value → Shared → Prop} {Wz : WX} {tb : XK → TE} {p1 p2 : Pos}
    (J : L2.Inv X pins σ H s) (L : LamS X.env.scope scope) (of_ : s.heap.get? f = some (PySem.W.kla_obj "<lambda>" (X.env.qual ++ "<lambda>") params body scope (cloFrom X.env.cells scope.names []) pm d ctv)) (nof : H f = none) (nofr : f ∉ frs X.stack)
    (bind0 : bindArgs (PySem.W.kla_fn "<lambda>" (X.env.qual ++ "<lambda>") params body scope (cloFrom X.env.cells scope.names []) pm (.ref d) ctv) ⟨[], []⟩ = pure [])
    (tk : Takes ((cxOf CXg X.prog X.w X.K X.mg X.base Ng qg sg g cdg X.A X.stack s H Eg).tr pn xe) Wz) (hg : X.A.guards = some []) (room : Room (k + 1) (X.A.deeper (envOfC qg sg s.heap.objs.size g cdg)))
    (hbody : ∀ (E : XK) (A : Around) (outer : List PySem.Env) (s : Shared) (H : Hp), A.guards = some [] → Room k (A.deeper (lamEnv X scope s.heap.objs.size f d)) → PE (lamCx X A outer s H E scope f d) body (tb E))
    (hN : Ng[i]? = some a) (hv : Vis sg a) (hd : (a == ("__debug__" : Str)) = false := by decide) (hcd : (a == ("__classdict__" : Str)) = false := by decide) :
    PE ((cxOf CXg X.prog X.w X.K X.mg X.base Ng qg sg g cdg X.A X.stack s H Eg).tr pn xe) (.Call (.Name a p1) [] [] p2)
      (fun σZ HZ Q => σZ[i]? = some (some (.ref f)) ∧ HZ d = some (CodeO d (X.env.qual ++ "<lambda>")) ∧ tb (fun cls dd H => Wz cls dd σZ H) σ HZ Q) := by
  refine ⟨fun pinsZ sZ σZ HZ Q IZ ⟨slot, codeAt, want⟩ => ?_⟩
  have look := pe_var (X := (cxOf CXg X.prog X.w X.K X.mg X.base Ng qg sg g cdg X.A X.stack s H Eg).tr pn xe) (pos := p1) (i := i) hN hv hd hcd
  refine wpAny_Call_Name_kw (thn (look.run pinsZ sZ σZ HZ (fun v H1 => v = .ref f ∧ H1 = HZ) IZ ⟨.ref f, slot, rfl, rfl⟩) fun u s2 ⟨v, H2, I2, rv, ev, eH⟩ => ?_)
  subst ev eH
  cases (show u = Value.ref f from rv)
  have there := I2.base.keep f _ of_ nof nofr (fun z => nomatch (show f ∈ ([] : List Addr) from z))
  refine PySem.W.callWith_F0 ⟨_, _, _, _, there⟩ ?_
  have since : Un (frs X.stack) [] H H2 s.heap s2.heap := I2.base
  obtain ⟨⟨oc, flds, tq, at_d, is_flds, nm⟩, _, _⟩ := I2.hok d _ codeAt
  let A2 := X.A.deeper (envOfC qg sg s.heap.objs.size g cdg)
  have main : codeAny (model X.prog X.w) A2 (.call (.ref f) ⟨[], []⟩) (CR (L2.CX X.prog X.w) (envOfC qg sg s.heap.objs.size g cdg :: X.stack) X.prog X.w H2 s2 Q (fun cls dd H => Wz cls dd σZ H)) s2 := by
    refine PySem.W.kla_callFunE room.depth there rfl L.co L.gen rfl ⟨d, oc, flds, tq, rfl, at_d, is_flds, nm⟩ ?_
    rw [bind0]
    refine wpAny_pure (wpAny_newFunctionEnv (fun y hy => (L.own y hy).2) (fun y hy => absurd hy (by simp)) (fun hN hns hsb => ⟨I2.nolimit.fresh _ hsb, ?_⟩) L.kind)
    have kp : ∀ b o, s2.heap.get? b = some o → hN.get? b = some o := fun b o z => hsb.extBut b o (Nat.ne_of_lt (Heap.lt_size z)) (Heap.get?_push_of_some _ z)
    have JL : L2.Inv (lamCx X A2 (envOfC qg sg s.heap.objs.size g cdg :: X.stack) s2 H2 (fun cls dd H => Wz cls dd σZ H) scope f d) [] σ H2 { s2 with heap := hN, toks := s2.toks + ([] : List (Str × Value)).length } :=
      lam_start2 J L I2.env0 room.hd since hns kp
    refine PySem.W.kla_codeExpr (wpAny_mono ((hbody _ A2 _ s2 H2 hg (room.deeper _)).run [] _ _ H2 Q JL want) (fun v s3 ⟨w3, H3, J3, r3, q3⟩ => ?_) fun _ _ z => z)
    exact ⟨w3, H3, J3.os, J3.bare, J3.base, J3.hok, r3, q3⟩
  refine wpAny_call (codeAny_mono main fun res s3 hres => ?_)
  match res, hres with
  | .error e, z => exact L2.passAt tk σZ pinsZ H2 s2 e s3 I2 z
  | .ok (.ret u), z => exact I2.after z
  | .ok .next, z => exact False.elim z
  | .ok .brk, z => exact False.elim z
  | .ok .cont, z => exact False.elim z
end
end Sy
namespace Sy
open PySem PySem.Spec PyProof.Rows L2 LamX
/-! ## lambdas over data -/
theorem le_ofE {S : Sg} {w : WE} : LE S (teOf S w) w := fun W σ ρ ms Q k hS R O hw q => ⟨W, ρ, ms, k, rfl, hS, R, O, hw, q⟩
/-! the slots that a lambda takes along -/
def slV : L2.St → Sl → List V
  | some v :: σ, some _ :: r => v :: slV σ r
  | _ :: σ, _ :: r => slV σ r
  | _, _ => []
def slD : Sl → List Dat
  | [] => []
  | some d :: r => d :: slD r
  | none :: r => slD r
theorem RelS.out {W : Wd} : ∀ {σ : L2.St} {sl : Sl}, RelS W σ sl → Dts W.S.K W.G W.A (slV σ sl) (slD sl)
  | _, _, .nil => .nil
  | _, _, .gap (v := v) h => by
    have := RelS.out h
    cases v <;> simpa only [slV, slD] using this
  | _, _, .has o h => .cons o (RelS.out h)
theorem RelS.back {W W' : Wd} : ∀ {σ : L2.St} {sl : Sl}, RelS W σ sl → Dts W'.S.K W'.G W'.A (slV σ sl) (slD sl) → RelS W' σ sl
  | _, _, .nil, _ => .nil
  | _, _, .gap (v := v) h, d => by
    refine .gap (RelS.back h ?_)
    cases v <;> simpa only [slV, slD] using d
  | _, _, .has o h, d => by
    cases d with
    | cons a b => exact .has a (RelS.back h b)
/-! the def that gets it -/
def cy0 (P : Program) (w : World) (K : PySem.W.Frag) (mg : Str → Option Value) (base : Heap) (N : List Str) (qual : Str) (scope : Scope) (f : Addr) (cdv : Value) (A : Around) (out : List PySem.Env) (s : Shared) (H : Hp) : Cy :=
  ⟨cxOf C8.CX0 P w K mg base N qual scope f cdv A out s H C8.E0, never, takes_none5, none⟩
/-- a def that calls the one thing that it gets: its reading by that call's reading -/
structure TellOk (P : Program) (w : World) (K : PySem.W.Frag) (mg : Str → Option Value) (base : Heap) (x a : Str) (N : List Str) (st : Stmt) (k : Nat) (ws : WE → WS) : Prop where
  at_ : DefAt K (x, none) x x st [a]
  sc : FnScope N [a] (defScope st)
  n0 : N[0]? = some a
  vis : Vis (defScope st) a
  dbg : (a == ("__debug__" : Str)) = false
  cd : (a == ("__classdict__" : Str)) = false
  body : ∀ (cdv : Value) (A : Around) (out : List PySem.Env) (s : Shared) (H : Hp) (wa : WE), A.guards = some [] → Room k (A.deeper (envOfC x (defScope st) s.heap.objs.size (He.ga K x) cdv)) →
    (∀ (Z : WX) (pn : List (Addr × Obj)) (xe : Value → Shared → Prop) (tk : Takes ((cy0 P w K mg base N x (defScope st) (He.ga K x) cdv A out s H).X.tr pn xe) Z) (p1 p2 : Pos), DE ⟨(cy0 P w K mg base N x (defScope st) (He.ga K x) cdv A out s H).X.tr pn xe, Z, tk, none⟩ (.Call (.Name a p1) [] [] p2) wa) →
    DSs (cy0 P w K mg base N x (defScope st) (He.ga K x) cdv A out s H) (defBody st) (ws wa)
def wAct (L : Dat) (sl : Sl) (wb : WE) : WE := fun ρ ms k => ρ.sl[0]? = some (some L) ∧ wb ⟨sl, fun _ C fs m => ρ.ex ρ.sl C fs m, Str.empty, []⟩ ms k
def wLam (j : Nat) (pm : Str × Option Str) (q : Str) (N : List Str) (ws : WE → WS) (wb : WE) : WE := fun ρ ms k => ms[j]? = some (.tab pm q) ∧ ∀ (f d : Addr) (vs : List V),
  ws (wAct (.lam q f d vs (slD ρ.sl)) ρ.sl wb) (endsF k) (startE N [.lam q f d vs (slD ρ.sl)] fun _ _ _ => False) ms
theorem upd_comm {H : Hp} {a b : Addr} {o u : HO} (n : a ≠ b) : upd (upd H a o) b u = upd (upd H b u) a o := by
  funext c
  by_cases ha : c = a
  · subst ha; rw [upd_ne n, upd_same, upd_same]
  · by_cases hb : c = b
    · subst hb; rw [upd_same, upd_ne ha, upd_same]
    · rw [upd_ne hb, upd_ne ha, upd_ne ha, upd_ne hb]
theorem ms_same {ms : Ms} {j : Nat} {c : Cell} (e : ms[j]? = some c) : ms.set j c = ms := by
  obtain ⟨h1, h2⟩ := List.getElem?_eq_some_iff.mp e
  rw [← h2]; simp
/-- the world behind the making -/
theorem grown_w {W : Wd} {ms : Ms} {H1 : Hp} {P d : Addr} {q : Str} {j : Nat} {pm : Str × Option Str} (O : Own W ms) (hj : ms[j]? = some (.tab pm q)) (hP : tabP W.S.K pm = P) (g : Grown (fun c => W.G c = some (CodeO c q)) W.H H1 P q d) :
    ∃ W1 : Wd, W1.H = H1 ∧ Ext W W1 ∧ Own W1 ms ∧ W1.G d = some (CodeO d q) := by
  rcases g with ⟨rfl, k⟩ | ⟨hd, ps, rfl, tri, kn⟩
  · exact ⟨W, rfl, Ext.refl W, O, k⟩
  · obtain ⟨O1, e1⟩ := O.lay (o := CodeO d q) hd
    have hA := O.tb j pm q hj
    obtain ⟨a, o, ha, hg, ho, ps0, rfl, _⟩ := O.cell j _ hj (fun z => by cases z)
    rw [hA] at ha
    cases ha
    have ne : d ≠ tabP W.S.K pm := fun z => by rw [z] at hd; rw [hd] at ho; cases ho
    have hg1 : (W.lay d (CodeO d q)).G (tabP W.S.K pm) = none := by
      show upd W.G d _ _ = none
      rw [upd_ne (Ne.symm ne)]; exact hg
    have hH1 : (W.lay d (CodeO d q)).H (tabP W.S.K pm) = some (.tbl ps0) := by
      show upd W.H d _ _ = _
      rw [upd_ne (Ne.symm ne)]; exact ho
    have O2 := O1.put (i := j) (a := tabP W.S.K pm) (o := .tbl ps) (c := .tab pm q) hA hg1 ⟨ps, rfl, tri, fun pos cv z => by
      rcases kn pos cv z with ⟨c, e, k⟩ | e
      · exact ⟨c, e, e1.ex _ _ k⟩
      · exact ⟨d, e, upd_same⟩⟩ (fun p q z => by cases z; rfl)
    rw [ms_same hj] at O2
    refine ⟨_, ?_, e1.trans (Ext.put hH1 fun _ _ z => by cases z), O2, ?_⟩
    · show upd (upd W.H d (CodeO d q)) (tabP W.S.K pm) (.tbl ps) = _
      rw [hP] at ne ⊢
      exact upd_comm ne
    · show upd W.G d _ d = _
      exact upd_same
theorem de_lam {X : Cy} {x a q : Str} {j k : Nat} {pm : Str × Option Str} {N : List Str} {st : Stmt} {ws : WE → WS} {wb : WE} {params : Arguments} {body : Expr} {scope : Scope} {p lpos pos : Pos}
    (T : TellOk X.X.prog X.X.w X.X.K X.X.mg X.X.base x a N st (k + 1) ws) (hg : X.X.A.guards = some []) (room : Room (k + 2) X.X.A) (gl : Gl X.X x) (hm : X.X.mg x = some (.ref (He.ga X.X.K x)))
    (TB : TabB X.X.base X.X.mg (codeP X.X.K pm) (tabP X.X.K pm)) (hcode : X.X.env.code = .ref (codeP X.X.K pm)) (hq : X.X.env.qual ++ "<lambda>" = q) (L : LamS X.X.env.scope scope) (hdef : defaultsOf params X.X.env = ([], []))
    (hbind : ∀ (q : Str) (cl : List (Str × Addr)) (pm cv ctv : Value), bindArgs (PySem.W.kla_fn "<lambda>" q params body scope cl pm cv ctv) ⟨[], []⟩ = pure [])
    (hbody : ∀ (E : XK) (A : Around) (outer : List PySem.Env) (s : Shared) (H : Hp) (f d : Addr), A.guards = some [] → Room k (A.deeper (lamEnv X.X scope s.heap.objs.size f d)) → DE ⟨lamCx X.X A outer s H E scope f d, fun cls dd _ H => E cls dd H, takes_of rfl rfl rfl rfl, none⟩ body wb)
    (hdb : (x == ("__debug__" : Str)) = false := by decide) : DE X (.Call (.Name x p) [.Lambda params body scope lpos] [] pos) (wLam j pm q N ws wb) := by
  refine ⟨teOf X.S (wLam j pm q N ws wb), ⟨fun pins s σ H Q J ⟨W, ρ, ms, kk, hH, hS, R, O, ⟨hj, hw⟩, fin⟩ => ?_⟩, le_ofE⟩
  subst hH
  have hKK : W.S.K = X.X.K := congrArg Sg.K hS
  obtain ⟨aP, oP, hA, hgP, hoP, ps, rfl, tri, kn⟩ := O.cell j _ hj (fun z => by cases z)
  have hA2 := O.tb j pm q hj
  rw [hA] at hA2
  cases hA2
  rw [hKK] at hoP hgP hA
  obtain ⟨fd, F, bnd, kp⟩ := T.at_.ex
  obtain ⟨oc, od, dV, kV, doc, pm0, an, cdv, ct, osl, rfl, look_f, code_f, _, _⟩ := F.ex
  refine wpAny_Call_Name_kw (ld_glob J gl hm ?_ hdb)
  refine PySem.W.callWith_K (h₀ := X.X.base) J.ok.mod.kin kp ?_ (by rfl) (by rfl)
  show wpAny _ _ (spliced ((false, eval (.Lambda params body scope lpos) X.X.env) :: backTo pos (starEach [] X.X.env))) _ _ s
  have fr := L.has J.ok
  refine Calls.spliced_cons (lam_born (Kn := fun c => W.G c = some (CodeO c q)) J TB hcode hq hoP tri kn hdef fr fun f d pmv ctv H1 s1 J1 gr at_f no_f nofr => ?_)
  refine Calls.spliced_nil ⟨J1.kIn, ?_⟩
  obtain ⟨W1, rfl, e1, O1, gd⟩ := grown_w O hj (congrArg (fun K => tabP K pm) hKK) gr
  have R1 := R.mono e1
  have hS1 : W1.S = X.S := e1.s.trans hS
  have hKK1 : W1.S.K = X.X.K := congrArg Sg.K hS1
  have told : codeAny (model X.X.prog X.X.w) X.X.A (.call (.ref (He.ga X.X.K x)) ⟨[.ref f], []⟩) (CR C8.CX0 X.X.stack X.X.prog X.X.w W1.H s1 Q C8.E0) s1 := by
    refine run_ofS (N := N) (ps := [a]) (us := [.ref f]) (vs := [.ref f]) look_f code_f T.sc room J1.env0 (bnd s1 [.ref f] J1.kIn rfl) (.cons rfl .nil) rfl fun room1 => ?_
    subst hq
    have act : ∀ (Z : WX) (pn : List (Addr × Obj)) (xe : Value → Shared → Prop) (tk : Takes ((cy0 X.X.prog X.X.w X.X.K X.X.mg X.X.base N x (defScope st) (He.ga X.X.K x) cdv X.X.A X.X.stack s1 W1.H).X.tr pn xe) Z) (p1 p2 : Pos),
        DE ⟨(cy0 X.X.prog X.X.w X.X.K X.X.mg X.X.base N x (defScope st) (He.ga X.X.K x) cdv X.X.A X.X.stack s1 W1.H).X.tr pn xe, Z, tk, none⟩ (.Call (.Name a p1) [] [] p2) (wAct (.lam (X.X.env.qual ++ "<lambda>") f d (slV σ ρ.sl) (slD ρ.sl)) ρ.sl wb) := by
      intro Z pn xe tk p1 p2
      refine ⟨_, pe_act2 (tb := fun E => teOf ⟨X.X.K, fun cls dd _ H => E cls dd H, none⟩ wb) J1 L at_f no_f nofr (hbind _ _ _ _ _) tk hg room1 (fun E A outer s2 H2 hg2 room2 => (hbody E A outer s2 H2 f d hg2 room2).pe) T.n0 T.vis T.dbg T.cd, fun W2 σ2 ρ2 ms2 Q2 k2 hS2 R2 O2 ⟨hslot, hw2⟩ q2 => ?_⟩
      obtain ⟨v, hv, okv⟩ := R2.get hslot
      have hK2 : W2.S.K = X.X.K := congrArg Sg.K hS2
      have hZ2 : W2.S.Z = Z := congrArg Sg.Z hS2
      cases okv with
      | lam hc hds =>
        refine ⟨hv, O2.ex _ _ hc, { W2 with S := ⟨X.X.K, fun cls dd _ H => Z cls dd σ2 H, none⟩ }, ⟨ρ.sl, fun _ C fs m => ρ2.ex ρ2.sl C fs m, Str.empty, []⟩, ms2, k2, rfl, rfl, ⟨RelS.back (W' := { W2 with S := ⟨X.X.K, fun cls dd _ H => Z cls dd σ2 H, none⟩ }) R1.sl (by show Dts X.X.K _ _ _ _; rw [← hK2]; exact hds), fun W3 σ3 sl3 C dd xs fs ms3 e3 O3 _ g3 x3 h3 => ?_, fun _ _ _ z => by cases z⟩, O2.sg hK2.symm, hw2, fun W3 v3 r3 ms3 e3 O3 ok3 h3 => ?_⟩
        · have hk3 : W2.S.K = W3.S.K := by rw [e3.s]; exact hK2
          have e4 : Ext W2 { W3 with S := W2.S } := ⟨rfl, e3.ex, e3.adr, e3.frz, e3.p⟩
          have := R2.ex { W3 with S := W2.S } σ2 ρ2.sl C dd xs fs ms3 e4 (O3.sg hk3) (R2.sl.low e4.low) g3 (by rw [show ({ W3 with S := W2.S } : Wd).S.K = W3.S.K from hk3]; exact x3) h3
          rw [show W2.K = X.X.K from hK2, hZ2] at this
          exact this
        · have hk3 : W2.S.K = W3.S.K := by rw [e3.s]; exact hK2
          refine q2 { W3 with S := W2.S } v3 r3 ms3 ⟨rfl, e3.ex, e3.adr, e3.frz, e3.p⟩ (O3.sg hk3) ?_ h3
          show Dt W2.S.K _ _ _ _
          rw [hk3]; exact ok3
    have ds := T.body cdv X.X.A X.X.stack s1 W1.H _ hg room1 act
    obtain ⟨t, pt, lt⟩ := ds
    refine ⟨t, pt, ?_⟩
    have hk0 : X.X.K = W1.S.K := hKK1.symm
    refine lt { W1 with S := ⟨X.X.K, never, none⟩ } (L2.start N [.ref f]) (startE N [.lam (X.X.env.qual ++ "<lambda>") f d (slV σ ρ.sl) (slD ρ.sl)] fun _ _ _ => False) ms _ (endsF kk) rfl ⟨?_, fun _ _ _ _ _ _ _ _ _ _ _ _ _ z => z.elim, fun _ _ _ z => by cases z⟩ (O1.sg hk0) (hw f d (slV σ ρ.sl))
      ⟨fun W' σ' ρ' ms' e O' R' h1 => ?_, fun W' v r ms' e O' ok' h1 => ?_, fun _ _ _ _ _ _ _ h1 => h1.elim, fun _ _ _ _ _ _ _ h1 => h1.elim⟩
    · refine (rel_start (W := W1) _ (.cons (.lam gd R1.sl.out) .nil)).low (sg_low hk0)
    · have hk' : W.S.K = W'.S.K := by rw [e.s]; exact hKK
      exact fin { W' with S := W.S } .non .non ms' ⟨rfl, e1.ex.trans e.ex, fun i a z => e.adr i a (e1.adr i a z), fun a o u z => e.frz a o u (e1.frz a o u z), e.p.trans e1.p⟩ (O'.sg hk') .non h1
    · have hk' : W.S.K = W'.S.K := by rw [e.s]; exact hKK
      exact fin { W' with S := W.S } v r ms' ⟨rfl, e1.ex.trans e.ex, fun i a z => e.adr i a (e1.adr i a z), fun a o u z => e.frz a o u (e1.frz a o u z), e.p.trans e1.p⟩ (O'.sg hk') (by show Dt W.S.K _ _ _ _; rw [hk']; exact ok') h1
  refine wpAny_call (codeAny_mono told fun res s2 hres => ?_)
  match res, hres with
  | .error e, z => exact (show False from z).elim
  | .ok (.ret u), z => exact J1.after z
  | .ok .next, z => exact False.elim z
  | .ok .brk, z => exact False.elim z
  | .ok .cont, z => exact False.elim z
end Sy
namespace Sy
open PySem PySem.Spec PyProof.Rows L2 LamX
/-! ## the law's end where tables of code are in use -/
abbrev tab0 : Obj := { cls := .none, data := .fields #[] }
/-- only the script and the tables are known -/
def OnlyT (ts : List (Addr × Addr)) (H : Hp) : Prop := (∀ p ∈ ts, H p.2 = some (.tbl #[])) ∧ ∀ c, H c = none ∨ c ∈ ts.map (·.2) ∨ ∃ ob xs, H c = some (.frz ob (.lst xs))
theorem lawGT {P : Program} {w : World} {K : PySem.W.Frag} {mg mb : Str → Option Value} {CX : CXT} {k : Nat} {fa a : Addr} {ts : List (Addr × Addr)} {fd : FuncData} {x : Str} {sp : Sp} {s1 : Shared} {vs : List Value} {ns : List Int}
    (KX : K.In s1.heap) (hns : s1.heap.Ns mainGlobals mg) (hb : s1.heap.Ns builtinsNs mb) (hbb : ∀ x : Str, x ≠ "__name__" → mb x = bootBuiltins x) (hlim : s1.heap.NoLimit) (hgn : s1.gens = #[])
    (empty : ∀ p ∈ ts, s1.heap.get? p.2 = some tab0) (outK : ∀ p ∈ ts, K.lookup p.2 = none) (codes : ∀ p ∈ ts, PySem.W.CodeHd s1.heap p.1 p.2)
    (hbm : ∃ (bm : Addr) (ob : Obj), mg "__builtins__" = some (.ref bm) ∧ bm ≠ builtinsNs ∧ s1.heap.get? bm = some ob ∧ ob.cls = .type "module" ∧ ob.dict = some builtinsNs ∧ ob.data = .plain)
    (ha : s1.heap.get? a = some { cls := .type "list", data := .seq vs.toArray }) (hi : IntsAre vs ns) (hl : ns.length ≤ sizeLine) (room : Room k callerA)
    (F : ∀ base : Heap, K.In base → base.Ns mainGlobals mg → (∀ p ∈ ts, TabB base mg p.1 p.2) → FnG P w K mg base CX k fa fd [x] sp) (hbind : ∀ (s : Shared) (u : Value), BindsTo s fd ⟨[u], []⟩ [(x, u)])
    (hsp : ∀ H : Hp, OnlyT ts H → SqL K H a (ns.map V.int) → sp [.ref a] H (fun v _ => v = .bl true) fun _ _ _ => False)
    (hCX : ∀ H e s', CX [] H s1 (fun _ _ _ => False) e s' → False) :
    codeAny (model P w) callerA (.call (.ref fa) ⟨[.ref a], []⟩) (fun r s' => r = .ok (.ret (.bool true)) ∧ OldK s1.heap s'.heap ∧ s'.os = s1.os ∧ AllBare s'.gens) s1 := by
  have vals := vals_ints hi
  have hlen := hi.length
  have tabAt : ∀ c ∈ ts.map (·.2), s1.heap.get? c = some tab0 := by
    intro c hc
    obtain ⟨p, hp, rfl⟩ := List.mem_map.mp hc
    exact empty p hp
  have notTab : a ∉ ts.map (·.2) := by
    intro hm
    have := (tabAt a hm).symm.trans ha
    cases this
  have main : ∀ H : Hp, OnlyT ts H → SqL K H a (ns.map V.int) → HOk P w H s1.heap → (∀ c, H c ≠ none → c = a ∨ c ∈ ts.map (·.2)) → (H a ≠ none → K.lookup a = none) →
      codeAny (model P w) callerA (.call (.ref fa) ⟨[.ref a], []⟩) (fun r s' => r = .ok (.ret (.bool true)) ∧ OldK s1.heap s'.heap ∧ s'.os = s1.os ∧ AllBare s'.gens) s1 := by
    intro H only sq ok onlyA notK
    have cover : ∀ {c : Addr} {o : Obj}, s1.heap.get? c = some o → (∀ ws n, o.data ≠ .seq ws n) → o ≠ tab0 → H c = none := by
      intro c o z n1 n2
      cases y : H c with
      | none => rfl
      | some u =>
        rcases onlyA c (by rw [y]; intro q; cases q) with q | q
        · subst q
          rw [ha] at z; cases z
          exact absurd rfl (n1 _ _)
        · rw [tabAt c q] at z; cases z
          exact absurd rfl n2
    have dictFree : ∀ {c : Addr} {o : Obj} {es : Array DictEntry} {ep : Nat}, s1.heap.get? c = some o → o.data = .dict es ep → H c = none := fun {c o es ep} z d =>
      cover z (fun ws n q => by rw [d] at q; cases q) (fun q => by rw [q] at d; cases d)
    have nsK : ∀ {c : Addr} {m : Str → Option Value}, s1.heap.Ns c m → (hidT s1.heap H).Ns c m := fun {c m} ⟨o, es, ep, z, d, r⟩ => ⟨o, es, ep, hidT_get z (dictFree z d), d, r⟩
    have kin : K.In (hidT s1.heap H) := fun c o z => hidT_get (KX c o z) (by
      cases y : H c with
      | none => rfl
      | some u =>
        rcases onlyA c (by rw [y]; intro q; cases q) with q | q
        · subst q
          rw [notK (by rw [y]; intro q; cases q)] at z; cases z
        · obtain ⟨p, hp, rfl⟩ := List.mem_map.mp q
          rw [outK p hp] at z; cases z)
    have md : L2.Mod K mg (hidT s1.heap H) := ⟨kin, nsK hns, ⟨mb, nsK hb, hbb⟩, let ⟨mc, h1, h2⟩ := hlim; ⟨mc, nsK h1, h2⟩⟩
    have en : Env0 P w K mg (hidT s1.heap H) callerA [] s1 H := ⟨rfl, md, fun c o z => of_hidT z, Nat.le_of_eq (hidT_size _ _), trivial, fun c hc => absurd (show c ∈ ([] : List Addr) from hc) (by simp), ok, .of_eq hgn⟩
    have tbs : ∀ p ∈ ts, TabB (hidT s1.heap H) mg p.1 p.2 := by
      intro p hp
      have hG := empty p hp
      have mainNot : mainGlobals ≠ p.2 := by
        intro q
        obtain ⟨o, es, ep, e, d, _⟩ := hns
        rw [q, hG] at e; cases e; cases d
      constructor
      · obtain ⟨o, us, file, tf, flags, tg, inF, text, tt, z, r1, r2, r⟩ := codes p hp
        refine ⟨o, us, file, tf, flags, tg, inF, text, tt, hidT_get z (cover z (fun ws n q => by rw [r2] at q; cases q) (fun q => by rw [q] at r1; cases r1)), r1, r2, r⟩
      · obtain ⟨bm, ob, q1, q2, q3, q4, q5, q6⟩ := hbm
        have plainIs : ob ≠ tab0 := fun q => by rw [q] at q4; cases q4
        have offMain : bm ≠ mainGlobals := by
          intro q
          obtain ⟨o, es, ep, e, d, _⟩ := hns
          rw [q, e] at q3; cases q3
          rw [d] at q6; cases q6
        have offTab : bm ≠ p.2 := by
          intro q
          rw [q, hG] at q3; cases q3
          exact plainIs rfl
        exact ⟨bm, ob, q1, q2, offMain, offTab, hidT_get q3 (cover q3 (fun ws n q => by rw [q6] at q; cases q) plainIs), q4, q5, q6⟩
      · exact mainNot
    refine codeAny_mono ((F _ kin (nsK hns) tbs).go callerA [] s1 H ⟨[.ref a], []⟩ [.ref a] [.ref a] _ _ rfl room en (hbind s1 (.ref a)) (.cons rfl .nil) (hsp H only sq)) fun res s2 hres => ?_
    match res, hres with
    | .error e, z => exact (hCX H e s2 z).elim
    | .ok .next, z => exact False.elim z
    | .ok .brk, z => exact False.elim z
    | .ok .cont, z => exact False.elim z
    | .ok (.ret u), ⟨v, H2, os, bare, un, ok2, rv, (hv : v = .bl true)⟩ =>
      subst hv
      obtain rfl : u = Value.bool true := rv
      have stays : ∀ c o, c ∉ ts.map (·.2) → s1.heap.get? c = some o → s2.heap.get? c = some o := by
        intro c o nt z
        cases y : H c with
        | none => exact un.keep c o z y (fun q => absurd (show c ∈ ([] : List Addr) from q) (by simp)) (by simp)
        | some t =>
          rcases only.2 c with q | q | ⟨ob, xs, q⟩
          · rw [y] at q; cases q
          · exact absurd q nt
          · obtain ⟨e1, _⟩ := ok c _ q
            obtain ⟨e2, _⟩ := ok2 c _ (un.frzs c ob _ q)
            rw [z] at e1; cases e1
            exact e2
      have more : ∀ p ∈ ts, ∃ rows : Array Value, s2.heap.get? p.2 = some { cls := .none, data := .fields rows } := by
        intro p hp
        obtain ⟨rows, z⟩ := un.tbls p.2 #[] (only.1 p hp)
        exact ⟨_, ok2 p.2 _ z⟩
      refine ⟨rfl, ⟨fun c o z => ?_, fun c o z => ?_⟩, os, bare⟩
      · rcases Classical.em (c ∈ ts.map (·.2)) with hm | hm
        · obtain ⟨p, hp, rfl⟩ := List.mem_map.mp hm
          obtain ⟨rows, hrow⟩ := more p hp
          rw [empty p hp] at z; cases z
          exact .inr (.inl ⟨((codes p hp).tab (empty p hp)).isCodeTable, rfl, #[], rows, rfl, by rw [Array.empty_append]; exact hrow⟩)
        · exact .inl (stays c o hm z)
      · rcases Classical.em (c ∈ ts.map (·.2)) with hm | hm
        · obtain ⟨p, hp, rfl⟩ := List.mem_map.mp hm
          obtain ⟨rows, hrow⟩ := more p hp
          exact ⟨_, hrow⟩
        · exact ⟨o, stays c o hm z⟩
  cases hk : K.lookup a with
  | some o =>
    have z := KX a o hk
    rw [ha] at z
    cases z
    have at_t : ∀ {c}, c ∈ ts.map (·.2) → (fun c => if c ∈ ts.map (·.2) then some (HO.tbl #[]) else none) c = some (HO.tbl #[]) := fun q => if_pos q
    have off_t : ∀ {c}, c ∉ ts.map (·.2) → (fun c => if c ∈ ts.map (·.2) then some (HO.tbl #[]) else none) c = none := fun q => if_neg q
    refine main (fun c => if c ∈ ts.map (·.2) then some (.tbl #[]) else none) ⟨fun p hp => at_t (List.mem_map.mpr ⟨p, hp, rfl⟩), fun c => ?_⟩ (Or.inr ⟨_, vs.toArray, _, hk, rfl, rfl, rfl, by rw [List.size_toArray, hlen]; exact hl, by simpa using vals⟩) (fun c u q => ?_) (fun c q => ?_) fun q => absurd (off_t notTab) q
    · rcases Classical.em (c ∈ ts.map (·.2)) with z | z
      · exact .inr (.inl z)
      · exact .inl (off_t z)
    · rcases Classical.em (c ∈ ts.map (·.2)) with z | z
      · cases (at_t z).symm.trans q
        exact tabAt c z
      · cases (off_t z).symm.trans q
    · exact Classical.byContradiction fun z => q (off_t fun y => z (.inr y))
  | none =>
    let ob : Obj := { cls := .type "list", data := .seq vs.toArray }
    let H0 : Hp := fun c => if c = a then some (.frz ob (.lst (ns.map V.int))) else if c ∈ ts.map (·.2) then some (.tbl #[]) else none
    have at_a : H0 a = some (HO.frz ob (.lst (ns.map V.int))) := if_pos rfl
    have at_t : ∀ {c}, c ∈ ts.map (·.2) → H0 c = some (HO.tbl #[]) := fun {c} q => (if_neg (fun z : c = a => notTab (by rw [← z]; exact q))).trans (if_pos q)
    have off : ∀ {c}, c ≠ a → c ∉ ts.map (·.2) → H0 c = none := fun {c} z q => (if_neg z).trans (if_neg q)
    have three : ∀ c, c = a ∨ c ∈ ts.map (·.2) ∨ (c ≠ a ∧ c ∉ ts.map (·.2)) := fun c => by
      rcases Classical.em (c = a) with z | z
      · exact .inl z
      · rcases Classical.em (c ∈ ts.map (·.2)) with q | q
        · exact .inr (.inl q)
        · exact .inr (.inr ⟨z, q⟩)
    refine main H0 ⟨fun p hp => at_t (List.mem_map.mpr ⟨p, hp, rfl⟩), fun c => ?_⟩ (Or.inl (Or.inr ⟨ob, at_a⟩)) (fun c u q => ?_) (fun c q => ?_) fun _ => hk
    · rcases three c with rfl | z | ⟨z1, z2⟩
      · exact .inr (.inr ⟨_, _, at_a⟩)
      · exact .inr (.inl z)
      · exact .inl (off z1 z2)
    · rcases three c with rfl | z | ⟨z1, z2⟩
      · cases at_a.symm.trans q
        exact ⟨ha, by rw [List.length_map]; exact hl, vs, _, vals, ha⟩
      · cases (at_t z).symm.trans q
        exact tabAt c z
      · cases (off z1 z2).symm.trans q
    · rcases three c with rfl | z | ⟨z1, z2⟩
      · exact .inl rfl
      · exact .inr z
      · exact absurd (off z1 z2) q
theorem walkGT {l : PySem.W.OpenLaw} {n k : Nat} {q : Program} {loose : List Str} {XP : (Str → Option Value) → Heap → Prop} {YP : World → Heap → Prop} {d : DefRec} {CX : World → CXT} {x : Str}
    (hn : l.most = some n) (hn2 : n ≤ sizeLine) (hdf : d.params.defaults = []) (room : Room k callerA)
    (F : ∀ (w : World) (mg : Str → Option Value) (fa : Addr) (h : Heap), YP w h → h.Ns mainGlobals mg → mg d.name = some (.ref fa) →
      ∃ (K : PySem.W.Frag) (fd : FuncData) (sp : Sp) (ts : List (Addr × Addr)), K.In h ∧ (∀ (s : Shared) (u : Value), BindsTo s fd ⟨[u], []⟩ [(x, u)]) ∧
        (∀ p ∈ ts, h.get? p.2 = some tab0 ∧ K.lookup p.2 = none ∧ PySem.W.CodeHd h p.1 p.2) ∧
        (∀ (H : Hp) (a : Addr) (ns : List Int), ns.length ≤ n → OnlyT ts H → SqL K H a (ns.map V.int) → sp [.ref a] H (fun v _ => v = .bl true) fun _ _ _ => False) ∧
        ∀ base : Heap, K.In base → base.Ns mainGlobals mg → (∀ p ∈ ts, TabB base mg p.1 p.2) → FnG l.prog w K mg base (CX w) k fa fd [x] sp)
    (hCX : ∀ (w : World) (H : Hp) (s : Shared) (e : Value) (s' : Shared), CX w [] H s (fun _ _ _ => False) e s' → False) :
    PySem.W.WalkO q loose XP YP l.row.toRowW d [] (fun f vs => PySem.call f vs) := by
  refine Att.attach_callB hn hdf fun w s0 s1 mg mb fa o pm cd doc a vs ns gr yp ho hd hcd hmg hobj hints hlen hbits hgn => ?_
  obtain ⟨K, fd, sp, ts, kin, hb, hT, hsp, hF⟩ := F w mg fa _ yp gr.T.g hmg
  exact lawGT kin gr.T.g gr.T.b gr.T.builtins gr.T.nolimit hgn (fun p hp => (hT p hp).1) (fun p hp => (hT p hp).2.1) (fun p hp => (hT p hp).2.2) gr.T.bmain hobj hints (Nat.le_trans hlen hn2) room hF hb (fun H hO hS => hsp H a ns hlen hO hS) fun H e s' => hCX w H s1 e s'
/-! the world in which the law starts -/
theorem own_tabs {K : PySem.W.Frag} {H : Hp} {S : Sg} (hK : S.K = K) {ps : List ((Str × Option Str) × Str)} (hO : OnlyT (ps.map fun p => (codeP K p.1, tabP K p.1)) H) (nd : (ps.map fun p => tabP K p.1).Nodup) :
    Own ⟨S, fun c => if c ∈ ps.map (fun p => tabP K p.1) then none else H c, H, ps.map fun p => tabP K p.1, fun _ => none⟩ (ps.map fun p => .tab p.1 p.2) := by
  have tabs : ∀ c, c ∈ ps.map (fun p => tabP K p.1) → H c = some (.tbl #[]) := by
    intro c hc
    obtain ⟨p, hp, rfl⟩ := List.mem_map.mp hc
    exact hO.1 (codeP K p.1, tabP K p.1) (List.mem_map.mpr ⟨p, hp, rfl⟩)
  refine ⟨fun c o h => ?_, by simp, fun i j a h1 h2 => ?_, fun i a h => ⟨_, tabs a (List.mem_of_getElem? h)⟩, (fun _ _ h => by cases h), (fun _ _ h => by cases h), fun _ _ _ => rfl, fun i c h n => ?_, fun i p q h => ?_⟩
  · have h : (if c ∈ ps.map (fun p => tabP K p.1) then none else H c) = some o := h
    split at h
    · cases h
    · exact h
  · obtain ⟨l1, e1⟩ := List.getElem?_eq_some_iff.mp h1
    obtain ⟨l2, e2⟩ := List.getElem?_eq_some_iff.mp h2
    exact (List.getElem_inj nd).mp (e1.trans e2.symm)
  · rw [List.getElem?_map] at h
    obtain ⟨p, hp, rfl⟩ := Option.map_eq_some_iff.mp h
    have hm : tabP K p.1 ∈ ps.map (fun p => tabP K p.1) := List.mem_map.mpr ⟨p, List.mem_of_getElem? hp, rfl⟩
    refine ⟨tabP K p.1, _, ?_, if_pos hm, tabs _ hm, #[], rfl, trivial, fun pos cv z => ?_⟩
    · show (ps.map _)[i]? = _
      rw [List.getElem?_map, hp]; rfl
    · have z : codeAmong pos [] = some cv := z
      simp [codeAmong] at z
  · rw [List.getElem?_map] at h
    obtain ⟨p', hp, e⟩ := Option.map_eq_some_iff.mp h
    cases e
    show (ps.map _)[i]? = some (tabP S.K p'.1)
    rw [List.getElem?_map, hp, hK]; rfl
theorem sq_tabs {K : PySem.W.Frag} {H : Hp} {a : Addr} {xs : List V} {T : List Addr} (hT : ∀ c ∈ T, H c = some (.tbl #[])) (h : SqL K H a xs) : SqL K (fun c => if c ∈ T then none else H c) a xs := by
  have off : ∀ {o : HO}, H a = some o → (∀ ps, o ≠ .tbl ps) → (if a ∈ T then none else H a) = some o := fun {o} e n => by
    rw [if_neg (fun z => ?_)]
    · exact e
    · rw [hT a z] at e
      exact n _ (Option.some.inj e).symm
  rcases h with (h | ⟨ob, h⟩) | h
  · exact .inl (.inl (off h fun _ z => by cases z))
  · exact .inl (.inr ⟨ob, off h fun _ z => by cases z⟩)
  · exact .inr h
/-! the head's hook, with tables -/
def isRefB (P : Addr) : Value → Bool
  | .ref Q => decide (Q = P)
  | _ => false
def isStrB : Value → Bool
  | .str _ _ => true
  | _ => false
def isIntB : Value → Bool
  | .int _ _ => true
  | _ => false
def isBoolB : Value → Bool
  | .bool _ => true
  | _ => false
theorem isBoolB_ok {v : Value} (h : isBoolB v = true) : ∃ b, v = .bool b := by
  cases v <;> simp [isBoolB] at h
  exact ⟨_, rfl⟩
theorem isRefB_ok {P : Addr} {v : Value} (h : isRefB P v = true) : v = .ref P := by
  cases v <;> simp [isRefB] at h
  rw [h]
theorem isStrB_ok {v : Value} (h : isStrB v = true) : ∃ f t, v = .str f t := by
  cases v <;> simp [isStrB] at h
  exact ⟨_, _, rfl⟩
theorem isIntB_ok {v : Value} (h : isIntB v = true) : ∃ f t, v = .int f t := by
  cases v <;> simp [isIntB] at h
  exact ⟨_, _, rfl⟩
def tabOkB (g : Addr → Option Obj) (K : PySem.W.Frag) (p : Str × Option Str) : Bool :=
  (match g (tabP K p) with
    | some ⟨.none, none, .fields vs, sl⟩ => vs.isEmpty && sl.isEmpty
    | _ => false) && (K.lookup (tabP K p)).isNone && !(codeP K p == tabP K p) &&
  (match K.lookup (codeP K p) with
    | some ⟨.type n, _, .fields vs, _⟩ => decide (n = "code") && decide (11 < vs.size) && isRefB (tabP K p) (vs.getD 11 Value.none) && isStrB (vs.getD 18 Value.none) && isIntB (vs.getD 7 Value.none) && isBoolB (vs.getD 9 Value.none) && isIntB (vs.getD 10 Value.none)
    | _ => false)
theorem tabOk {g : Addr → Option Obj} {h : Heap} {K : PySem.W.Frag} {p : Str × Option Str} (hg : ∀ a, g a = h.get? a) (kin : K.In h) (z : tabOkB g K p = true) : h.get? (tabP K p) = some tab0 ∧ K.lookup (tabP K p) = none ∧ PySem.W.CodeHd h (codeP K p) (tabP K p) := by
  unfold tabOkB at z
  simp only [Bool.and_eq_true, Bool.not_eq_true', beq_eq_false_iff_ne, ne_eq] at z
  obtain ⟨⟨⟨z1, z2⟩, z3⟩, z4⟩ := z
  refine ⟨?_, by simpa using z2, ?_⟩
  · rw [← hg]
    split at z1
    · rename_i vs sl e
      rw [e]
      simp only [Bool.and_eq_true, Array.isEmpty_iff] at z1
      rw [z1.1, z1.2]
    · cases z1
  · split at z4
    · rename_i n od vs sl e
      simp only [Bool.and_eq_true, decide_eq_true_eq] at z4
      obtain ⟨⟨⟨⟨⟨⟨y1, y2⟩, y3⟩, y4⟩, y5⟩, y6⟩, y7⟩ := z4
      subst y1
      have b11 := isRefB_ok y3
      obtain ⟨f, tf, b18⟩ := isStrB_ok y4
      obtain ⟨i7, t7, b7⟩ := isIntB_ok y5
      obtain ⟨i9, b9⟩ := isBoolB_ok y6
      obtain ⟨i10, t10, b10⟩ := isIntB_ok y7
      refine ⟨_, vs, f, tf, i7, t7, i9, i10, t10, kin _ _ e, rfl, rfl, ?_, b11, b18, b7, ?_, b10, z3⟩
      · rw [← b11]
        simp [Array.getD, y2]
      · exact b9
    · cases z4
end Sy
namespace Sy
open PySem PySem.Spec PyProof.Rows L2 LamX
def asZ (g : Addr → Option Obj) (n : Nat) : List Addr := He.asD g n ++ [cStatics, sysModules]
/-- the written part without the tables -/
def offT (ts : List (Str × Option Str)) (K : PySem.W.Frag) : PySem.W.Frag := K.filter fun q => !((ts.map (tabP K)).contains q.1)
theorem filt_lookup {f : Addr → Bool} {a : Addr} {o : Obj} : ∀ {K : PySem.W.Frag}, (K.filter fun q => f q.1).lookup a = some o → K.lookup a = some o
  | [], h => by cases h
  | (b, x) :: K, h => by
    rw [List.filter_cons] at h
    rw [List.lookup_cons]
    cases e : a == b with
    | true =>
      have e' : a = b := by simpa using e
      subst e'
      cases hf : f a with
      | true =>
        rw [if_pos (by simpa using hf), List.lookup_cons] at h
        simpa using h
      | false =>
        rw [if_neg (by simp [hf])] at h
        exfalso
        have : ∀ {L : PySem.W.Frag}, (L.filter fun q => f q.1).lookup a = some o → False := by
          intro L
          induction L with
          | nil => intro h; cases h
          | cons c L ih =>
            obtain ⟨c, y⟩ := c
            intro h
            rw [List.filter_cons] at h
            split at h
            · rename_i hc
              rw [List.lookup_cons] at h
              cases e2 : a == c with
              | true =>
                have e2' : a = c := by simpa using e2
                subst e2'
                simp [hf] at hc
              | false => rw [e2] at h; exact ih h
            · exact ih h
        exact this h
    | false =>
      cases hf : f b with
      | true =>
        rw [if_pos (by simpa using hf), List.lookup_cons, e] at h
        exact filt_lookup h
      | false =>
        rw [if_neg (by simp [hf])] at h
        exact filt_lookup h
theorem offT_in {ts : List (Str × Option Str)} {K : PySem.W.Frag} {h : Heap} (kin : K.In h) : (offT ts K).In h := fun a o e => kin a o (filt_lookup (f := fun c => !((ts.map (tabP K)).contains c)) e)
def obsZ (n : Nat) (fa : List He.Fa) (fn : List He5.DefA) (ex : PySem.W.Frag → Bool) (ts : List (Str × Option Str)) (g : Addr → Option Obj) : He.AlD × Bool :=
  let K := offT ts (He.frG g (asZ g n))
  (He5.obsA fa fn K, ex K && (decide ((ts.map (tabP K)).Nodup) && ts.all (tabOkB g K)))
structure TabsH (ts : List (Str × Option Str)) (K : PySem.W.Frag) (h : Heap) : Prop where
  nd : (ts.map (tabP K)).Nodup
  ok : ∀ p ∈ ts, h.get? (tabP K p) = some tab0 ∧ K.lookup (tabP K p) = none ∧ PySem.W.CodeHd h (codeP K p) (tabP K p)
def hookZ (n : Nat) (fa : List He.Fa) (fn : List He5.DefA) (ex : PySem.W.Frag → Bool) (ts : List (Str × Option Str)) : PySem.W.Hook where
  α := He.AlD × Bool
  obs := fun s => obsZ n fa fn ex ts s.heap.get?
  val := fun _ => (He5.valA fn, true)
  says := fun _ h => ∃ K : PySem.W.Frag, K.In h ∧ SaysY fa fn ex K ∧ TabsH ts K h
  of := fun _ s e => by
    have e2 : (ex (offT ts (He.frG s.heap.get? (asZ s.heap.get? n))) && (decide ((ts.map (tabP (offT ts (He.frG s.heap.get? (asZ s.heap.get? n))))).Nodup) && ts.all (tabOkB s.heap.get? (offT ts (He.frG s.heap.get? (asZ s.heap.get? n)))))) = true := congrArg (fun z : He.AlD × Bool => z.2) e
    simp only [Bool.and_eq_true, decide_eq_true_eq, List.all_eq_true] at e2
    exact ⟨_, offT_in He.frG_in, ⟨congrArg (fun z : He.AlD × Bool => z.1) e, e2.1⟩, e2.2.1, fun p hp => tabOk (fun _ => rfl) (offT_in He.frG_in) (e2.2.2 p hp)⟩
  keeps := fun _ _ _ ⟨K, hK, c, t⟩ k => ⟨K, PySem.W.Frag.In.keeps hK k, c, t.nd, fun p hp => ⟨k _ _ (t.ok p hp).1, (t.ok p hp).2.1, (t.ok p hp).2.2.keeps k⟩⟩
theorem obsZ_eq {n : Nat} {fa : List He.Fa} {fn : List He5.DefA} {ex : PySem.W.Frag → Bool} {ts : List (Str × Option Str)} {g : Addr → Option Obj} {s : Shared} (h : ∀ a, g a = s.heap.get? a) : obsZ n fa fn ex ts g = (hookZ n fa fn ex ts).obs s := by
  have e : g = s.heap.get? := funext h
  rw [e] <;> rfl
/-! isinstance of the exception that is handled -/
def rIsX (K : PySem.W.Frag) (a : Addr) (cls : Value) (d : Option Addr) : List V → Hp → VK → Prop := fun xs H Q => ∃ (c : V) (u : Value) (C dd : Addr) (ys : List (Str × V)) (b : Bool), xs = [.ref a, c] ∧ ClsV c u ∧ cls = .ref C ∧ XcC K C ∧ d = some dd ∧ H dd = some (.xd ys) ∧ PySem.W.kitOne K (.ref C) u = some b ∧ Q (.bl b) H
theorem call_isX {X : Cx} {a : Addr} {oe : Obj} {cls : Value} {d : Option Addr} {pn : List (Addr × Obj)} (hz : Zc cls d oe) (hf : ∃ vs, oe.data = .fields vs) : CallR (X.suite a ((a, oe) :: pn)) (.builtin "isinstance") (rIsX X.K a cls d) := by
  intro pins s σ H xs us Q J r h
  obtain ⟨c, u, C, dd, ys, b, rfl, kc, rfl, T, rfl, hd, e, q⟩ := h
  obtain ⟨u1, u2, rfl, r1, r2⟩ := vals2 r
  have e2 := kc.eq r2
  subst e2
  cases (show u1 = Value.ref a from r1)
  obtain ⟨at_, _⟩ := J.pin (a, oe) (List.mem_append_left _ List.mem_cons_self)
  obtain ⟨ws, hw⟩ := hf
  obtain ⟨mA, hns, _⟩ : ObjOk X.prog X.w H s.heap dd (.xd ys) := J.hok dd _ hd
  obtain ⟨od, hod, _⟩ := lookIn_ns hns
  have I : PySem.W.InstAt s.heap a oe C (some od) := ⟨at_, hz.1, by unfold PySem.W.notCls; rw [hw] <;> rfl, by rw [hz.2]; exact hod⟩
  exact PySem.W.kia_one (PySem.W.kitx_exc (od := some od) T.ic T.ga T.gt T.sb T.cl T.cg T.ct T.mo) J.kIn I e (fun z => nomatch z) fun tk => ⟨.bl b, H, J.tok tk, rfl, q⟩
@[simp] def wXIs (kt : Kd → Kd → Option Bool) (xs : Str → Bool) (wa : WA) : WE := fun ρ ms k => wa ρ ms fun rs ms1 => match rs, ρ.xf with
  | [.ref a, c], (_, .ref a') :: _ => a = a' ∧ xs ρ.xc = true ∧ (match clsK c with
    | some b => (match kt (.own ρ.xc) b with
      | some v => k (.bl v) ms1
      | none => False)
    | none => False)
  | _, _ => False
theorem de_xis {X : Cx} {a : Addr} {oe : Obj} {cls : Value} {d : Option Addr} {pn : List (Addr × Obj)} {tk : Takes (X.suite a ((a, oe) :: pn)) never} {e : Expr} {es : List Expr} {p pos : Pos} {kt : Kd → Kd → Option Bool} {xs ins : Str → Bool} {wa : WA}
    (T : KtOk X.K kt xs ins) (hz : Zc cls d oe) (hf : ∃ vs, oe.data = .fields vs) (gl : Gl (X.suite a ((a, oe) :: pn)) "isinstance") (hm : X.mg "isinstance" = none) (ha : DA ⟨X.suite a ((a, oe) :: pn), never, tk, some (a, cls, d)⟩ (e :: es) wa)
    (he : starEach (e :: es) X.env = (false, eval e X.env) :: starEach es X.env := by rfl) (hpl : (backTo pos (starEach es X.env)).any (·.1) = false := by rfl) :
    DE ⟨X.suite a ((a, oe) :: pn), never, tk, some (a, cls, d)⟩ (.Call (.Name "isinstance" p) (e :: es) [] pos) (wXIs kt xs wa) := by
  obtain ⟨t, pa, la⟩ := ha
  refine ⟨_, pe_callB (call_isX hz hf) gl hm (by decide +kernel) pa (by decide) (by decide) he hpl, fun W σ ρ ms Q k hK Rl O hw q => la W σ ρ ms _ _ hK Rl O hw fun W1 vs rs ms1 e1 O1 ok1 h1 => ?_⟩
  have hS : W1.S = ⟨X.K, never, some (a, cls, d)⟩ := e1.s.trans hK
  have hKK : W1.S.K = X.K := congrArg Sg.K hS
  obtain ⟨g1, dd, ys, fs0, g2, g3, g4, g5⟩ := (Rl.mono e1).hd a cls d (congrArg Sg.xh hS)
  rw [g4] at h1
  split at h1
  · rename_i a1 c _ a2 fs e
    cases e
    obtain ⟨rfl, hx, h2⟩ := h1
    split at h2
    · rename_i b eb
      split at h2
      · rename_i v ev
        cases ok1 with
        | cons o1 o2 =>
          cases o2 with
          | cons o2 o3 =>
            cases o3
            cases o1
            have kc := clsK_ok o2 eb
            rw [show W1.K = X.K from hKK] at kc g1
            refine ⟨_, _, He.ga X.K ρ.xc, dd, ys, v, rfl, kc, by rw [g1], T.xc _ hx, g2, O1.ex _ _ g3, T.ok _ _ _ ev, q W1 _ (.bl v) ms1 e1 O1 (.bl v) h2⟩
      · exact h2.elim
    · exact h2.elim
  · exact h1.elim
end Sy
namespace Sy
open PySem PySem.Spec PyProof.Rows L2 LamX
/-! ## repr of frozen things, however deep -/
mutual
def toPyF : Dat → PyData
  | .bl b => .bool b
  | .int i => .int i
  | .str x => .str x
  | .lst ds => .list (toPyFs ds)
  | .tup ds => .tuple (toPyFs ds)
  | .dic kvs => .dict (toPyFk kvs)
  | _ => .none
def toPyFs : List Dat → List PyData
  | [] => []
  | d :: ds => toPyF d :: toPyFs ds
def toPyFk : List (Key × Dat) → List (PyData × PyData)
  | [] => []
  | (k, d) :: ds => (keyPy k, toPyF d) :: toPyFk ds
end
mutual
def pureF : Dat → Bool
  | .non => true
  | .bl _ => true
  | .int _ => true
  | .str _ => true
  | .lst ds => pureFs ds
  | .tup ds => pureFs ds
  | .dic kvs => pureFk kvs
  | _ => false
def pureFs : List Dat → Bool
  | [] => true
  | d :: ds => pureF d && pureFs ds
def pureFk : List (Key × Dat) → Bool
  | [] => true
  | (_, d) :: ds => pureF d && pureFk ds
end
/-- the dict of the modules stands in the written part -/
def sysB (K : PySem.W.Frag) : Bool := match K.lookup sysModules with
  | some ⟨_, _, .dict _ _, _⟩ => true
  | _ => false
theorem sys_not {K : PySem.W.Frag} {h : Heap} (kin : K.In h) (b : sysB K = true) {a : Addr} {o : Obj} (e : h.get? a = some o) (n : ∀ es ep, o.data ≠ .dict es ep) : a ≠ sysModules := by
  intro z
  subst z
  unfold sysB at b
  split at b
  · rename_i hk
    rw [kin _ _ hk] at e
    cases e
    exact n _ _ rfl
  · cases b
section
variable {P : Program} {w : World} {K : PySem.W.Frag} {G H : Hp} {A : List Addr} {h : Heap} (hok : HOk P w H h) (sm : Same G H) (kin : K.In h) (sb : sysB K = true)
include hok sm kin sb
mutual
theorem readsF : ∀ {v : V} {d : Dat} {u : Value}, Dt K G A v d → pureF d = true → RelV v u → ∃ as, Reads h u (toPyF d) as ∧ sysModules ∉ as
  | _, _, _, .non, _, r => by cases r; exact ⟨[], .none, by simp⟩
  | _, _, _, .bl b, _, r => by cases r; exact ⟨[], .bool b, by simp⟩
  | _, _, _, .int i, _, r => by obtain ⟨t, rfl⟩ := r; exact ⟨[], .int i t, by simp⟩
  | _, _, _, .str x, _, r => by obtain ⟨t, rfl⟩ := r; exact ⟨[], .str x t, by simp⟩
  | _, _, _, .ty n, f, _ => by simp [pureF] at f
  | _, _, _, .ref a, f, _ => by simp [pureF] at f
  | _, _, _, .glo x, f, _ => by simp [pureF] at f
  | _, _, _, .scr _, f, _ => by simp [pureF] at f
  | _, _, _, .own _, f, _ => by simp [pureF] at f
  | _, _, _, .ins _ _, f, _ => by simp [pureF] at f
  | _, _, _, .exc _ _ _, f, _ => by simp [pureF] at f
  | _, _, _, .lam _ _, f, _ => by simp [pureF] at f
  | _, _, _, .lst (a := a) (xs := xs) hg hd, f, r => by
    cases r
    rw [pureF] at f
    obtain ⟨_, its, n, rv, e⟩ := (show ObjOk P w H h a (.lst xs) from hok a _ (sm _ _ hg))
    obtain ⟨as, ra, na⟩ := readsFs hd f rv
    refine ⟨a :: as, Reads.list e rfl rfl (by simpa using ra), fun z => ?_⟩
    rcases List.mem_cons.mp z with z | z
    · exact sys_not kin sb e (fun _ _ q => by cases q) z.symm
    · exact na z
  | _, _, _, .tup (a := a) (xs := xs) hg hd, f, r => by
    cases r
    rw [pureF] at f
    obtain ⟨_, its, rv, ⟨oc, od, dt, sl⟩, h1, h2, n, h3⟩ := (show ObjOk P w H h a (.tup xs) from hok a _ (sm _ _ hg))
    obtain ⟨as, ra, na⟩ := readsFs hd f rv
    exact ⟨as, Reads.tuple h1 h2 h3 (by simpa using ra), na⟩
  | _, _, _, .dic (a := a) (o := ob) (xs := xs) hg hd, f, r => by
    cases r
    rw [pureF] at f
    obtain ⟨_, hm, vs, kv, dd⟩ := dk_rd hok (.inr ⟨ob, sm _ _ hg⟩)
    obtain ⟨o, es, ep, ho, hc, hdat, _, hp2, _⟩ := dd
    obtain ⟨bs, rk, rv, nb⟩ := readsFk hd f kv hp2
    refine ⟨_, Reads.dict (as := []) ho hc.1 hdat rk rv, fun z => ?_⟩
    rcases List.mem_cons.mp z with z | z
    · rw [← z] at hm; simp at hm
    · exact nb z
theorem readsFs : ∀ {vs : List V} {ds : List Dat} {us : List Value}, Dts K G A vs ds → pureFs ds = true → Vals vs us → ∃ as, ReadsAll h us (toPyFs ds) as ∧ sysModules ∉ as
  | _, _, _, .nil, _, .nil => ⟨[], .nil, by simp⟩
  | _, _, _, .cons a b, f, .cons r rs => by
    rw [pureFs, Bool.and_eq_true] at f
    obtain ⟨as, r1, n1⟩ := readsF a f.1 r
    obtain ⟨bs, r2, n2⟩ := readsFs b f.2 rs
    exact ⟨as ++ bs, .cons r1 r2, fun z => (List.mem_append.mp z).elim n1 n2⟩
theorem readsFk : ∀ {xs : List (Key × V)} {ds : List (Key × Dat)} {vs : List (Key × Value)} {es : List DictEntry}, Dtk K G A xs ds → pureFk ds = true → KV xs vs → Pairs (mixKind P w) es vs →
    ∃ bs, ReadsAll h (es.map (·.key)) ((toPyFk ds).map (·.1)) [] ∧ ReadsAll h (es.map (·.val)) ((toPyFk ds).map (·.2)) bs ∧ sysModules ∉ bs
  | _, _, _, _, .nil, _, .nil, .nil => ⟨[], .nil, .nil, by simp⟩
  | _, _, _, _, .cons a b, f, .cons q t, .cons h1 h2 r => by
    rw [pureFk, Bool.and_eq_true] at f
    obtain ⟨q1, q2⟩ := q
    dsimp only at q1 q2 h1 h2
    obtain ⟨as, r1, n1⟩ := readsF a f.1 q2
    obtain ⟨bs, r2, r3, n2⟩ := readsFk b f.2 t r
    refine ⟨as ++ bs, ?_, ?_, fun z => (List.mem_append.mp z).elim n1 n2⟩
    · exact ReadsAll.cons (as := []) (bs := []) (by rw [q1]; exact reads_key h1) r2
    · exact ReadsAll.cons (by dsimp only; rw [h2]; exact r1) r3
end
end
def rReprF (K : PySem.W.Frag) : List V → Hp → VK → Prop := fun xs H Q => ∃ (G : Hp) (A : List Addr) (a : Addr) (d : Dat), xs = [.ref a] ∧ Same G H ∧ Dt K G A (.ref a) d ∧ pureF d = true ∧ (toPyF d).showable = true ∧ (toPyF d).depth ≤ 64 ∧ (toPyF d).shown.length ≤ sizeLine ∧ Q (.str (toPyF d).shown) H
theorem call_reprF {X : Cx} (hg : X.A.guards = some []) (hu : X.A.units + 65 < cLine) (sb : sysB X.K = true) : CallR X (.builtin "repr") (rReprF X.K) := by
  rintro pins s σ H xs us Q J r ⟨G, A, a, d, rfl, sm, hd, f, hs, hdep, hsz, q⟩
  obtain ⟨u, rfl, ru⟩ := vals1 r
  cases (show u = Value.ref a from ru)
  obtain ⟨as, ra, na⟩ := readsF J.hok sm J.kIn sb hd f (u := .ref a) rfl
  exact repr_of_reads' (h₀ := s.heap) ra hs (fun _ => na) hg (by omega) (fun _ _ z => z) (fun h' t tk kept => ⟨.str _, H, J.kept (t' := tk) kept, ⟨t, rfl⟩, q⟩) hsz
def isCont : Dat → Bool
  | .lst _ => true
  | .tup _ => true
  | .dic _ => true
  | _ => false
@[simp] def wReprF : WC := fun rs ms k => match rs with
  | [r] => if isCont r = true then (pureF r = true ∧ (toPyF r).showable = true ∧ (toPyF r).depth ≤ 64 ∧ (toPyF r).shown.length ≤ sizeLine ∧ k (.str (toPyF r).shown) ms) else wReprA rs ms k
  | _ => False
section
variable {X : Cy}
theorem dc_reprF (hg : X.X.A.guards = some []) (hu : X.X.A.units + 65 < cLine) (sb : sysB X.X.K = true) : CallR X.X (.builtin "repr") (fun xs H Q => rReprF X.X.K xs H Q ∨ (rRepr X.X.K xs H Q ∨ rReprDc xs H Q)) ∧ LC X.S (fun xs H Q => rReprF X.X.K xs H Q ∨ (rRepr X.X.K xs H Q ∨ rReprDc xs H Q)) wReprF := by
  obtain ⟨c1, c2⟩ := dc_reprA (X := X) hg hu
  refine ⟨fun pins s σ H xs us Q J rv hh => hh.elim (call_reprF hg hu sb pins s σ H xs us Q J rv) (c1 pins s σ H xs us Q J rv), fun W vs rs ms Q k hK ok O hw q => ?_⟩
  unfold wReprF at hw
  split at hw
  · rename_i r
    split at hw
    · rename_i hc
      obtain ⟨f, h1, h2, h3, hk⟩ := hw
      obtain ⟨v, rfl, o1⟩ := ok.one
      have hKK : W.S.K = X.X.K := congrArg Sg.K hK
      have : ∃ a, v = .ref a := by
        cases o1 <;> first | (cases hc; done) | exact ⟨_, rfl⟩
      obtain ⟨a, rfl⟩ := this
      have o1 : Dt W.S.K W.G W.A (.ref a) r := o1
      rw [hKK] at o1
      exact .inl ⟨W.G, W.A, a, r, rfl, O.ex, o1, f, h1, h2, h3, q W _ (.str _) ms (Ext.refl W) O (.str _) hk⟩
    · exact .inr (c2 W vs _ ms Q k hK ok O hw q)
  · exact hw.elim
/-! a name's dict is locked while an expression runs, if it is an own one -/
@[simp] def wLckA (i : Nat) (we : WE) : WE := fun ρ ms k => match ρ.sl[i]? with
  | some (some (.own j)) => wLckE i we ρ ms k
  | _ => we ρ ms k
theorem de_lckA (i : Nat) {e : Expr} {we : WE} (h : DE X e we) : DE X e (wLckA i we) := by
  obtain ⟨t1, p1, l1⟩ := de_lock i h
  obtain ⟨t2, p2, l2⟩ := h
  refine ⟨fun σ H Q => t1 σ H Q ∨ t2 σ H Q, ⟨fun pins s σ H Q J z => z.elim (p1.run pins s σ H Q J) (p2.run pins s σ H Q J)⟩, fun W σ ρ ms Q k hK R O hw q => ?_⟩
  unfold wLckA at hw
  split at hw
  · exact .inl (l1 W σ ρ ms Q k hK R O hw q)
  · exact .inr (l2 W σ ρ ms Q k hK R O hw q)
/-! xs + ys, a list that is still to be changed -/
@[simp] def wAddO : WR2 := fun a b ms k => match look ms a, look ms b with
  | some (.lst x), some (.lst y) => x.length + y.length ≤ sizeLine ∧ k (.own ms.length) (ms ++ [.lst (x ++ y)])
  | _, _ => False
theorem do_addO : OpR X.X (binaryOp .Add) rCat ∧ LR2 X.S rCat wAddO := ⟨op_cat, fun W x y a b ms Q k hK oa ob O hw q => by
  unfold wAddO at hw
  split at hw
  · rename_i xs ys e1 e2
    obtain ⟨p, us, rfl, g1, g2⟩ := O.list oa e1
    obtain ⟨p', us', rfl, g1', g2'⟩ := O.list ob e2
    refine ⟨p, p', us, us', rfl, rfl, g1, g1', by rw [g2.length, g2'.length]; exact hw.1, fun n hn => ?_⟩
    have low := take_low (W := W) (p := n) (o := .lst (us ++ us'))
    obtain ⟨O2, e2⟩ := O.take (o := .lst (us ++ us')) (c := .lst (xs ++ ys)) hn ⟨_, rfl, low_vs low (g2.append g2')⟩
    exact q _ (.ref n) (.own ms.length) _ e2 O2 (.own (by show (W.A ++ [n])[ms.length]? = _; rw [← O.len, List.getElem?_append_right (Nat.le_refl _), Nat.sub_self]; rfl)) hw.2
  · exact hw.elim⟩
end
end Sy
namespace Sy
open PySem PySem.Spec PyProof.Rows L2
theorem cps_inj {x y : Str} (h : x.cps.toList = y.cps.toList) : x = y := by
  cases x; cases y
  simp at h
  simp [h]
theorem sortedS_pw : ∀ {l : List Str}, sortedS l = true → l.Pairwise (fun a b => ¬ b.cps.toList < a.cps.toList)
  | [], _ => .nil
  | [x], _ => by simp
  | x :: y :: r, h => by
    have h : (!ltCps y.cps.toList x.cps.toList && sortedS (y :: r)) = true := h
    simp only [Bool.and_eq_true, Bool.not_eq_true'] at h
    have hp := sortedS_pw h.2
    have h1 : ¬ y.cps.toList < x.cps.toList := by
      have := h.1; rw [ltCps_eq] at this; simpa using this
    refine List.pairwise_cons.mpr ⟨fun z hz => ?_, hp⟩
    rcases List.mem_cons.mp hz with rfl | hz
    · exact h1
    · have h2 := (List.pairwise_cons.mp hp).1 z hz
      exact List.not_lt.mpr (List.le_trans (List.not_lt.mp h1) (List.not_lt.mp h2))
theorem sortedS_uniq {a b : List Str} (hp : a.Perm b) (h1 : sortedS a = true) (h2 : sortedS b = true) : a = b :=
  List.Perm.eq_of_pairwise (le := fun a b => ¬ b.cps.toList < a.cps.toList) (fun x y _ _ h h' => cps_inj (List.le_antisymm (List.not_lt.mp h) (List.not_lt.mp h'))) (sortedS_pw h1) (sortedS_pw h2) hp
/-! comprehensions over typed lists -/
theorem lcW_T {α : Type} {wg : WG} {wt : WT} {we : WE} {ρ : Env} {k : List Dat → Ms → Prop} {ms : Ms} (f : α → Dat) (p : α → Bool) (g : α → Dat) {xs : List α}
    (h : ∀ x ∈ xs, ∀ kk : List Dat → Ms → Prop, kk (if p x = true then [g x] else []) ms → wg (f x) ρ ms fun ρ1 ms1 => wt ρ1 ms1 fun b ms2 => if b = true then we ρ1 ms2 fun y ms3 => kk [y] ms3 else kk [] ms2) {acc : List Dat}
    (hs : acc.length + xs.length ≤ sizeLine) (hk : k (acc ++ (xs.filter p).map g) ms) : lcW wg wt we ρ k (xs.map f) acc ms := by
  induction xs generalizing acc with
  | nil => simpa using hk
  | cons x xs ih =>
    simp only [List.length_cons] at hs
    refine h x (by simp) (fun l ms' => match l with
      | [y] => acc.length < sizeLine ∧ lcW wg wt we ρ k (xs.map f) (acc ++ [y]) ms'
      | _ => lcW wg wt we ρ k (xs.map f) acc ms') ?_
    by_cases q : p x = true
    · rw [if_pos q]
      refine ⟨by omega, ih (fun z hz => h z (List.mem_cons_of_mem _ hz)) (by simp; omega) ?_⟩
      simpa [q] using hk
    · rw [if_neg q]
      exact ih (fun z hz => h z (List.mem_cons_of_mem _ hz)) (by omega) (by simpa [q] using hk)
theorem lcW_M {α : Type} {wg : WG} {we : WE} {ρ : Env} {k : List Dat → Ms → Prop} {ms : Ms} (f g : α → Dat) {xs : List α}
    (h : ∀ x ∈ xs, ∀ kk : List Dat → Ms → Prop, kk [g x] ms → wg (f x) ρ ms fun ρ1 ms1 => we ρ1 ms1 fun y ms3 => kk [y] ms3)
    (hs : xs.length ≤ sizeLine) (hk : k (xs.map g) ms) : lcW wg wYes we ρ k (xs.map f) [] ms :=
  lcW_T f (fun _ => true) g (fun x hx kk hkk => by simpa using h x hx kk (by simpa using hkk)) (by simpa using hs) (by rw [List.filter_eq_self.mpr (fun _ _ => rfl)]; exact hk)
/-- the same, with things left over -/
theorem lcW_G {α : Type} {wg : WG} {wt : WT} {we : WE} {ρ : Env} {k : List Dat → Ms → Prop} {ms : Ms} (f : α → Dat) (p : α → Bool) (g : α → Dat) {xs : List α}
    (h : ∀ x ∈ xs, ∀ gb, ∀ kk : List Dat → Ms → Prop, (∀ gb', kk (if p x = true then [g x] else []) (ms ++ gb')) → wg (f x) ρ (ms ++ gb) fun ρ1 ms1 => wt ρ1 ms1 fun b ms2 => if b = true then we ρ1 ms2 fun y ms3 => kk [y] ms3 else kk [] ms2) {acc : List Dat}
    (hs : acc.length + xs.length ≤ sizeLine) (hk : ∀ gb, k (acc ++ (xs.filter p).map g) (ms ++ gb)) {gb : Ms} : lcW wg wt we ρ k (xs.map f) acc (ms ++ gb) := by
  induction xs generalizing acc gb with
  | nil => simpa using hk gb
  | cons x xs ih =>
    simp only [List.length_cons] at hs
    refine h x (by simp) gb (fun l ms' => match l with
      | [y] => acc.length < sizeLine ∧ lcW wg wt we ρ k (xs.map f) (acc ++ [y]) ms'
      | _ => lcW wg wt we ρ k (xs.map f) acc ms') fun gb' => ?_
    by_cases q : p x = true
    · rw [if_pos q]
      exact ⟨by omega, ih (fun z hz => h z (List.mem_cons_of_mem _ hz)) (by simp; omega) (by simpa [q] using hk)⟩
    · rw [if_neg q]
      exact ih (fun z hz => h z (List.mem_cons_of_mem _ hz)) (by omega) (by simpa [q] using hk)
theorem mergeD_nd {ps : List (Key × Dat)} : ∀ {acc : List (Key × Dat)}, ((acc ++ ps).map (·.1)).Nodup → mergeD acc ps = acc ++ ps := by
  induction ps with
  | nil => intro acc _; simp
  | cons p ps ih =>
    intro acc nd
    obtain ⟨k, d⟩ := p
    have hn : getK acc k = none := by
      have : k ∉ acc.map (·.1) := fun hm => by
        rw [List.map_append, List.nodup_append] at nd
        exact nd.2.2 _ hm _ (by simp) rfl
      clear nd ih
      induction acc with
      | nil => rfl
      | cons a acc ih =>
        simp only [List.map_cons, List.mem_cons, not_or] at this
        simp only [getK]
        rw [if_neg (fun e => this.1 e.symm)]
        exact ih this.2
    have e : setK acc k d = acc ++ [(k, d)] := by simp [setK, hn]
    simp only [mergeD]
    rw [e, ih (by simpa using nd)]
    simp
theorem wv {ρ : Env} {i : Nat} {d : Dat} {k : KR} {ms : Ms} (h : ρ.sl[i]? = some (some d)) (hk : k d ms) : wVar i ρ ms k := by
  simp only [wVar, h]; exact hk
/-! dicts with texts as keys -/
def kvD {α : Type} (f : α → Dat) (l : List (Str × α)) : List (Key × Dat) := l.map fun p => (.inr p.1, f p.2)
def val {α : Type} (d : α) (l : List (Str × α)) (x : Str) : α := ((l.find? fun p => decide (p.1 = x)).map (·.2)).getD d
theorem val_mem {α : Type} {d : α} {l : List (Str × α)} (nd : (l.map (·.1)).Nodup) {p : Str × α} (hp : p ∈ l) : val d l p.1 = p.2 := by
  induction l with
  | nil => cases hp
  | cons a l ih =>
    simp only [List.map_cons, List.nodup_cons] at nd
    rcases List.mem_cons.mp hp with rfl | h
    · simp [val]
    · have : a.1 ≠ p.1 := fun e => nd.1 (e ▸ List.mem_map.mpr ⟨p, h, rfl⟩)
      have ih := ih nd.2 h
      unfold val at ih ⊢
      rw [List.find?_cons_of_neg (by simpa using this)]
      exact ih
theorem key_at {α : Type} {d : α} {l : List (Str × α)} (nd : (l.map (·.1)).Nodup) {x : Str} (hx : x ∈ l.map (·.1)) : (x, val d l x) ∈ l := by
  obtain ⟨p, hp, rfl⟩ := List.mem_map.mp hx
  rw [val_mem nd hp]; exact hp
theorem getK_kv {α : Type} {d : α} {f : α → Dat} {l : List (Str × α)} {x : Str} (hx : x ∈ l.map (·.1)) : getK (kvD f l) (.inr x) = some (f (val d l x)) := by
  induction l with
  | nil => cases hx
  | cons a l ih =>
    by_cases e : a.1 = x
    · simp [kvD, val, e]
    · have hx' : x ∈ l.map (·.1) := by
        rcases List.mem_cons.mp hx with h | h
        · exact absurd h.symm e
        · exact h
      have ih := ih hx'
      unfold kvD val at ih ⊢
      rw [List.map_cons, List.find?_cons_of_neg (by simpa using e)]
      simp [e, ih]
theorem getK_no {α : Type} {f : α → Dat} {l : List (Str × α)} {x : Str} (hx : x ∉ l.map (·.1)) : getK (kvD f l) (.inr x) = none := by
  induction l with
  | nil => rfl
  | cons a l ih =>
    simp only [List.map_cons, List.mem_cons, not_or] at hx
    have ih := ih hx.2
    unfold kvD at ih ⊢
    have n : ¬ a.1 = x := fun e => hx.1 e.symm
    simp [n, ih]
theorem isSome_kv {α : Type} {f : α → Dat} {l : List (Str × α)} {x : Str} : (getK (kvD f l) (.inr x)).isSome = decide (x ∈ l.map (·.1)) := by
  by_cases h : x ∈ l.map (·.1)
  · cases l with
    | nil => cases h
    | cons a l => rw [getK_kv (d := a.2) h, decide_eq_true h]; rfl
  · rw [getK_no h, decide_eq_false h]; rfl
theorem keys_kv {α : Type} {f : α → Dat} {l : List (Str × α)} : (kvD f l).map (fun p => datK p.1) = (l.map (·.1)).map .str := by simp [kvD]
theorem pairs_kv {α : Type} {f : α → Dat} {l : List (Str × α)} : pairsD (l.map fun p => .tup [.str p.1, f p.2]) = some (kvD f l) := by
  induction l with
  | nil => rfl
  | cons p l ih =>
    show (match keyD (.str p.1), pairsD (l.map fun p => .tup [.str p.1, f p.2]) with
      | some key, some ps => some ((key, f p.2) :: ps)
      | _, _ => none) = _
    rw [ih]
    rfl
theorem nd_kv {α : Type} {f : α → Dat} {l : List (Str × α)} (nd : (l.map (·.1)).Nodup) : ((kvD f l).map (fun x => x.1)).Nodup := by
  have e : (kvD f l).map (fun x => x.1) = (l.map (·.1)).map Sum.inr := by simp [kvD]
  rw [e]
  exact List.Pairwise.map _ (fun a b h e => h (Sum.inr.inj e)) nd
theorem dict_kv {α : Type} {f : α → Dat} {l : List (Str × α)} (nd : (l.map (·.1)).Nodup) {ms : Ms} {k : KR} (hk : k (.own ms.length) (ms ++ [.dic (kvD f l)])) : wDictOf [.lst (l.map fun p => .tup [.str p.1, f p.2])] ms k := by
  simp only [wDictOf, dicOf, look, pairs_kv]
  rw [mergeD_nd (by simpa using nd_kv nd), List.nil_append]
  exact hk
end Sy
namespace K69
open PySem PySem.Spec PyProof.Rows L2 Sy
def nms : List PySem.Str := ["d", "b", "a", "c", "f", "e", "h", "g", "k", "i", "j"]
def pos (x : PySem.Str) : Nat := nms.idxOf x
def stor : PySem.Str := "store"
abbrev dps (ps : List (PySem.Str × PySem.Str)) : List (Key × Dat) := kvD .str ps
abbrev dnd (nd : List (PySem.Str × Int)) : List (Key × Dat) := kvD .int nd
abbrev ks {α : Type} (l : List (PySem.Str × α)) : List PySem.Str := l.map (·.1)
structure TreeOk (ps : List (PySem.Str × PySem.Str)) : Prop where
  ne : ps ≠ []
  len : ps.length ≤ 11
  nd : (ks ps).Nodup
  mem : ∀ x ∈ ks ps, x ∈ nms
  par : ∀ p ∈ ps, p.2 = stor ∨ (p.2 ∈ ks ps ∧ pos p.2 < pos p.1)
structure NeedOk (ps : List (PySem.Str × PySem.Str)) (nd : List (PySem.Str × Int)) : Prop where
  dn : (ks nd).Nodup
  mem : ∀ x ∈ ks nd, x ∈ ks ps
  low : ∀ p ∈ nd, 1 ≤ p.2
  high : ∀ p ∈ nd, p.2 ≤ 99
def pathF : Nat → List (PySem.Str × PySem.Str) → PySem.Str → List PySem.Str
  | 0, _, _ => []
  | n + 1, ps, x => if x = stor then [] else x :: pathF n ps (val stor ps x)
def path (ps : List (PySem.Str × PySem.Str)) (x : PySem.Str) : List PySem.Str := pathF 12 ps x
theorem stor_no : stor ∉ nms := by decide +kernel
theorem pos_lt {x : PySem.Str} (h : x ∈ nms) : pos x < 11 := by
  have := List.idxOf_lt_length_of_mem h
  exact this
section
variable {ps : List (PySem.Str × PySem.Str)} (T : TreeOk ps)
include T
theorem key_ne {x : PySem.Str} (h : x ∈ ks ps) : x ≠ stor := fun e => stor_no (e ▸ T.mem x h)
theorem par_of {x : PySem.Str} (h : x ∈ ks ps) : val stor ps x = stor ∨ (val stor ps x ∈ ks ps ∧ pos (val stor ps x) < pos x) := T.par _ (key_at T.nd h)
theorem stable : ∀ (n : Nat) (x : PySem.Str), (x = stor ∨ (x ∈ ks ps ∧ pos x < n)) → pathF n ps x = pathF (n + 1) ps x
  | 0, x, h => by
    rcases h with rfl | ⟨_, h⟩
    · simp [pathF]
    · omega
  | n + 1, x, h => by
    rcases h with rfl | ⟨h1, h2⟩
    · simp [pathF]
    · have ih := stable n (val stor ps x) (by
        rcases par_of T h1 with e | ⟨a, b⟩
        · exact .inl e
        · exact .inr ⟨a, by omega⟩)
      rw [pathF, pathF, if_neg (key_ne T h1), if_neg (key_ne T h1), ih]
theorem path_cons {x : PySem.Str} (h : x ∈ ks ps) : path ps x = x :: path ps (val stor ps x) := by
  unfold path
  rw [show (12 : Nat) = 11 + 1 from rfl, pathF, if_neg (key_ne T h)]
  have hx := pos_lt (T.mem x h)
  rw [stable T 11 (val stor ps x) (by
    rcases par_of T h with e | ⟨a, b⟩
    · exact .inl e
    · exact .inr ⟨a, by omega⟩)]
omit T in
theorem path_stor : path ps stor = [] := by simp [path, pathF]
theorem path_ind {P : PySem.Str → Prop} (h0 : P stor) (h1 : ∀ x ∈ ks ps, P (val stor ps x) → P x) : ∀ x, (x = stor ∨ x ∈ ks ps) → P x := by
  have go : ∀ (n : Nat) x, (x = stor ∨ (x ∈ ks ps ∧ pos x < n)) → P x := by
    intro n
    induction n with
    | zero =>
      rintro x (rfl | ⟨_, h⟩)
      · exact h0
      · omega
    | succ n ih =>
      rintro x (rfl | ⟨h, h2⟩)
      · exact h0
      · refine h1 x h (ih _ ?_)
        rcases par_of T h with e | ⟨a, b⟩
        · exact .inl e
        · exact .inr ⟨a, by omega⟩
  rintro x (rfl | h)
  · exact h0
  · exact go 11 x (.inr ⟨h, pos_lt (T.mem x h)⟩)
theorem par_or {x : PySem.Str} (h : x ∈ ks ps) : val stor ps x = stor ∨ val stor ps x ∈ ks ps := (par_of T h).imp id And.left
theorem path_key : ∀ x, (x = stor ∨ x ∈ ks ps) → ∀ y ∈ path ps x, y ∈ ks ps := by
  refine path_ind T (fun y h => ?_) (fun x hx ih y h => ?_)
  · rw [path_stor] at h; cases h
  · rw [path_cons T hx] at h
    rcases List.mem_cons.mp h with rfl | h
    · exact hx
    · exact ih y h
theorem path_pos : ∀ x, (x = stor ∨ x ∈ ks ps) → ∀ y ∈ path ps x, pos y ≤ pos x := by
  refine path_ind T (fun y h => ?_) (fun x hx ih y h => ?_)
  · rw [path_stor] at h; cases h
  · rw [path_cons T hx] at h
    rcases List.mem_cons.mp h with rfl | h
    · exact Nat.le_refl _
    · rcases par_of T hx with e | ⟨a, b⟩
      · rw [e, path_stor] at h; cases h
      · have := ih y h; omega
theorem path_len : ∀ x, (x = stor ∨ x ∈ ks ps) → (path ps x).length ≤ 12 := by
  intro x _
  have go : ∀ n x, (pathF n ps x).length ≤ n := by
    intro n
    induction n with
    | zero => intro x; simp [pathF]
    | succ n ih => intro x; rw [pathF]; split <;> simp [ih]
  exact go 12 x
theorem self_mem {x : PySem.Str} (h : x ∈ ks ps) : x ∈ path ps x := by rw [path_cons T h]; simp
theorem path_up : ∀ x, (x = stor ∨ x ∈ ks ps) → ∀ y ∈ path ps x, val stor ps y ≠ stor → val stor ps y ∈ path ps x := by
  refine path_ind T (fun y h => ?_) (fun x hx ih y h hn => ?_)
  · rw [path_stor] at h; cases h
  · rw [path_cons T hx] at h ⊢
    rcases List.mem_cons.mp h with rfl | h
    · refine List.mem_cons_of_mem _ (self_mem T ?_)
      exact (par_or T hx).resolve_left hn
    · exact List.mem_cons_of_mem _ (ih y h hn)
theorem path_mono {f : PySem.Str → Int} (hf : ∀ x ∈ ks ps, val stor ps x ≠ stor → f (val stor ps x) ≤ f x) : ∀ x, (x = stor ∨ x ∈ ks ps) → ∀ y ∈ path ps x, f y ≤ f x := by
  refine path_ind T (fun y h => ?_) (fun x hx ih y h => ?_)
  · rw [path_stor] at h; cases h
  · rw [path_cons T hx] at h
    rcases List.mem_cons.mp h with rfl | h
    · exact Int.le_refl _
    · have hn : val stor ps x ≠ stor := fun e => by rw [e, path_stor] at h; cases h
      exact Int.le_trans (ih y h) (hf x hx hn)
end
/-! least and its bars -/
def mnL : List Int → Int
  | [] => 0
  | [a] => a
  | a :: b :: l => min a (mnL (b :: l))
theorem mn_mem : ∀ {ns : List Int}, ns ≠ [] → mnL ns ∈ ns
  | [], h => absurd rfl h
  | [a], _ => by simp [mnL]
  | a :: b :: l, _ => by
    have ih := mn_mem (ns := b :: l) (by simp)
    show min a (mnL (b :: l)) ∈ _
    by_cases e : a ≤ mnL (b :: l)
    · rw [show min a (mnL (b :: l)) = a by omega]; simp
    · rw [show min a (mnL (b :: l)) = mnL (b :: l) by omega]; exact List.mem_cons_of_mem _ ih
theorem mn_le : ∀ {ns : List Int} {y : Int}, y ∈ ns → mnL ns ≤ y
  | [a], y, h => by simp at h; subst h; simp [mnL]
  | a :: b :: l, y, h => by
    show min a (mnL (b :: l)) ≤ y
    rcases List.mem_cons.mp h with rfl | h
    · omega
    · have := mn_le h; omega
theorem mn_uniq {ns : List Int} {m : Int} (hm : m ∈ ns) (h : ∀ y ∈ ns, m ≤ y) : m = mnL ns := Int.le_antisymm (h _ (mn_mem (by intro e; rw [e] at hm; cases hm))) (mn_le hm)
def below (ps : List (PySem.Str × PySem.Str)) (nd : List (PySem.Str × Int)) (n : PySem.Str) : List PySem.Str := (ks ps).filter fun o => decide (o ∈ ks nd) && decide (n ∈ path ps o)
def lsL (ps : List (PySem.Str × PySem.Str)) (nd : List (PySem.Str × Int)) (n : PySem.Str) : List Int := (below ps nd n).map (val 0 nd) ++ [99]
def least (ps : List (PySem.Str × PySem.Str)) (nd : List (PySem.Str × Int)) (n : PySem.Str) : Int := mnL (lsL ps nd n)
def barsL (ps : List (PySem.Str × PySem.Str)) (nd : List (PySem.Str × Int)) (n : PySem.Str) : List PySem.Str := (below ps nd n).filter fun o => decide (val 0 nd o = least ps nd n)
def IsL (l : List PySem.Str) (x : PySem.Str) : Prop := x ∈ l ∧ ∀ y ∈ l, ¬ y.cps.toList < x.cps.toList
open Classical in
noncomputable def leastS (l : List PySem.Str) : PySem.Str := if h : ∃ x, IsL l x then choose h else ""
theorem IsL.uniq {l : List PySem.Str} {x y : PySem.Str} (h : IsL l x) (h' : IsL l y) : x = y := cps_inj (List.le_antisymm (List.not_lt.mp (h.2 y h'.1)) (List.not_lt.mp (h'.2 x h.1)))
theorem IsL.eq {l : List PySem.Str} {x : PySem.Str} (h : IsL l x) : leastS l = x := by
  have e : ∃ x, IsL l x := ⟨x, h⟩
  unfold leastS
  rw [dif_pos e]
  exact (Classical.choose_spec e).uniq h
theorem IsL.congr {l l' : List PySem.Str} (h : ∀ x, x ∈ l ↔ x ∈ l') {x : PySem.Str} (i : IsL l x) : IsL l' x := ⟨(h x).mp i.1, fun y hy => i.2 y ((h y).mpr hy)⟩
theorem IsL.head {l ys : List PySem.Str} {x : PySem.Str} (hp : (x :: ys).Perm l) (hs : sortedS (x :: ys) = true) : IsL l x := by
  refine ⟨hp.mem_iff.mp (by simp), fun y hy => ?_⟩
  rcases List.mem_cons.mp (hp.mem_iff.mpr hy) with rfl | h
  · exact List.not_lt.mpr (List.le_refl _)
  · exact (List.pairwise_cons.mp (sortedS_pw hs)).1 y h
noncomputable def planV (ps : List (PySem.Str × PySem.Str)) (nd : List (PySem.Str × Int)) (n : PySem.Str) : Dat := .tup [.int (least ps nd n), if least ps nd n < 99 then .str (leastS (barsL ps nd n)) else .non]
noncomputable def planL (ps : List (PySem.Str × PySem.Str)) (nd : List (PySem.Str × Int)) : List (PySem.Str × Dat) := (ks ps).map fun x => (x, planV ps nd x)
section
variable {ps ps' : List (PySem.Str × PySem.Str)} {nd nd' : List (PySem.Str × Int)}
theorem below_mem {n o : PySem.Str} : o ∈ below ps nd n ↔ o ∈ ks ps ∧ o ∈ ks nd ∧ n ∈ path ps o := by
  unfold below
  rw [List.mem_filter]
  simp
theorem lsL_mem {n : PySem.Str} {y : Int} : y ∈ lsL ps nd n ↔ (∃ o ∈ below ps nd n, val 0 nd o = y) ∨ y = 99 := by
  unfold lsL
  rw [List.mem_append, List.mem_map, List.mem_singleton]
theorem least_le {n o : PySem.Str} (h : o ∈ below ps nd n) : least ps nd n ≤ val 0 nd o := mn_le (lsL_mem.mpr (.inl ⟨o, h, rfl⟩))
theorem least_99 {n : PySem.Str} : least ps nd n ≤ 99 := mn_le (lsL_mem.mpr (.inr rfl))
theorem least_at {n : PySem.Str} : (∃ o ∈ below ps nd n, val 0 nd o = least ps nd n) ∨ least ps nd n = 99 := lsL_mem.mp (mn_mem (fun e => by
  have := congrArg List.length e
  simp [lsL] at this))
theorem least_1 (N : NeedOk ps nd) {n : PySem.Str} : 1 ≤ least ps nd n := by
  rcases least_at (ps := ps) (nd := nd) (n := n) with ⟨o, h, e⟩ | e
  · rw [← e]
    exact N.low _ (key_at N.dn (below_mem.mp h).2.1)
  · omega
theorem least_up (T : TreeOk ps) {x : PySem.Str} (hx : x ∈ ks ps) (hn : val stor ps x ≠ stor) : least ps nd (val stor ps x) ≤ least ps nd x := by
  rcases least_at (ps := ps) (nd := nd) (n := x) with ⟨o, h, e⟩ | e
  · rw [← e]
    obtain ⟨h1, h2, h3⟩ := below_mem.mp h
    exact least_le (below_mem.mpr ⟨h1, h2, path_up T o (.inr h1) x h3 hn⟩)
  · rw [e]; exact least_99
theorem least_need (T : TreeOk ps) (N : NeedOk ps nd) {p : PySem.Str × Int} (hp : p ∈ nd) : least ps nd p.1 ≤ p.2 := by
  have hk : p.1 ∈ ks nd := List.mem_map.mpr ⟨p, hp, rfl⟩
  have := least_le (ps := ps) (nd := nd) (n := p.1) (o := p.1) (below_mem.mpr ⟨N.mem _ hk, hk, self_mem T (N.mem _ hk)⟩)
  rw [val_mem N.dn hp] at this
  exact this
theorem bars_mem {n o : PySem.Str} : o ∈ barsL ps nd n ↔ o ∈ below ps nd n ∧ val 0 nd o = least ps nd n := by
  unfold barsL
  rw [List.mem_filter]
  simp
theorem bars_ne {n : PySem.Str} (h : least ps nd n < 99) : barsL ps nd n ≠ [] := by
  rcases least_at (ps := ps) (nd := nd) (n := n) with ⟨o, h1, e⟩ | e
  · exact List.ne_nil_of_mem (bars_mem.mpr ⟨h1, e⟩)
  · omega
/-- whatever serves is at most so great -/
theorem least_greatest (T : TreeOk ps) {f : PySem.Str → Int} (hf : ∀ x ∈ ks ps, val stor ps x ≠ stor → f (val stor ps x) ≤ f x) (hn : ∀ p ∈ nd, f p.1 ≤ p.2) (N : NeedOk ps nd) {n : PySem.Str} (h99 : f n ≤ 99) : f n ≤ least ps nd n := by
  rcases least_at (ps := ps) (nd := nd) (n := n) with ⟨o, h1, e⟩ | e
  · obtain ⟨h2, h3, h4⟩ := below_mem.mp h1
    rw [← e]
    exact Int.le_trans (path_mono T hf o (.inr h2) n h4) (hn _ (key_at N.dn h3))
  · rw [e]; exact h99
/-! the order means nothing -/
theorem val_perm {α : Type} {d : α} {l l' : List (PySem.Str × α)} (nd : (ks l).Nodup) (hp : l'.Perm l) : val d l' = val d l := by
  have nd' : (ks l').Nodup := (hp.map (·.1)).nodup_iff.mpr nd
  funext x
  by_cases h : x ∈ ks l
  · have h1 := key_at (d := d) nd h
    have := val_mem (d := d) nd' (hp.mem_iff.mpr h1)
    exact this
  · have h' : x ∉ ks l' := fun z => h ((hp.map (·.1)).mem_iff.mp z)
    have go : ∀ {l : List (PySem.Str × α)}, x ∉ ks l → val d l x = d := fun {l} hl => by
      unfold val
      rw [List.find?_eq_none.mpr]
      · rfl
      · intro p hp e
        exact hl (List.mem_map.mpr ⟨p, hp, by simpa using e⟩)
    rw [go h, go h']
theorem path_perm (nd : (ks ps).Nodup) (hp : ps'.Perm ps) : path ps' = path ps := by
  have e := val_perm (d := stor) nd hp
  have go : ∀ n x, pathF n ps' x = pathF n ps x := by
    intro n
    induction n with
    | zero => intro x; rfl
    | succ n ih => intro x; rw [pathF, pathF, e, ih]
  funext x
  exact go 12 x
theorem below_perm (hd : (ks ps).Nodup) (hp : ps'.Perm ps) (hq : nd'.Perm nd) {n o : PySem.Str} : o ∈ below ps' nd' n ↔ o ∈ below ps nd n := by
  rw [below_mem, below_mem, path_perm hd hp, (hp.map (·.1)).mem_iff, (hq.map (·.1)).mem_iff]
theorem least_perm (hd : (ks ps).Nodup) (hd2 : (ks nd).Nodup) (hp : ps'.Perm ps) (hq : nd'.Perm nd) {n : PySem.Str} : least ps' nd' n = least ps nd n := by
  have hm : ∀ y, y ∈ lsL ps' nd' n ↔ y ∈ lsL ps nd n := fun y => by
    rw [lsL_mem, lsL_mem, val_perm (d := (0 : Int)) hd2 hq]
    simp only [below_perm hd hp hq]
  refine mn_uniq ((hm _).mp (mn_mem fun e => ?_)) fun y hy => mn_le ((hm y).mpr hy)
  have := congrArg List.length e
  simp [lsL] at this
theorem planV_perm (hd : (ks ps).Nodup) (hd2 : (ks nd).Nodup) (hp : ps'.Perm ps) (hq : nd'.Perm nd) {n : PySem.Str} : planV ps' nd' n = planV ps nd n := by
  have e := least_perm hd hd2 hp hq (n := n)
  unfold planV
  rw [e]
  by_cases h : least ps nd n < 99
  · rw [if_pos h, if_pos h]
    have hb : ∀ x, x ∈ barsL ps' nd' n ↔ x ∈ barsL ps nd n := fun x => by
      rw [bars_mem, bars_mem, below_perm hd hp hq, e, val_perm (d := (0 : Int)) hd2 hq]
    have e3 : IsL (barsL ps' nd' n) = IsL (barsL ps nd n) := by
      funext x
      exact propext ⟨IsL.congr hb, IsL.congr fun x => (hb x).symm⟩
    have : leastS (barsL ps' nd' n) = leastS (barsL ps nd n) := by
      unfold leastS
      rw [e3]
    rw [this]
  · rw [if_neg h, if_neg h]
end
/-! any dict of texts: the way up -/
def ltrs : PySem.Str := "abcdefghijklmnopqrstuvwxyz"
def wordB (x : PySem.Str) : Bool := decide (1 ≤ x.length) && decide (x.length ≤ 8) && x.cps.toList.all fun c => decide (c ∈ ltrs.cps.toList)
def pathG : Nat → List (PySem.Str × PySem.Str) → List PySem.Str → PySem.Str → Option (List PySem.Str)
  | 0, _, _, _ => none
  | n + 1, ps, acc, x => if x = stor then some acc else if x ∈ acc then none else if x ∈ ks ps then pathG n ps (acc ++ [x]) (val stor ps x) else none
theorem pathG_ok {ps : List (PySem.Str × PySem.Str)} (T : TreeOk ps) : ∀ (n : Nat) (x : PySem.Str) (acc : List PySem.Str), (x = stor ∨ (x ∈ ks ps ∧ pos x < n)) → (x ∈ ks ps → ∀ z ∈ acc, pos x < pos z) → pathG (n + 1) ps acc x = some (acc ++ path ps x)
  | n, x, acc, h, ha => by
    rcases h with rfl | ⟨hx, hn⟩
    · simp [pathG, path_stor]
    · have hna : x ∉ acc := fun z => absurd (ha hx x z) (Nat.lt_irrefl _)
      rw [pathG, if_neg (key_ne T hx), if_neg hna, if_pos hx]
      cases n with
      | zero => omega
      | succ n =>
        rw [pathG_ok T n (val stor ps x) (acc ++ [x]) (by
          rcases par_of T hx with e | ⟨a, b⟩
          · exact .inl e
          · exact .inr ⟨a, by omega⟩) (fun hk z hz => by
          rcases par_of T hx with e | ⟨a, b⟩
          · exact absurd e (key_ne T hk)
          · rcases List.mem_append.mp hz with hz | hz
            · have := ha hx z hz; omega
            · rw [List.mem_singleton.mp hz]; exact b), path_cons T hx]
        simp
theorem pathG_tree {ps : List (PySem.Str × PySem.Str)} (T : TreeOk ps) {x : PySem.Str} (hx : x ∈ ks ps) : pathG 13 ps [] x = some (path ps x) := by
  have := pathG_ok T 12 x [] (.inr ⟨hx, by have := pos_lt (T.mem x hx); omega⟩) (fun _ z hz => by cases hz)
  simpa using this
/-- leaves that are looked at -/
def leafD : Dat → Bool
  | .non => true
  | .bl _ => true
  | .int _ => true
  | .str _ => true
  | _ => false
def isIntB : Dat → Bool
  | .int _ => true
  | _ => false
def rangeB (lo hi : Int) : Dat → Bool
  | .int i => decide (lo ≤ i) && decide (i ≤ hi)
  | _ => false
def isStrB : Dat → Bool
  | .str _ => true
  | _ => false
def entB : Key × Dat → Bool
  | (.inr x, v) => wordB x && !decide (x = stor) && isStrB v
  | (.inl _, _) => false
def entK : Key × Dat → Bool
  | (.inr x, v) => decide (x.length ≤ 1000) && SeqAt.shaped (.str x) && (leafD v || (match v with | .lst _ => true | _ => false))
  | (.inl _, _) => true
structure StrsOk (ps : List (PySem.Str × PySem.Str)) : Prop where
  len1 : 1 ≤ ps.length
  len : ps.length ≤ 11
  nd : (ks ps).Nodup
  sh1 : ∀ p ∈ ps, SeqAt.shaped (.str p.1) = true
  sh2 : ∀ p ∈ ps, SeqAt.shaped (.str p.2) = true
  w : ∀ p ∈ ps, wordB p.1 = true ∧ p.1 ≠ stor
/-- what is no tree -/
inductive BadT : Dat → Prop
  | non : BadT .non
  | lst (ds : List Dat) : BadT (.lst ds)
  | size (kvs : List (Key × Dat)) (h : kvs.length = 0 ∨ (11 < kvs.length ∧ kvs.length ≤ 100)) : BadT (.dic kvs)
  | ent (kvs : List (Key × Dat)) (h1 : 1 ≤ kvs.length) (h2 : kvs.length ≤ 11) (nd : (kvs.map (·.1)).Nodup) (hk : kvs.all entK = true) (hb : kvs.all entB = false) : BadT (.dic kvs)
  | cyc (ps : List (PySem.Str × PySem.Str)) (h : StrsOk ps) (hb : ∃ x ∈ ks ps, pathG 13 ps [] x = none) : BadT (.dic (dps ps))
def nkB (ps : List (PySem.Str × PySem.Str)) : Key × Dat → Bool
  | (.inr x, _) => decide (x ∈ ks ps)
  | (.inl _, _) => false
/-- what is no need of the tree's nodes -/
inductive BadN (ps : List (PySem.Str × PySem.Str)) : Dat → Prop
  | non : BadN ps .non
  | lst (ds : List Dat) : BadN ps (.lst ds)
  | key (kvs : List (Key × Dat)) (h : kvs.length ≤ 100) (hb : kvs.all (nkB ps) = false) : BadN ps (.dic kvs)
  | val (kvs : List (PySem.Str × Dat)) (h : kvs.length ≤ 100) (nd : (ks kvs).Nodup) (hk : ∀ p ∈ kvs, p.1 ∈ ks ps ∧ leafD p.2 = true) (hb : (kvs.all fun p => rangeB 1 99 p.2) = false) : BadN ps (.dic (kvD id kvs))
/-! a thing that may serve -/
def ival (kvs : List (PySem.Str × Dat)) (x : PySem.Str) : Int := match val .non kvs x with
  | .int i => i
  | _ => 0
def nmsX : List PySem.Str := "other" :: "store" :: nms
structure ThKv (kvs : List (PySem.Str × Dat)) : Prop where
  len : kvs.length ≤ 20
  nd : (ks kvs).Nodup
  mem : ∀ x ∈ ks kvs, x ∈ nmsX
  leaf : ∀ p ∈ kvs, leafD p.2 = true
structure Good (ps : List (PySem.Str × PySem.Str)) (nd : List (PySem.Str × Int)) (kvs : List (PySem.Str × Dat)) : Prop where
  ke : ∀ x, x ∈ ks kvs ↔ x ∈ ks ps
  rng : ∀ x ∈ ks ps, rangeB 1 99 (val .non kvs x) = true
  mono : ∀ x ∈ ks ps, val stor ps x ≠ stor → ival kvs (val stor ps x) ≤ ival kvs x
  need : ∀ p ∈ nd, ival kvs p.1 ≤ p.2
inductive Th (ps : List (PySem.Str × PySem.Str)) (nd : List (PySem.Str × Int)) : Dat → Prop → Prop
  | non : Th ps nd .non False
  | lst (ds : List Dat) : Th ps nd (.lst ds) False
  | dic (kvs : List (PySem.Str × Dat)) (h : ThKv kvs) : Th ps nd (.dic (kvD id kvs)) (Good ps nd kvs)
end K69
namespace K69
open PySem PySem.Spec PyProof.Rows L2 Sy
def tabC : Cell := .tab ("_law_errors_right", none) "_law_errors_right.<locals>.<lambda>"
def R_is_integer : FSpec := fun rs ms k kx => ∃ d, rs = [d] ∧ leafD d = true ∧ k (.bl (isIntB d)) ms
def R_is_in_range : FSpec := fun rs ms k kx => ∃ d lo hi, rs = [d, .int lo, .int hi] ∧ leafD d = true ∧ k (.bl (rangeB lo hi d)) ms
def R_is_word : FSpec := fun rs ms k kx => ∃ d, rs = [d] ∧ ((∃ x, d = .str x ∧ x.length ≤ 1000 ∧ k (.bl (wordB x)) ms) ∨ ∃ i, d = .int i ∧ k (.bl false) ms)
def dOL : Option (List PySem.Str) → Dat
  | some l => .lst (l.map .str)
  | none => .non
def R_path_of : FSpec := fun rs ms k kx => ∃ ps x, rs = [.dic (dps ps), .str x] ∧ (ps.length ≤ 11 ∧ (ks ps).Nodup ∧ (∀ p ∈ ps, SeqAt.shaped (.str p.1) = true ∧ SeqAt.shaped (.str p.2) = true)) ∧ x ∈ ks ps ∧ ∀ g, k (dOL (pathG 13 ps [] x)) (ms ++ g)
def R_check_tree : FSpec := fun rs ms k kx => ∃ d, rs = [d] ∧ ((∃ ps, d = .dic (dps ps) ∧ TreeOk ps ∧ ∀ g, k .non (ms ++ g)) ∨ (BadT d ∧ ∀ g, kx "InvalidTree" [("given", d)] (ms ++ g)))
def R_check_needs : FSpec := fun rs ms k kx => ∃ ps d, rs = [d, .dic (dps ps)] ∧ TreeOk ps ∧ ((∃ nd, d = .dic (dnd nd) ∧ NeedOk ps nd ∧ k .non ms) ∨ (BadN ps d ∧ kx "InvalidNeed" [("given", d)] ms))
def R_greatest_allowances : FSpec := fun rs ms k kx => ∃ d e, rs = [d, e] ∧ ((∃ ps nd, d = .dic (dps ps) ∧ e = .dic (dnd nd) ∧ TreeOk ps ∧ NeedOk ps nd ∧ ∀ j g, ms.length ≤ j → (ms ++ g)[j]? = some (.dic (kvD id (planL ps nd))) → k (.own j) (ms ++ g)) ∨
  (BadT d ∧ ∀ g, kx "InvalidTree" [("given", d)] (ms ++ g)) ∨ (∃ ps, d = .dic (dps ps) ∧ TreeOk ps ∧ BadN ps e ∧ ∀ g, kx "InvalidNeed" [("given", e)] (ms ++ g)))
def R_serve : FSpec := fun rs ms k kx => ∃ d e t, rs = [d, e, t] ∧ ((∃ ps nd P, d = .dic (dps ps) ∧ e = .dic (dnd nd) ∧ TreeOk ps ∧ NeedOk ps nd ∧ Th ps nd t P ∧ (P → ∀ g, k (.bl true) (ms ++ g)) ∧ (¬ P → ∀ g, k (.bl false) (ms ++ g))) ∨
  (BadT d ∧ ∀ g, kx "InvalidTree" [("given", d)] (ms ++ g)) ∨ (∃ ps, d = .dic (dps ps) ∧ TreeOk ps ∧ BadN ps e ∧ ∀ g, kx "InvalidNeed" [("given", e)] (ms ++ g)))
def R__law_draw : FSpec := fun rs ms k kx => ∃ j n s m, rs = [.own j, .int m] ∧ ms[j]? = some (src n s) ∧ SrcOk n s ∧ 0 < m ∧ m.natAbs.log2 < 9000 ∧ ∀ r n' s', 0 ≤ r → r < m → SrcOk n' s' → k (.int r) (ms.set j (src n' s'))
def R__law_source : FSpec := fun rs ms k kx => ∃ ns t, rs = [.scr ns, .int t] ∧ 0 ≤ t ∧ t < 1000 ∧ ∀ n s, SrcOk n s → k (.own ms.length) (ms ++ [src n s])
def R__law_tree : FSpec := fun rs ms k kx => ∃ j n s mo, rs = [.own j, .int mo] ∧ ms[j]? = some (src n s) ∧ SrcOk n s ∧ 1 ≤ mo ∧ mo ≤ 11 ∧ ∀ ps n' s' g, TreeOk ps → (ps.length : Int) ≤ mo → SrcOk n' s' → k (.dic (dps ps)) (ms.set j (src n' s') ++ g)
def R__law_needs : FSpec := fun rs ms k kx => ∃ j n s ps mo, rs = [.own j, .dic (dps ps), .int mo] ∧ ms[j]? = some (src n s) ∧ SrcOk n s ∧ TreeOk ps ∧ 1 ≤ mo ∧ mo ≤ 99 ∧ ∀ nd n' s' g, NeedOk ps nd → SrcOk n' s' → k (.dic (dnd nd)) (ms.set j (src n' s') ++ g)
def R__law_serve : FSpec := fun rs ms k kx => ∃ ps nd t P, rs = [.dic (dps ps), .dic (dnd nd), t] ∧ TreeOk ps ∧ NeedOk ps nd ∧ Th ps nd t P ∧ (P → k (.bl true) ms) ∧ (¬ P → k (.bl false) ms)
def ThD (t : Dat) : Prop := t = .non ∨ (∃ ds, t = .lst ds) ∨ ∃ kvs, t = .dic (kvD id kvs) ∧ ThKv kvs
def R__law_bent : FSpec := fun rs ms k kx => ∃ j n s ps jg al, rs = [.own j, .dic (dps ps), .own jg] ∧ ms[j]? = some (src n s) ∧ SrcOk n s ∧ TreeOk ps ∧ jg ≠ j ∧ ms[jg]? = some (.dic (dnd al)) ∧ ks al = ks ps ∧ ∀ t n' s' g, ThD t → SrcOk n' s' → k t (ms.set j (src n' s') ++ g)
def R__law_errors_right : FSpec := fun rs ms k kx => ∃ ps, rs = [.dic (dps ps)] ∧ TreeOk ps ∧ ms[0]? = some tabC ∧ ∀ g, k (.bl true) (ms ++ g)
def R_law : FSpec := fun rs ms k kx => ∃ ns, rs = [.scr ns] ∧ ms = [tabC] ∧ ns.length ≤ 63 ∧ ∀ m, k (.bl true) m
def xsL : List (PySem.Str × List PySem.Str) := [("InvalidTree", ["given"]), ("InvalidNeed", ["given"])]
def xsB (C : PySem.Str) : Bool := (xsL.lookup C).isSome
def isL : List PySem.Str := []
def isB (C : PySem.Str) : Bool := isL.contains C
def ktL : List (Kd × List Kd × List Kd) := [(.bt "NoneType", [], [.bt "dict", .bt "int", .bt "str", .bt "bool"]), (.bt "list", [], [.bt "dict", .bt "str", .bt "int"]), (.bt "str", [.bt "str"], [.bt "int", .bt "dict", .bt "bool"]), (.bt "dict", [.bt "dict"], [.bt "int", .bt "str"]), (.bt "int", [.bt "int"], [.bt "bool", .bt "str"]), (.bt "bool", [.bt "int", .bt "bool"], [.bt "str"]), (.own "InvalidTree", [.own "CacheError"], []), (.own "InvalidNeed", [.own "CacheError"], [])]
def kt (a b : Kd) : Option Bool := match ktL.lookup a with
  | some (ts, fs) => if ts.contains b = true then some true else if fs.contains b = true then some false else none
  | none => none
def xtL : List (PySem.Str × List Kd × List Kd) := [("InvalidTree", [.own "InvalidTree"], []), ("InvalidNeed", [.own "InvalidNeed"], [.own "InvalidTree"])]
def xt (C : PySem.Str) (b : Kd) : Option Bool := match xtL.lookup C with
  | some (ts, fs) => if ts.contains b = true then some true else if fs.contains b = true then some false else none
  | none => none
def N_is_integer : List PySem.Str := ["obj"]
def w_is_integer : WS :=
  (wRet (wAndV (wCB (wIsA kt xsB isB) (wCons (wVar 0) (wCons (wC (.ty "int")) wNil))) (wNotV (wCB (wIsA kt xsB isB) (wCons (wVar 0) (wCons (wC (.ty "bool")) wNil))))))
def N_is_in_range : List PySem.Str := ["obj", "low", "high"]
def w_is_in_range : WS :=
  (wRet (wAndV (wCall R_is_integer (wCons (wVar 0) wNil)) (wChain wLe wLe (wVar 1) (wVar 0) (wVar 2))))
def N_is_word : List PySem.Str := ["obj", "letter"]
def w_is_word : WS :=
  (wRet (wAndV (wCB (wIsA kt xsB isB) (wCons (wVar 0) (wCons (wC (.ty "str")) wNil))) (wAndV (wChain wLe wLe (wC (.int 1)) (wCB wLenA (wCons (wVar 0) wNil)) (wC (.int 8))) (wCB wAllL (wCons (wLc (wiStr (wVar 0)) (wgName 1) wYes (wOp (wInA false) (wVar 1) (wC (.str "abcdefghijklmnopqrstuvwxyz"))) [1]) wNil)))))
def N_path_of : List PySem.Str := ["parents", "name", "found"]
def w_path_of_1 : WS :=
  (wAsg (wOp wIxA (wVar 0) (wVar 1)) (wgName 1))
def w_path_of_2 : WS :=
  (wSeq (wDrop (wApp (wVar 2) (wVar 1))) w_path_of_1)
def w_path_of_3 : WS :=
  (wSeq (wIfS (wOr (wBt (wOp (wInA false) (wVar 1) (wVar 2))) (wOr (wNot (wBt (wCB (wIsA kt xsB isB) (wCons (wVar 1) (wCons (wC (.ty "str")) wNil))))) (wBt (wOp (wInA true) (wVar 1) (wVar 0))))) (wRet (wC .non)) wNext) w_path_of_2)
def w_path_of_4 : WS :=
  (wRet (wFix (wVar 2)))
def w_path_of_5 : WS :=
  (wSeq (wWhile (wBt (wOp wNe (wVar 1) (wC (.str "store")))) w_path_of_3) w_path_of_4)
def w_path_of : WS :=
  (wSeq (wAsg (wLstO wNil) (wgName 2)) w_path_of_5)
def N_check_tree : List PySem.Str := ["obj", "name"]
def w_check_tree_1 : WS :=
  (wIfS (wBt (wOp (wInD false) (wC .non) (wLc (wiKeys (wVar 0)) (wgName 1) wYes (wCall R_path_of (wCons (wVar 0) (wCons (wVar 1) wNil))) [1]))) (wRaise "InvalidTree" ["given"] (wCons (wVar 0) wNil)) wNext)
def w_check_tree_2 : WS :=
  (wSeq (wIfS (wNot (wBt (wCB wAllL (wCons (wLc (wiKeys (wVar 0)) (wgName 1) wYes (wAndV (wCall R_is_word (wCons (wVar 1) wNil)) (wAndV (wOp wNe (wVar 1) (wC (.str "store"))) (wCB (wIsA kt xsB isB) (wCons (wOp wIxA (wVar 0) (wVar 1)) (wCons (wC (.ty "str")) wNil))))) [1]) wNil)))) (wRaise "InvalidTree" ["given"] (wCons (wVar 0) wNil)) wNext) w_check_tree_1)
def w_check_tree : WS :=
  (wSeq (wIfS (wOr (wNot (wBt (wCB (wIsA kt xsB isB) (wCons (wVar 0) (wCons (wC (.ty "dict")) wNil))))) (wNot (wBt (wChain wLe wLe (wC (.int 1)) (wCB wLenA (wCons (wVar 0) wNil)) (wC (.int 11)))))) (wRaise "InvalidTree" ["given"] (wCons (wVar 0) wNil)) wNext) w_check_tree_2)
def N_check_needs : List PySem.Str := ["obj", "parents", "name"]
def w_check_needs_1 : WS :=
  (wIfS (wNot (wBt (wCB wAllL (wCons (wLc (wiKeys (wVar 0)) (wgName 2) wYes (wCall R_is_in_range (wCons (wOp wIxA (wVar 0) (wVar 2)) (wCons (wC (.int 1)) (wCons (wC (.int 99)) wNil)))) [2]) wNil)))) (wRaise "InvalidNeed" ["given"] (wCons (wVar 0) wNil)) wNext)
def w_check_needs : WS :=
  (wSeq (wIfS (wOr (wNot (wBt (wCB (wIsA kt xsB isB) (wCons (wVar 0) (wCons (wC (.ty "dict")) wNil))))) (wNot (wBt (wCB wAllL (wCons (wLc (wiKeys (wVar 0)) (wgName 2) wYes (wAndV (wCB (wIsA kt xsB isB) (wCons (wVar 2) (wCons (wC (.ty "str")) wNil))) (wOp (wInA false) (wVar 2) (wVar 1))) [2]) wNil))))) (wRaise "InvalidNeed" ["given"] (wCons (wVar 0) wNil)) wNext) w_check_needs_1)
def N_greatest_allowances : List PySem.Str := ["parents", "needs", "found", "name", "below", "least", "bars", "other"]
def w_greatest_allowances_1 : WS :=
  (wAsg (wTup (wCons (wVar 5) (wCons (wIf (wBt (wOp wLt (wVar 5) (wC (.int 99)))) (wOp wIxA (wVar 6) (wC (.int 0))) (wC .non)) wNil))) (wgSub (wVar 2) (wVar 3)))
def w_greatest_allowances_2 : WS :=
  (wSeq (wAsg (wCB wSortS (wCons (wLc (wiSeq (wVar 4)) (wgName 7) (wBt (wOp wEq (wOp wIxA (wVar 1) (wVar 7)) (wVar 5))) (wVar 7) [7]) wNil)) (wgName 6)) w_greatest_allowances_1)
def w_greatest_allowances_3 : WS :=
  (wSeq (wAsg (wCB wMinL (wCons (wOp wAdd (wLc (wiSeq (wVar 4)) (wgName 7) wYes (wOp wIxA (wVar 1) (wVar 7)) [7]) (wLst (wCons (wC (.int 99)) wNil))) wNil)) (wgName 5)) w_greatest_allowances_2)
def w_greatest_allowances_4 : WS :=
  (wSeq (wAsg (wLc (wiKeys (wVar 0)) (wgName 7) (wAnd (wBt (wOp (wInA false) (wVar 7) (wVar 1))) (wBt (wOp (wInA false) (wVar 3) (wCall R_path_of (wCons (wVar 0) (wCons (wVar 7) wNil)))))) (wVar 7) [7]) (wgName 4)) w_greatest_allowances_3)
def w_greatest_allowances_5 : WS :=
  (wRet (wVar 2))
def w_greatest_allowances_6 : WS :=
  (wSeq (wFor (wiKeys (wVar 0)) (wgName 3) w_greatest_allowances_4) w_greatest_allowances_5)
def w_greatest_allowances_7 : WS :=
  (wSeq (wAsg wDNew (wgName 2)) w_greatest_allowances_6)
def w_greatest_allowances_8 : WS :=
  (wSeq (wDrop (wCall R_check_needs (wCons (wVar 1) (wCons (wVar 0) wNil)))) w_greatest_allowances_7)
def w_greatest_allowances : WS :=
  (wSeq (wDrop (wCall R_check_tree (wCons (wVar 0) wNil))) w_greatest_allowances_8)
def N_serve : List PySem.Str := ["parents", "needs", "allowances", "uppers", "name"]
def w_serve_1 : WS :=
  (wRet (wCB wAllL (wCons (wLc (wiKeys (wVar 1)) (wgName 4) wYes (wOp wLe (wOp wIxA (wVar 2) (wVar 4)) (wOp wIxA (wVar 1) (wVar 4))) [4]) wNil)))
def w_serve_2 : WS :=
  (wSeq (wIfS (wBt (wCB wAnyL (wCons (wLc (wiKeys (wVar 0)) (wgName 4) wYes (wOp wLt (wOp wIxA (wVar 2) (wVar 4)) (wOp wIxA (wVar 3) (wOp wIxA (wVar 0) (wVar 4)))) [4]) wNil))) (wRet (wC (.bl false))) wNext) w_serve_1)
def w_serve_3 : WS :=
  (wSeq (wAsg (wFix (wSpr1 (wVar 2) [((wC (.str "store")), (wC (.int 0)))])) (wgName 3)) w_serve_2)
def w_serve_4 : WS :=
  (wSeq (wIfS (wNot (wBt (wCB wAllL (wCons (wLc (wiKeys (wVar 0)) (wgName 4) wYes (wAndV (wOp (wInA false) (wVar 4) (wVar 2)) (wCall R_is_in_range (wCons (wOp wIxA (wVar 2) (wVar 4)) (wCons (wC (.int 1)) (wCons (wC (.int 99)) wNil))))) [4]) wNil)))) (wRet (wC (.bl false))) wNext) w_serve_3)
def w_serve_5 : WS :=
  (wSeq (wIfS (wOr (wNot (wBt (wCB (wIsA kt xsB isB) (wCons (wVar 2) (wCons (wC (.ty "dict")) wNil))))) (wBt (wOp wNe (wCB wLenA (wCons (wVar 2) wNil)) (wCB wLenA (wCons (wVar 0) wNil))))) (wRet (wC (.bl false))) wNext) w_serve_4)
def w_serve_6 : WS :=
  (wSeq (wDrop (wCall R_check_needs (wCons (wVar 1) (wCons (wVar 0) wNil)))) w_serve_5)
def w_serve : WS :=
  (wSeq (wDrop (wCall R_check_tree (wCons (wVar 0) wNil))) w_serve_6)
def N__law_source : List PySem.Str := ["_law_script", "_law_turn", "_law_cell", "_law_number", "_law_seed"]
def w__law_source_1 : WS :=
  (wRet (wLstO (wCons (wVar 3) (wCons (wVar 4) wNil))))
def w__law_source_2 : WS :=
  (wSeq (wIfS (wBt (wOp wLt (wVar 3) (wOp (wII L2.CPow fun i j => .int (i ^ j.toNat)) (wC (.int 10)) (wC (.int 18))))) (wAsg (wC (.int 0)) (wgName 3)) wNext) w__law_source_1)
def w__law_source_3 : WS :=
  (wSeq (wAsg (wOp (wII (fun _ j => 0 < j) fun i j => .int (i % j)) (wOp wAdd (wOp wAdd (wOp wMul (wOp (wII (fun _ j => 0 < j) fun i j => .int (i % j)) (wVar 3) (wC (.int 2147483629))) (wC (.int 16807))) (wOp wMul (wC (.int 104729)) (wVar 1))) (wC (.int 11))) (wC (.int 2147483647))) (wgName 4)) w__law_source_2)
def w__law_source_4 : WS :=
  (wSeq (wAsg (wCB wMax2 (wCons (wVar 2) (wCons (wOp (wI0 fun i j => .int (i - j)) (wUn (fun i => -i) (wC (.int 1))) (wVar 2)) wNil))) (wgName 3)) w__law_source_3)
def w__law_source_5 : WS :=
  (wSeq (wIfS (wBt (wOp wLt (wVar 1) (wCB wLenA (wCons (wVar 0) wNil)))) (wAsg (wOp wIxA (wVar 0) (wVar 1)) (wgName 2)) wNext) w__law_source_4)
def w__law_source : WS :=
  (wSeq (wAsg (wC (.int 0)) (wgName 2)) w__law_source_5)
def N__law_draw : List PySem.Str := ["_law_source_here", "_law_amount", "_law_digit"]
def w__law_draw_1 : WS :=
  (wRet (wVar 2))
def w__law_draw_2 : WS :=
  (wSeq (wAsg (wOp (wII L2.CDivW fun i j => .int (i / j)) (wOp wIxA (wVar 0) (wC (.int 0))) (wVar 1)) (wgSub (wVar 0) (wC (.int 0)))) w__law_draw_1)
def w__law_draw_3 : WS :=
  (wRet (wOp (wII (fun _ j => 0 < j) fun i j => .int (i % j)) (wOp (wII L2.CDivW fun i j => .int (i / j)) (wOp (wII (fun _ j => 0 < j) fun i j => .int (i % j)) (wOp wMul (wOp wIxA (wVar 0) (wC (.int 1))) (wOp wIxA (wVar 0) (wC (.int 1)))) (wC (.int 2147483629))) (wC (.int 64))) (wVar 1)))
def w__law_draw_4 : WS :=
  (wSeq (wAsg (wOp (wII (fun _ j => 0 < j) fun i j => .int (i % j)) (wOp wAdd (wOp wMul (wOp wIxA (wVar 0) (wC (.int 1))) (wC (.int 48271))) (wC (.int 11))) (wC (.int 2147483647))) (wgSub (wVar 0) (wC (.int 1)))) w__law_draw_3)
def w__law_draw : WS :=
  (wSeq (wIfS (wBt (wOp wGt (wOp wIxA (wVar 0) (wC (.int 0))) (wC (.int 0)))) (wSeq (wAsg (wOp (wII (fun _ j => 0 < j) fun i j => .int (i % j)) (wOp wIxA (wVar 0) (wC (.int 0))) (wVar 1)) (wgName 2)) w__law_draw_2) wNext) w__law_draw_4)
def N__law_tree : List PySem.Str := ["_law_source_here", "_law_most", "_law_names", "_law_pairs", "_law_at", "_law_attempt", "_law_spot"]
def w__law_tree_1 : WS :=
  (wDrop (wApp (wVar 3) (wTup (wCons (wOp wIxA (wVar 2) (wVar 4)) (wCons (wIf (wBt (wOp wGt (wVar 6) (wC (.int 0)))) (wOp wIxA (wVar 2) (wOp (wI0 fun i j => .int (i - j)) (wVar 6) (wC (.int 1)))) (wC (.str "store"))) wNil)))))
def w__law_tree_2 : WS :=
  (wSeq (wAsg (wCall R__law_draw (wCons (wVar 0) (wCons (wOp wAdd (wVar 4) (wC (.int 1))) wNil))) (wgName 6)) w__law_tree_1)
def w__law_tree_3 : WS :=
  (wAsg (wIf (wBt (wOp wEq (wOp (wII (fun _ j => 0 < j) fun i j => .int (i % j)) (wVar 5) (wC (.int 2))) (wC (.int 0)))) (wOp wAdd (wSl (wVar 3) (wPart (wVar 4)) wNoPart) (wSl (wVar 3) wNoPart (wPart (wVar 4)))) (wOp wAdd (wSl (wVar 3) wNoPart (wPart (wVar 4))) (wRev (wSl (wVar 3) (wPart (wVar 4)) wNoPart)))) (wgName 3))
def w__law_tree_4 : WS :=
  (wSeq (wAsg (wCall R__law_draw (wCons (wVar 0) (wCons (wCB wLenA (wCons (wVar 3) wNil)) wNil))) (wgName 4)) w__law_tree_3)
def w__law_tree_5 : WS :=
  (wRet (wFix (wCB wDictOf (wCons (wVar 3) wNil))))
def w__law_tree_6 : WS :=
  (wSeq (wFor (wiRng1 (wCons (wCB wLenA (wCons (wVar 3) wNil)) wNil)) (wgName 5) w__law_tree_4) w__law_tree_5)
def w__law_tree_7 : WS :=
  (wSeq (wFor (wiRng1 (wCons (wCB wLenA (wCons (wVar 2) wNil)) wNil)) (wgName 4) w__law_tree_2) w__law_tree_6)
def w__law_tree_8 : WS :=
  (wSeq (wAsg (wLstO wNil) (wgName 3)) w__law_tree_7)
def w__law_tree : WS :=
  (wSeq (wAsg (wSl (wLst (wCons (wC (.str "d")) (wCons (wC (.str "b")) (wCons (wC (.str "a")) (wCons (wC (.str "c")) (wCons (wC (.str "f")) (wCons (wC (.str "e")) (wCons (wC (.str "h")) (wCons (wC (.str "g")) (wCons (wC (.str "k")) (wCons (wC (.str "i")) (wCons (wC (.str "j")) wNil)))))))))))) wNoPart (wPart (wOp wAdd (wC (.int 1)) (wCall R__law_draw (wCons (wVar 0) (wCons (wVar 1) wNil)))))) (wgName 2)) w__law_tree_8)
def N__law_needs : List PySem.Str := ["_law_source_here", "_law_parents", "_law_most", "_law_found", "_law_name"]
def w__law_needs_1 : WS :=
  (wIfS (wBt (wOp wEq (wCall R__law_draw (wCons (wVar 0) (wCons (wC (.int 2)) wNil))) (wC (.int 0)))) (wAsg (wOp wAdd (wC (.int 1)) (wCall R__law_draw (wCons (wVar 0) (wCons (wVar 2) wNil)))) (wgSub (wVar 3) (wVar 4))) wNext)
def w__law_needs_2 : WS :=
  (wRet (wFix (wVar 3)))
def w__law_needs_3 : WS :=
  (wSeq (wFor (wiKeys (wVar 1)) (wgName 4) w__law_needs_1) w__law_needs_2)
def w__law_needs : WS :=
  (wSeq (wAsg wDNew (wgName 3)) w__law_needs_3)
def N__law_serve : List PySem.Str := ["_law_parents", "_law_needs_here", "_law_given", "_law_name", "_law_allowance"]
def w__law_serve_1 : WS :=
  (wIfS (wOr (wNot (wBt (wCB (wIsA kt xsB isB) (wCons (wVar 4) (wCons (wC (.ty "int")) wNil))))) (wOr (wBt (wCB (wIsA kt xsB isB) (wCons (wVar 4) (wCons (wC (.ty "bool")) wNil)))) (wNot (wBt (wChain wLe wLe (wC (.int 1)) (wVar 4) (wC (.int 99))))))) (wRet (wC (.bl false))) wNext)
def w__law_serve_2 : WS :=
  (wSeq (wAsg (wOp wIxA (wVar 2) (wVar 3)) (wgName 4)) w__law_serve_1)
def w__law_serve_3 : WS :=
  (wIfS (wAnd (wBt (wOp wNe (wOp wIxA (wVar 0) (wVar 3)) (wC (.str "store")))) (wBt (wOp wLt (wOp wIxA (wVar 2) (wVar 3)) (wOp wIxA (wVar 2) (wOp wIxA (wVar 0) (wVar 3)))))) (wRet (wC (.bl false))) wNext)
def w__law_serve_4 : WS :=
  (wRet (wOp wEq (wLc (wiKeys (wVar 1)) (wgName 3) (wBt (wOp wGt (wOp wIxA (wVar 2) (wVar 3)) (wOp wIxA (wVar 1) (wVar 3)))) (wVar 3) [3]) (wLst wNil)))
def w__law_serve_5 : WS :=
  (wSeq (wFor (wiKeys (wVar 0)) (wgName 3) w__law_serve_3) w__law_serve_4)
def w__law_serve_6 : WS :=
  (wSeq (wFor (wiKeys (wVar 0)) (wgName 3) w__law_serve_2) w__law_serve_5)
def w__law_serve_7 : WS :=
  (wSeq (wIfS (wBt (wOp wNe (wCB wSortS (wCons (wLc (wiKeys (wVar 2)) (wgName 3) wYes (wCB wReprF (wCons (wVar 3) wNil)) [3]) wNil)) (wCB wSortS (wCons (wLc (wiKeys (wVar 0)) (wgName 3) wYes (wCB wReprF (wCons (wVar 3) wNil)) [3]) wNil)))) (wRet (wC (.bl false))) wNext) w__law_serve_6)
def w__law_serve : WS :=
  (wSeq (wIfS (wNot (wBt (wCB (wIsA kt xsB isB) (wCons (wVar 2) (wCons (wC (.ty "dict")) wNil))))) (wRet (wC (.bl false))) wNext) w__law_serve_7)
def N__law_said : List PySem.Str := ["_law_call", "e"]
def w__law_said_1 (wa : WE) : WS :=
  (wDrop wa)
def w__law_said_2 (wa : WE) : WS :=
  (wRet (wLst (wCons (wC (.str "need")) (wCons (wCB wReprF (wCons (wXs ["InvalidNeed"] "given" (wVar 1)) wNil)) (wCons (wXIs kt xsB (wCons (wVar 1) (wCons (wC (.glo "CacheError")) wNil))) wNil)))))
def w__law_said_3 (wa : WE) : WS :=
  (wRet (wLst (wCons (wC (.str "tree")) (wCons (wCB wReprF (wCons (wXs ["InvalidTree"] "given" (wVar 1)) wNil)) (wCons (wXIs kt xsB (wCons (wVar 1) (wCons (wC (.glo "CacheError")) wNil))) wNil)))))
def w__law_said_4 (wa : WE) : WS :=
  (wRet (wLst (wCons (wC (.str "made")) wNil)))
def w__law_said (wa : WE) : WS :=
  (wSeq (wTry xt (w__law_said_1 wa) [(.own "InvalidTree", some 1, (w__law_said_3 wa)), (.own "InvalidNeed", some 1, (w__law_said_2 wa))]) (w__law_said_4 wa))
def N__law_bent : List PySem.Str := ["_law_source_here", "_law_parents", "_law_given", "_law_names", "_law_name", "_law_odd", "_law_some", "_law_one"]
def w__law_bent_1 : WS :=
  (wRet (wOp wIxA (wVar 6) (wCall R__law_draw (wCons (wVar 0) (wCons (wC (.int 9)) wNil)))))
def w__law_bent_2 : WS :=
  (wSeq (wDrop (wApp (wVar 6) (wFix (wCB wDictOf (wCons (wLc (wiSeq (wRev (wCB wListD (wCons (wVar 2) wNil)))) (wgName 7) wYes (wTup (wCons (wVar 7) (wCons (wOp wIxA (wVar 2) (wVar 7)) wNil))) [7]) wNil))))) w__law_bent_1)
def w__law_bent_3 : WS :=
  (wSeq (wAsg (wOp wAddO (wVar 6) (wLst (wCons (wLItems (wVar 2)) (wCons (wC .non) (wCons (wFix wDNew) (wCons (wFix (wCB wDictOf (wCons (wLckE 2 (wLc (wiKeys (wVar 2)) (wgName 7) wYes (wTup (wCons (wVar 7) (wCons (wOp wAdd (wOp wIxA (wVar 2) (wVar 7)) (wC (.int 1))) wNil))) [7])) wNil))) wNil)))))) (wgName 6)) w__law_bent_2)
def w__law_bent_4 : WS :=
  (wSeq (wAsg (wOp wAddO (wVar 6) (wLst (wCons (wFix (wCB wDictOf (wCons (wOp wAdd (wLItems (wVar 2)) (wLst (wCons (wTup (wCons (wC (.str "other")) (wCons (wC (.int 5)) wNil))) wNil))) wNil))) (wCons (wFix (wCB wDictOf (wCons (wOp wAdd (wLItems (wVar 2)) (wLst (wCons (wTup (wCons (wC (.str "store")) (wCons (wC (.int 1)) wNil))) wNil))) wNil))) wNil)))) (wgName 6)) w__law_bent_3)
def w__law_bent_5 : WS :=
  (wSeq (wAsg (wLstO (wCons (wFix (wCB wDictOf (wCons (wOp wAdd (wLItems (wVar 2)) (wLst (wCons (wTup (wCons (wVar 4) (wCons (wVar 5) wNil))) wNil))) wNil))) (wCons (wFix (wCB wDictOf (wCons (wLckE 2 (wLc (wiKeys (wVar 2)) (wgName 7) (wBt (wOp wNe (wVar 7) (wVar 4))) (wTup (wCons (wVar 7) (wCons (wOp wIxA (wVar 2) (wVar 7)) wNil))) [7])) wNil))) wNil))) (wgName 6)) w__law_bent_4)
def w__law_bent_6 : WS :=
  (wSeq (wAsg (wOp wIxA (wLst (wCons (wC (.int 0)) (wCons (wC (.int 1)) (wCons (wC (.int 2)) (wCons (wC (.int 99)) (wCons (wC (.int 100)) (wCons (wC (.bl true)) (wCons (wC .non) (wCons (wC (.str "1")) (wCons (wUn (fun i => -i) (wC (.int 1))) (wCons (wC (.int 3)) wNil))))))))))) (wCall R__law_draw (wCons (wVar 0) (wCons (wC (.int 10)) wNil)))) (wgName 5)) w__law_bent_5)
def w__law_bent_7 : WS :=
  (wSeq (wAsg (wOp wIxA (wVar 3) (wCall R__law_draw (wCons (wVar 0) (wCons (wCB wLenA (wCons (wVar 3) wNil)) wNil)))) (wgName 4)) w__law_bent_6)
def w__law_bent : WS :=
  (wSeq (wAsg (wCB wListD (wCons (wVar 1) wNil)) (wgName 3)) w__law_bent_7)
def N__law_errors_right : List PySem.Str := ["_law_parents", "_law_wide", "_law_odds", "_law_odd", "_law_name", "_law_letter"]
def w__law_errors_right_1 : WS :=
  (wIfS (wBt (wOp wNe (wLam 0 ("_law_errors_right", none) "_law_errors_right.<locals>.<lambda>" N__law_said w__law_said (wCall R_serve (wCons (wVar 3) (wCons (wC .non) (wCons (wC .non) wNil))))) (wLst (wCons (wC (.str "tree")) (wCons (wCB wReprF (wCons (wVar 3) wNil)) (wCons (wC (.bl true)) wNil)))))) (wRet (wC (.bl false))) wNext)
def w__law_errors_right_2 : WS :=
  (wSeq (wIfS (wBt (wOp wNe (wLam 0 ("_law_errors_right", none) "_law_errors_right.<locals>.<lambda>" N__law_said w__law_said (wCall R_greatest_allowances (wCons (wVar 3) (wCons (wC .non) wNil)))) (wLst (wCons (wC (.str "tree")) (wCons (wCB wReprF (wCons (wVar 3) wNil)) (wCons (wC (.bl true)) wNil)))))) (wRet (wC (.bl false))) wNext) w__law_errors_right_1)
def w__law_errors_right_3 : WS :=
  (wIfS (wBt (wOp wNe (wLam 0 ("_law_errors_right", none) "_law_errors_right.<locals>.<lambda>" N__law_said w__law_said (wCall R_serve (wCons (wVar 0) (wCons (wVar 3) (wCons (wC .non) wNil))))) (wLst (wCons (wC (.str "need")) (wCons (wCB wReprF (wCons (wVar 3) wNil)) (wCons (wC (.bl true)) wNil)))))) (wRet (wC (.bl false))) wNext)
def w__law_errors_right_4 : WS :=
  (wSeq (wIfS (wBt (wOp wNe (wLam 0 ("_law_errors_right", none) "_law_errors_right.<locals>.<lambda>" N__law_said w__law_said (wCall R_greatest_allowances (wCons (wVar 0) (wCons (wVar 3) wNil)))) (wLst (wCons (wC (.str "need")) (wCons (wCB wReprF (wCons (wVar 3) wNil)) (wCons (wC (.bl true)) wNil)))))) (wRet (wC (.bl false))) wNext) w__law_errors_right_3)
def w__law_errors_right_5 : WS :=
  (wRet (wC (.bl true)))
def w__law_errors_right_6 : WS :=
  (wSeq (wFor (wiSeq (wLst (wCons (wC .non) (wCons (wLst wNil) (wCons (wFix (wDisp [((wC (.str "other")), (wC (.int 1)))])) (wCons (wFix (wDisp [((wVar 4), (wC (.int 0)))])) (wCons (wFix (wDisp [((wVar 4), (wC (.int 100)))])) (wCons (wFix (wDisp [((wVar 4), (wC (.bl true)))])) (wCons (wFix (wDisp [((wVar 4), (wC (.str "1")))])) (wCons (wFix (wDisp [((wC (.str "store")), (wC (.int 1)))])) (wCons (wFix (wDisp [((wC (.int 5)), (wC (.int 1)))])) wNil))))))))))) (wgName 3) w__law_errors_right_4) w__law_errors_right_5)
def w__law_errors_right_7 : WS :=
  (wSeq (wAsg (wOp wIxA (wCB wListD (wCons (wVar 0) wNil)) (wC (.int 0))) (wgName 4)) w__law_errors_right_6)
def w__law_errors_right_8 : WS :=
  (wSeq (wFor (wiSeq (wFix (wVar 2))) (wgName 3) w__law_errors_right_2) w__law_errors_right_7)
def w__law_errors_right_9 : WS :=
  (wSeq (wDrop (wApp (wVar 2) (wFix (wDisp [((wC (.str "a")), (wC (.str "b"))), ((wC (.str "b")), (wC (.str "c"))), ((wC (.str "c")), (wC (.str "b")))])))) w__law_errors_right_8)
def w__law_errors_right_10 : WS :=
  (wSeq (wAsg (wOp wAddO (wVar 2) (wLst (wCons (wFix (wDisp [((wC (.str "A")), (wC (.str "store")))])) (wCons (wFix (wDisp [((wC (.int 5)), (wC (.str "store")))])) (wCons (wFix (wDisp [((wC (.str "a")), (wC (.str "store"))), ((wC (.str "b")), (wC (.str "c")))])) (wCons (wFix (wDisp [((wC (.str "a")), (wLst (wCons (wC (.str "store")) wNil)))])) (wCons (wVar 1) wNil))))))) (wgName 2)) w__law_errors_right_9)
def w__law_errors_right_11 : WS :=
  (wSeq (wAsg (wLstO (wCons (wC .non) (wCons (wFix wDNew) (wCons (wLst wNil) (wCons (wFix (wDisp [((wC (.str "a")), (wC (.str "a")))])) (wCons (wFix (wDisp [((wC (.str "a")), (wC (.str "b"))), ((wC (.str "b")), (wC (.str "a")))])) (wCons (wFix (wDisp [((wC (.str "a")), (wC (.str "other")))])) (wCons (wFix (wDisp [((wC (.str "store")), (wC (.str "store")))])) (wCons (wFix (wDisp [((wC (.str "a")), (wC .non))])) wNil))))))))) (wgName 2)) w__law_errors_right_10)
def w__law_errors_right : WS :=
  (wSeq (wAsg (wFix (wCB wDictOf (wCons (wLc (wiStr (wC (.str "abcdefghijkl"))) (wgName 5) wYes (wTup (wCons (wOp wAdd (wC (.str "n")) (wVar 5)) (wCons (wC (.str "store")) wNil))) [5]) wNil))) (wgName 1)) w__law_errors_right_11)
def N_law : List PySem.Str := ["_law_script", "_law_turn", "_law_source_here", "_law_parents", "_law_needs_here", "_law_plan", "_law_given", "_law_drawn", "_law_thing", "_law_name", "_law_attempt"]
def w_law_1 : WS :=
  (wFzV 8 (wIfS (wBt (wOp wNeS (wCB wReprF (wCons (wCall R_serve (wCons (wVar 3) (wCons (wVar 4) (wCons (wVar 8) wNil)))) wNil)) (wCB wReprF (wCons (wCall R__law_serve (wCons (wVar 3) (wCons (wVar 4) (wCons (wVar 8) wNil)))) wNil)))) (wRet (wC (.bl false))) wNext))
def w_law_2 : WS :=
  (wIfS (wNot (wBt (wCall R__law_errors_right (wCons (wVar 3) wNil)))) (wRet (wC (.bl false))) wNext)
def w_law_3 : WS :=
  (wSeq (wFor (wiSeq (wOp wAdd (wLst (wCons (wVar 6) (wCons (wVar 7) wNil))) (wLc (wiRng1 (wCons (wC (.int 10)) wNil)) (wgName 10) wYes (wCall R__law_bent (wCons (wVar 2) (wCons (wVar 3) (wCons (wVar 6) wNil)))) [10]))) (wgName 8) w_law_1) w_law_2)
def w_law_4 : WS :=
  (wSeq (wAsg (wFix (wCB wDictOf (wCons (wLc (wiKeys (wVar 3)) (wgName 9) wYes (wTup (wCons (wVar 9) (wCons (wOp wAdd (wC (.int 1)) (wCall R__law_draw (wCons (wVar 2) (wCons (wC (.int 4)) wNil)))) wNil))) [9]) wNil))) (wgName 7)) w_law_3)
def w_law_5 : WS :=
  (wSeq (wAsg (wCB wDictOf (wCons (wLckE 5 (wLc (wiKeys (wVar 5)) (wgName 9) wYes (wTup (wCons (wVar 9) (wCons (wOp wIxA (wOp wIxA (wVar 5) (wVar 9)) (wC (.int 0))) wNil))) [9])) wNil)) (wgName 6)) w_law_4)
def w_law_6 : WS :=
  (wSeq (wAsg (wCall R_greatest_allowances (wCons (wVar 3) (wCons (wVar 4) wNil))) (wgName 5)) w_law_5)
def w_law_7 : WS :=
  (wSeq (wAsg (wCall R__law_needs (wCons (wVar 2) (wCons (wVar 3) (wCons (wOp wIxA (wLst (wCons (wC (.int 4)) (wCons (wC (.int 99)) wNil))) (wCall R__law_draw (wCons (wVar 2) (wCons (wC (.int 2)) wNil)))) wNil)))) (wgName 4)) w_law_6)
def w_law_8 : WS :=
  (wSeq (wAsg (wCall R__law_tree (wCons (wVar 2) (wCons (wC (.int 11)) wNil))) (wgName 3)) w_law_7)
def w_law_9 : WS :=
  (wSeq (wAsg (wCall R__law_source (wCons (wVar 0) (wCons (wVar 1) wNil))) (wgName 2)) w_law_8)
def w_law_10 : WS :=
  (wRet (wC (.bl true)))
def w_law : WS :=
  (wSeq (wFor (wiRng1 (wCons (wCB wMax2 (wCons (wC (.int 1)) (wCons (wCB wMin2 (wCons (wCB wLenA (wCons (wVar 0) wNil)) (wCons (wC (.int 8)) wNil))) wNil))) wNil)) (wgName 1) w_law_9) w_law_10)
end K69
namespace K69
open PySem PySem.Spec PyProof.Rows L2 Sy
theorem p__law_draw : ∀ rs ms q qx, R__law_draw rs ms q qx → w__law_draw (endsF q) (startE N__law_draw rs qx) ms := by
  rintro rs ms q qx ⟨j, n, s, m, rfl, e, ⟨hn, hs, hs2⟩, hm, hm2, k⟩
  have hj : j < ms.length := by
    rcases Nat.lt_or_ge j ms.length with h | h
    · exact h
    · rw [List.getElem?_eq_none h] at e; cases e
  have es : ∀ c : Cell, (ms.set j c)[j]? = some c := fun c => by simp [hj]
  clear hj
  simp [w__law_draw, N__law_draw, src, atD, ixN, CMul, CDivW, e, es]
  obtain ⟨h1, h2⟩ := mod_src (z := s * 48271 + 11)
  split
  · simp [w__law_draw_2, w__law_draw_1, atD, ixN, CDivW, src, e, es]
    refine ⟨hm, ⟨hm, hm2⟩, k _ _ _ (Int.emod_nonneg _ (by omega)) (Int.emod_lt_of_pos _ hm) ⟨Int.ediv_nonneg hn (by omega), hs, hs2⟩⟩
  · simp [w__law_draw_4, w__law_draw_3, CMul, CDivW, atD, ixN, src, e, es]
    exact ⟨by omega, by decide, hm, k _ _ _ (Int.emod_nonneg _ (by omega)) (Int.emod_lt_of_pos _ hm) ⟨hn, h1, h2⟩⟩
section
variable {q : KR} {qx : KXF} {ms : Ms} {ns : List Int} {t : Int} (k : ∀ n s, SrcOk n s → q (.own ms.length) (ms ++ [src n s]))
include k
theorem src_2 {c n s : Int} (hn : 0 ≤ n) (hs : 0 ≤ s ∧ s < 2147483647) : w__law_source_2 (endsF q) ⟨[some (.scr ns), some (.int t), some (.int c), some (.int n), some (.int s)], fun _ C fs ms => qx C fs ms, Str.empty, []⟩ ms := by
  simp [w__law_source_2, w__law_source_1, CPow]
  split
  · exact ⟨by decide, k _ _ ⟨Int.le_refl 0, hs.1, hs.2⟩⟩
  · exact ⟨by decide, k _ _ ⟨hn, hs.1, hs.2⟩⟩
theorem src_3 {c n : Int} (hn : 0 ≤ n) (ht : 0 ≤ t ∧ t < 1000) : w__law_source_3 (endsF q) ⟨[some (.scr ns), some (.int t), some (.int c), some (.int n), none], fun _ C fs ms => qx C fs ms, Str.empty, []⟩ ms := by
  simp [w__law_source_3, CMul]
  exact src_2 k hn mod_src
theorem src_4 {c : Int} (ht : 0 ≤ t ∧ t < 1000) : w__law_source_4 (endsF q) ⟨[some (.scr ns), some (.int t), some (.int c), none, none], fun _ C fs ms => qx C fs ms, Str.empty, []⟩ ms :=
  src_3 k (n := if -1 - c > c then -1 - c else c) (by split <;> omega) ht
end
theorem p__law_source : ∀ rs ms q qx, R__law_source rs ms q qx → w__law_source (endsF q) (startE N__law_source rs qx) ms := by
  rintro rs ms q qx ⟨ns, t, rfl, ht, ht2, k⟩
  simp [w__law_source, w__law_source_5, N__law_source]
  split
  · rename_i h
    exact ⟨ht, h, src_4 k ⟨ht, ht2⟩⟩
  · exact src_4 k ⟨ht, ht2⟩
end K69
namespace Sy
open PySem PySem.Spec PyProof.Rows L2
theorem eqv_str {a b : Str} : PyData.eqv (toPy (.str a)) (toPy (.str b)) = decide (a = b) := by
  rw [Bool.eq_iff_iff]; simp
theorem eqSt {a b : Str} {ms : Ms} {k : KR} (sa : SeqAt.shaped (.str a) = true) (sb : SeqAt.shaped (.str b) = true) (h : k (.bl (decide (a = b))) ms) : wEq (.str a) (.str b) ms k :=
  ⟨_, _, rfl, rfl, rfl, rfl, sa, sb, by rw [eqv_str]; exact h⟩
theorem neSt {a b : Str} {ms : Ms} {k : KR} (sa : SeqAt.shaped (.str a) = true) (sb : SeqAt.shaped (.str b) = true) (h : k (.bl (!decide (a = b))) ms) : wNe (.str a) (.str b) ms k :=
  ⟨_, _, rfl, rfl, rfl, rfl, sa, sb, by rw [eqv_str]; exact h⟩
theorem wc {ρ : Env} {d : Dat} {k : KR} {ms : Ms} (h : k d ms) : wC d ρ ms k := h
theorem nodup_len : ∀ {a b : List Str}, a.Nodup → (∀ x ∈ a, x ∈ b) → a.length ≤ b.length
  | [], b, _, _ => by simp
  | x :: a, b, h, s => by
    have hx : x ∈ b := s x (by simp)
    have := nodup_len (b := b.erase x) (List.nodup_cons.mp h).2 (fun y hy => (List.mem_erase_of_ne (fun e => (List.nodup_cons.mp h).1 (by rw [← e]; exact hy))).mpr (s y (List.mem_cons_of_mem _ hy)))
    rw [List.length_erase_of_mem hx] at this
    have : 0 < b.length := List.length_pos_of_mem hx
    simp only [List.length_cons]; omega
theorem inD_strs {y : Str} {l : List Str} : inD (.str y) (l.map .str) = decide (y ∈ l) := by
  unfold inD
  rw [List.any_map, Bool.eq_iff_iff, List.any_eq_true]
  simp
theorem inLst {y : Str} {l : List Str} {ms : Ms} {k : KR} (h : k (.bl (decide (y ∈ l))) ms) : wInA false (.str y) (.lst (l.map .str)) ms k := by
  simp only [wInA, dicOf, wIn, look]
  exact ⟨rfl, flat_strs, by rw [inD_strs]; exact h⟩
theorem inOwn {y : Str} {l : List Str} {ms : Ms} {j : Nat} {k : KR} (e : ms[j]? = some (.lst (l.map .str))) (h : k (.bl (decide (y ∈ l))) ms) : wInA false (.str y) (.own j) ms k := by
  simp only [wInA, dicOf, e, wIn, look, Option.bind_some, cellD]
  exact ⟨rfl, flat_strs, by rw [inD_strs]; exact h⟩
theorem inKv {α : Type} {f : α → Dat} {l : List (Str × α)} {y : Str} {ms : Ms} {k : KR} (h : k (.bl (decide (y ∈ l.map (·.1)))) ms) : wInA false (.str y) (.dic (kvD f l)) ms k := by
  simp only [wInA, dicOf, keyD, isSome_kv]
  exact h
theorem notinKv {α : Type} {f : α → Dat} {l : List (Str × α)} {y : Str} {ms : Ms} {k : KR} (h : k (.bl (!decide (y ∈ l.map (·.1)))) ms) : wInA true (.str y) (.dic (kvD f l)) ms k := by
  simp only [wInA, dicOf, keyD, isSome_kv]
  exact h
theorem ixKv {α : Type} (d : α) {f : α → Dat} {l : List (Str × α)} {y : Str} {ms : Ms} {k : KR} (hy : y ∈ l.map (·.1)) (h : k (f (val d l y)) ms) : wIxA (.dic (kvD f l)) (.str y) ms k := by
  simp only [wIxA, dicOf, keyD, getK_kv (d := d) hy]
  exact h
theorem all_const {α : Type} {l : List α} {ms : Ms} {k : KR} (h : k (.bl true) ms) : wAllL [.lst (l.map fun _ => Dat.bl true)] ms k := by
  rw [all_bl]
  exact all_yes h
theorem getK_mem {kvs : List (Key × Dat)} (nd : (kvs.map (·.1)).Nodup) {p : Key × Dat} (hp : p ∈ kvs) : getK kvs p.1 = some p.2 := by
  induction kvs with
  | nil => cases hp
  | cons a l ih =>
    simp only [List.map_cons, List.nodup_cons] at nd
    rcases List.mem_cons.mp hp with rfl | h
    · simp
    · have : a.1 ≠ p.1 := fun e => nd.1 (e ▸ List.mem_map.mpr ⟨p, h, rfl⟩)
      simp [this, ih nd.2 h]
theorem raise1 {C f : Str} {i : Nat} {d : Dat} {E : WEnds} {ρ : Env} {ms : Ms} (h : ρ.sl[i]? = some (some d)) (hk : ρ.ex ρ.sl C [(f, d)] ms) : wRaise C [f] (wCons (wVar i) wNil) E ρ ms := by
  simp only [wRaise, wCons, wNil]
  exact wv h ⟨rfl, (by decide : 1 ≤ 1000), hk⟩
end Sy
namespace K69
open PySem PySem.Spec PyProof.Rows L2 Sy
theorem ktab : kt (.bt "int") (.bt "int") = some true ∧ kt (.bt "int") (.bt "bool") = some false ∧ kt (.bt "bool") (.bt "int") = some true ∧ kt (.bt "bool") (.bt "bool") = some true ∧ kt (.bt "str") (.bt "int") = some false ∧ kt (.bt "NoneType") (.bt "int") = some false ∧
  kt (.bt "str") (.bt "str") = some true ∧ kt (.bt "int") (.bt "str") = some false ∧ kt (.bt "bool") (.bt "str") = some false ∧ kt (.bt "NoneType") (.bt "str") = some false ∧ kt (.bt "list") (.bt "str") = some false ∧
  kt (.bt "dict") (.bt "dict") = some true ∧ kt (.bt "NoneType") (.bt "dict") = some false ∧ kt (.bt "list") (.bt "dict") = some false ∧ kt (.bt "str") (.bt "bool") = some false ∧ kt (.bt "NoneType") (.bt "bool") = some false := by decide +kernel
/-- isinstance(d, T) -/
theorem isA {a b : Kd} {v : Bool} {d : Dat} {c : Dat} {ms : Ms} {k : KR} (h1 : kindV xsB isB ms d = some a) (h2 : clsK c = some b) (h3 : kt a b = some v) (h : k (.bl v) ms) : wIsA kt xsB isB [d, c] ms k := by
  cases c <;> first | (cases h2; done) | (simp only [wIsA, h1, h2, h3]; exact h)
theorem leaf_int {d : Dat} (h : leafD d = true) {ms : Ms} {k : KR} (hk : k (.bl (match d with | .int _ => true | .bl _ => true | _ => false)) ms) : wIsA kt xsB isB [d, .ty "int"] ms k := by
  obtain ⟨t1, t2, t3, t4, t5, t6, t7, t8, t9, t10, t11, t12, t13, t14, t15, t16⟩ := ktab
  cases d <;> first | (cases h; done) | skip
  · exact isA rfl rfl t6 hk
  · exact isA rfl rfl t3 hk
  · exact isA rfl rfl t1 hk
  · exact isA rfl rfl t5 hk
theorem leaf_bool {d : Dat} (h : leafD d = true) {ms : Ms} {k : KR} (hk : k (.bl (match d with | .bl _ => true | _ => false)) ms) : wIsA kt xsB isB [d, .ty "bool"] ms k := by
  obtain ⟨t1, t2, t3, t4, t5, t6, t7, t8, t9, t10, t11, t12, t13, t14, t15, t16⟩ := ktab
  cases d <;> first | (cases h; done) | skip
  · exact isA rfl rfl t16 hk
  · exact isA rfl rfl t4 hk
  · exact isA rfl rfl t2 hk
  · exact isA rfl rfl t15 hk
theorem leaf_str {d : Dat} (h : (leafD d || (match d with | .lst _ => true | _ => false)) = true) {ms : Ms} {k : KR} (hk : k (.bl (isStrB d)) ms) : wIsA kt xsB isB [d, .ty "str"] ms k := by
  obtain ⟨t1, t2, t3, t4, t5, t6, t7, t8, t9, t10, t11, t12, t13, t14, t15, t16⟩ := ktab
  cases d <;> first | (cases h; done) | skip
  · exact isA rfl rfl t10 hk
  · exact isA rfl rfl t9 hk
  · exact isA rfl rfl t8 hk
  · exact isA rfl rfl t7 hk
  · exact isA rfl rfl t11 hk
theorem dic_dict {kvs : List (Key × Dat)} {ms : Ms} {k : KR} (hk : k (.bl true) ms) : wIsA kt xsB isB [.dic kvs, .ty "dict"] ms k := by
  obtain ⟨t1, t2, t3, t4, t5, t6, t7, t8, t9, t10, t11, t12, t13, t14, t15, t16⟩ := ktab
  exact isA rfl rfl t12 hk
theorem non_dict {ms : Ms} {k : KR} (hk : k (.bl false) ms) : wIsA kt xsB isB [.non, .ty "dict"] ms k := by
  obtain ⟨t1, t2, t3, t4, t5, t6, t7, t8, t9, t10, t11, t12, t13, t14, t15, t16⟩ := ktab
  exact isA rfl rfl t13 hk
theorem lst_dict {ds : List Dat} {ms : Ms} {k : KR} (hk : k (.bl false) ms) : wIsA kt xsB isB [.lst ds, .ty "dict"] ms k := by
  obtain ⟨t1, t2, t3, t4, t5, t6, t7, t8, t9, t10, t11, t12, t13, t14, t15, t16⟩ := ktab
  exact isA rfl rfl t14 hk
theorem key_str {x : PySem.Str} {ms : Ms} {k : KR} (hk : k (.bl true) ms) : wIsA kt xsB isB [.str x, .ty "str"] ms k := leaf_str (d := .str x) rfl hk
theorem p_is_integer : ∀ rs ms q qx, R_is_integer rs ms q qx → w_is_integer (endsF q) (startE N_is_integer rs qx) ms := by
  rintro rs ms q qx ⟨d, rfl, hd, k⟩
  show w_is_integer (endsF q) ⟨[some d], fun _ C fs ms => qx C fs ms, Str.empty, []⟩ ms
  simp only [w_is_integer, wRet, wAndV, wCB, wCons, wNil]
  refine wv (d := d) rfl ?_
  refine wc (leaf_int hd ?_)
  cases d <;> first | (cases hd; done) | skip
  · exact k
  · simp only [if_true, wNotV, wCB, wCons, wNil]
    refine wv (d := .bl _) rfl ?_
    exact wc (leaf_bool rfl k)
  · simp only [if_true, wNotV, wCB, wCons, wNil]
    refine wv (d := .int _) rfl ?_
    exact wc (leaf_bool rfl k)
  · exact k
theorem chain_ii {a b c : Int} {i j : Nat} {wa wb wc' : WE} {ρ : Sy.Env} {ms : Ms} {k : KR} (ha : ∀ kk : KR, kk (.int a) ms → wa ρ ms kk) (hb : ∀ kk : KR, kk (.int b) ms → wb ρ ms kk) (hc : ∀ kk : KR, kk (.int c) ms → wc' ρ ms kk) (hk : k (.bl (decide (a ≤ b) && decide (b ≤ c))) ms) : wChain wLe wLe wa wb wc' ρ ms k := by
  simp only [wChain]
  refine ha _ (hb _ ?_)
  simp only [wLe, wOrd, look]
  by_cases h : a ≤ b
  · simp only [h, decide_true, if_true]
    refine hc _ ?_
    simp only [wLe, wOrd, look]
    simpa [h] using hk
  · simp only [h, decide_false, Bool.false_eq_true, if_false]
    simpa [h] using hk
theorem p_is_in_range : ∀ rs ms q qx, R_is_in_range rs ms q qx → w_is_in_range (endsF q) (startE N_is_in_range rs qx) ms := by
  rintro rs ms q qx ⟨d, lo, hi, rfl, hd, k⟩
  show w_is_in_range (endsF q) ⟨[some d, some (.int lo), some (.int hi)], fun _ C fs ms => qx C fs ms, Str.empty, []⟩ ms
  simp only [w_is_in_range, wRet, wAndV, wCall, wCons, wNil]
  refine wv (d := d) rfl ?_
  refine ⟨d, rfl, hd, ?_⟩
  cases d <;> first | (cases hd; done) | skip
  · exact k
  · exact k
  · rename_i i
    simp only [isIntB, if_true]
    exact chain_ii (i := 0) (j := 0) (a := lo) (b := i) (c := hi) (fun _ h => wv rfl h) (fun _ h => wv rfl h) (fun _ h => wv rfl h) k
  · exact k
theorem p_is_word : ∀ rs ms q qx, R_is_word rs ms q qx → w_is_word (endsF q) (startE N_is_word rs qx) ms := by
  rintro rs ms q qx ⟨d, rfl, hd⟩
  have hz := size_big
  show w_is_word (endsF q) ⟨[some d, none], fun _ C fs ms => qx C fs ms, Str.empty, []⟩ ms
  simp only [w_is_word, wRet, wAndV, wCB, wCons, wNil]
  refine wv (d := d) rfl ?_
  rcases hd with ⟨x, rfl, hx, k⟩ | ⟨i, rfl, k⟩
  · have hl : x.cps.toList.length = x.length := by simp [Str.length]
    refine wc (leaf_str (d := .str x) rfl ?_)
    simp only [isStrB, if_true]
    refine chain_ii (i := 0) (j := 0) (a := 1) (b := (x.length : Nat)) (c := 8) (fun _ h => h) (fun kk h => ?_) (fun _ h => h) ?_
    · simp only [wCB, wCons, wNil]
      refine wv (d := .str x) rfl ?_
      simp only [wLenA, dicOf, wLen, look]
      exact ⟨by omega, h⟩
    by_cases h1 : 1 ≤ x.length ∧ x.length ≤ 8
    · have i1 : (1 : Int) ≤ (x.length : Nat) := by omega
      have i2 : ((x.length : Nat) : Int) ≤ 8 := by omega
      simp only [i1, i2, decide_true, Bool.and_self, if_true, wCB, wCons, wNil, wLc, wiStr]
      refine wv (d := .str x) rfl ?_
      refine lcW_M (f := fun c => .str ⟨#[c]⟩) (g := fun c => .bl (decide (c ∈ ltrs.cps.toList))) (xs := x.cps.toList) ?_ (by omega) ?_
      · intro c hc kk hk
        simp only [wgName, Env.put, wOp, wVar, wC, wInA, dicOf]
        simp
        have e : decide (c ∈ (Str.ofString "abcdefghijklmnopqrstuvwxyz").cps) = decide (c ∈ ltrs.cps.toList) := by
          rw [Bool.eq_iff_iff, decide_eq_true_eq, decide_eq_true_eq]; exact Array.mem_toList_iff.symm
        rw [e]; exact hk
      · refine all_map ?_
        have e : wordB x = x.cps.toList.all fun c => decide (c ∈ ltrs.cps.toList) := by simp [wordB, h1]
        rw [← e]; exact k
    · have e : (decide ((1 : Int) ≤ (x.length : Nat)) && decide (((x.length : Nat) : Int) ≤ 8)) = false := by
        rw [Bool.eq_false_iff]; simp only [ne_eq, Bool.and_eq_true, decide_eq_true_eq]; omega
      rw [e]
      have e2 : wordB x = false := by
        unfold wordB
        rw [Bool.eq_false_iff]; simp only [ne_eq, Bool.and_eq_true, decide_eq_true_eq]
        exact fun z => h1 z.1
      rw [e2] at k
      exact k
  · refine wc (leaf_str (d := .int i) rfl ?_)
    exact k
end K69
namespace K69
open PySem PySem.Spec PyProof.Rows L2 Sy
theorem st_sh : SeqAt.shaped (.str stor) = true := by decide +kernel
section
variable {ps : List (PySem.Str × PySem.Str)}
theorem val_in {α : Type} {d : α} {l : List (PySem.Str × α)} {x : PySem.Str} (h : x ∈ ks l) : ∃ p ∈ l, p.1 = x ∧ val d l x = p.2 := by
  induction l with
  | nil => cases h
  | cons a l ih =>
    by_cases e : a.1 = x
    · exact ⟨a, by simp, e, by simp [val, e]⟩
    · have h' : x ∈ ks l := by
        rcases List.mem_cons.mp h with z | z
        · exact absurd z.symm e
        · exact z
      obtain ⟨p, hp, h1, h2⟩ := ih h'
      refine ⟨p, List.mem_cons_of_mem _ hp, h1, ?_⟩
      unfold val at h2 ⊢
      rw [List.find?_cons_of_neg (by simpa using e)]
      exact h2
theorem path_go (hl : ps.length ≤ 11) (sh : ∀ p ∈ ps, SeqAt.shaped (.str p.1) = true ∧ SeqAt.shaped (.str p.2) = true) {E : WEnds} {ex : KX} {ms : Ms} {fin : Option (List PySem.Str)}
    (hs : ∀ l, fin = some l → E.nx ⟨[some (.dic (dps ps)), some (.str stor), some (.own ms.length)], ex, Str.empty, []⟩ (ms ++ [.lst (l.map .str)])) (hn : fin = none → ∀ c, E.rt .non (ms ++ [c])) :
    ∀ (n : Nat) (y : PySem.Str) (acc : List PySem.Str), pathG (n + 1) ps acc y = fin → n + acc.length = 12 → acc.Nodup → (∀ z ∈ acc, z ∈ ks ps) → SeqAt.shaped (.str y) = true →
      whileW (wBt (wOp wNe (wVar 1) (wC (.str "store")))) w_path_of_3 E (n + 1) ⟨[some (.dic (dps ps)), some (.str y), some (.own ms.length)], ex, Str.empty, []⟩ (ms ++ [.lst (acc.map .str)]) := by
  have hz := size_big
  intro n
  induction n with
  | zero =>
    intro y acc hf hlen nd sub _
    have := nodup_len nd sub
    simp at this; omega
  | succ n ih =>
    intro y acc hf hlen nd sub shy
    rw [whileW]
    generalize hW : whileW _ w_path_of_3 E (n + 1) = WW
    simp only [wBt, wOp]
    refine wv (d := .str y) rfl ?_
    refine wc (neSt shy st_sh ?_)
    rw [pathG] at hf
    by_cases e : y = stor
    · have e' : decide (y = Str.ofString "store") = true := decide_eq_true e
      subst e
      rw [if_pos rfl] at hf
      rw [e']
      exact hs acc hf.symm
    · have e' : decide (y = Str.ofString "store") = false := decide_eq_false e
      rw [if_neg e] at hf
      rw [e']
      have ee : ∀ c : Cell, (ms ++ [c])[ms.length]? = some c := fun c => by simp
      have es : ∀ c c' : Cell, (ms ++ [c]).set ms.length c' = ms ++ [c'] := fun c c' => by simp
      simp only [Bool.not_false, if_true, w_path_of_3, wSeq, wIfS, wOr, wBt, wOp]
      refine wv (d := .str y) rfl ?_
      refine wv (d := .own ms.length) rfl ?_
      refine inOwn (ee _) ?_
      by_cases hin : y ∈ acc
      · rw [if_pos hin] at hf
        simp only [hin, decide_true, if_true, wRet, wC]
        exact hn hf.symm _
      · rw [if_neg hin] at hf
        simp only [hin, decide_false, Bool.false_eq_true, if_false, Sy.wNot, wBt, wCB, wCons, wNil]
        refine wv (d := .str y) rfl ?_
        refine wc (key_str ?_)
        simp only [Bool.not_true, Bool.false_eq_true, if_false]
        refine wv (d := .str y) rfl ?_
        refine wv (d := .dic (dps ps)) rfl ?_
        refine notinKv ?_
        by_cases hy : y ∈ ks ps
        · rw [if_pos hy] at hf
          have hd : decide (y ∈ ps.map (·.1)) = true := decide_eq_true hy
          rw [hd]
          simp only [Bool.not_true, Bool.false_eq_true, if_false, wNext]
          simp only [w_path_of_2, wSeq, wDrop, wApp]
          refine wv (d := .own ms.length) rfl ?_
          simp only [ee]
          refine wv (d := .str y) rfl ?_
          simp only [ee]
          refine ⟨by simp; omega, ?_⟩
          rw [es]
          simp only [w_path_of_1, wAsg, wOp]
          refine wv (d := .dic (dps ps)) rfl ?_
          refine wv (d := .str y) rfl ?_
          refine ixKv stor hy ?_
          obtain ⟨p, hp, _, hv⟩ := val_in (d := stor) hy
          have := ih (val stor ps y) (acc ++ [y]) hf (by simp; omega) (by
            rw [List.nodup_append]
            exact ⟨nd, by simp, fun a ha b hb e => hin (by rw [List.mem_singleton.mp hb] at e; rw [← e]; exact ha)⟩) (fun z hz => by
            rcases List.mem_append.mp hz with hz | hz
            · exact sub z hz
            · rw [List.mem_singleton.mp hz]; exact hy) (by rw [hv]; exact (sh p hp).2)
          rw [hW] at this
          simpa using this
        · rw [if_neg hy] at hf
          have hd : decide (y ∈ ps.map (·.1)) = false := decide_eq_false hy
          rw [hd]
          simp only [Bool.not_false, if_true, wRet, wC]
          exact hn hf.symm _
end
theorem p_path_of : ∀ rs ms q qx, R_path_of rs ms q qx → w_path_of (endsF q) (startE N_path_of rs qx) ms := by
  rintro rs ms q qx ⟨ps, x, rfl, ⟨hl, nd, sh⟩, hx, k⟩
  show w_path_of (endsF q) ⟨[some (.dic (dps ps)), some (.str x), none], fun _ C fs ms => qx C fs ms, Str.empty, []⟩ ms
  simp only [w_path_of, wSeq, wAsg, wLstO, wNil]
  refine ⟨by simp, ?_⟩
  show w_path_of_5 (endsF q) ⟨[some (.dic (dps ps)), some (.str x), some (.own ms.length)], fun _ C fs ms => qx C fs ms, Str.empty, []⟩ (ms ++ [.lst []])
  simp only [w_path_of_5, wSeq, wWhile]
  obtain ⟨p, hp, rfl, _⟩ := val_in (d := stor) hx
  refine ⟨13, path_go hl sh (fin := pathG 13 ps [] p.1) (fun l e => ?_) (fun e c => ?_) 12 p.1 [] rfl (by simp) (by simp) (by simp) (sh p hp).1⟩
  · rw [e] at k
    simp [w_path_of_4]
    exact k _
  · rw [e] at k
    exact k _
/-! the tree's check -/
theorem nms_word : (nms.all fun x => wordB x && SeqAt.shaped (.str x) && decide (x ≠ stor)) = true := by decide +kernel
theorem nms_w {x : PySem.Str} (h : x ∈ nms) : wordB x = true ∧ SeqAt.shaped (.str x) = true ∧ x ≠ stor := by
  have := List.all_eq_true.mp nms_word x h
  simp only [Bool.and_eq_true, decide_eq_true_eq] at this
  exact ⟨this.1.1, this.1.2, this.2⟩
theorem TreeOk.strs {ps : List (PySem.Str × PySem.Str)} (T : TreeOk ps) : StrsOk ps := by
  have mk : ∀ p ∈ ps, p.1 ∈ ks ps := fun p hp => List.mem_map.mpr ⟨p, hp, rfl⟩
  refine ⟨?_, T.len, T.nd, fun p hp => (nms_w (T.mem _ (mk p hp))).2.1, fun p hp => ?_, fun p hp => ⟨(nms_w (T.mem _ (mk p hp))).1, (nms_w (T.mem _ (mk p hp))).2.2⟩⟩
  · have h0 : ps.length ≠ 0 := fun e => T.ne (List.eq_nil_of_length_eq_zero e)
    omega
  · rcases T.par p hp with h | ⟨h, _⟩
    · rw [h]; exact st_sh
    · exact (nms_w (T.mem _ h)).2.1
theorem word_len {x : PySem.Str} (h : wordB x = true) : x.length ≤ 1000 := by
  unfold wordB at h
  simp only [Bool.and_eq_true, decide_eq_true_eq] at h
  omega
theorem StrsOk.entK {ps : List (PySem.Str × PySem.Str)} (S : StrsOk ps) : (dps ps).all entK = true ∧ (dps ps).all entB = true := by
  constructor
  · rw [List.all_eq_true]
    intro p hp
    obtain ⟨r, hr, rfl⟩ := List.mem_map.mp hp
    simp only [K69.entK, Bool.and_eq_true, decide_eq_true_eq]
    exact ⟨⟨word_len (S.w r hr).1, S.sh1 r hr⟩, rfl⟩
  · rw [List.all_eq_true]
    intro p hp
    obtain ⟨r, hr, rfl⟩ := List.mem_map.mp hp
    simp only [entB, Bool.and_eq_true, Bool.not_eq_true', decide_eq_false_iff_not]
    exact ⟨⟨(S.w r hr).1, (S.w r hr).2⟩, rfl⟩
theorem pathG_mem {ps : List (PySem.Str × PySem.Str)} : ∀ (n : Nat) (acc : List PySem.Str) (x : PySem.Str) (l : List PySem.Str), (∀ z ∈ acc, z ∈ ks ps) → pathG n ps acc x = some l → ∀ z ∈ l, z ∈ ks ps
  | 0, _, _, _, _, h => by cases h
  | n + 1, acc, x, l, ha, h => by
    rw [pathG] at h
    split at h
    · cases h; exact ha
    · split at h
      · cases h
      · split at h
        · rename_i hx
          exact pathG_mem n _ _ _ (fun z hz => by
            rcases List.mem_append.mp hz with hz | hz
            · exact ha z hz
            · rw [List.mem_singleton.mp hz]; exact hx) h
        · cases h
section
variable {q : KR} {qx : KXF} {ms : Ms}
theorem ct_1 {ps : List (PySem.Str × PySem.Str)} (S : StrsOk ps) (h1 : (∀ x ∈ ks ps, (pathG 13 ps [] x).isSome = true) → ∀ g, q .non (ms ++ g)) (h0 : (∃ x ∈ ks ps, pathG 13 ps [] x = none) → ∀ g, qx "InvalidTree" [("given", .dic (dps ps))] (ms ++ g)) :
    w_check_tree_1 (endsF q) ⟨[some (.dic (dps ps)), none], fun _ C fs ms => qx C fs ms, Str.empty, []⟩ ms := by
  have hz := size_big
  have hl := S.len
  simp only [w_check_tree_1, wIfS, wBt, wOp, wC, wLc, wiKeys]
  refine wv (d := .dic (dps ps)) rfl ?_
  simp only [frzOf]
  rw [keys_kv]
  have shk : ∀ z ∈ ks ps, SeqAt.shaped (.str z) = true := fun z hz => by
    obtain ⟨p, hp, rfl⟩ := List.mem_map.mp hz
    exact S.sh1 p hp
  have main : ∀ gb, lcW (wgName 1) wYes (wCall R_path_of (wCons (wVar 0) (wCons (wVar 1) wNil))) ⟨[some (.dic (dps ps)), none], neverX, Str.empty, []⟩ (fun acc ms2 => wInD false .non (.lst acc) ms2 fun a ms1 => match a with
      | .bl b => if b = true then wRaise "InvalidTree" ["given"] (wCons (wVar 0) wNil) (endsF q) ⟨[some (.dic (dps ps)), none], fun _ C fs ms => qx C fs ms, Str.empty, []⟩ ms1 else wNext (endsF q) ⟨[some (.dic (dps ps)), none], fun _ C fs ms => qx C fs ms, Str.empty, []⟩ ms1
      | _ => False) ((ks ps).map .str) [] (ms ++ gb) := by
    intro gb
    refine lcW_G (f := .str) (p := fun _ => true) (g := fun x => dOL (pathG 13 ps [] x)) ?_ (by simp; omega) ?_
    · intro x hx gb kk hk
      simp only [wgName, wYes, if_true, wCall, wCons, wNil]
      refine wv (d := .dic (dps ps)) rfl ?_
      refine wv (d := .str x) rfl ?_
      refine ⟨ps, x, rfl, ⟨S.len, S.nd, fun p hp => ⟨S.sh1 p hp, S.sh2 p hp⟩⟩, hx, fun g => ?_⟩
      rw [List.append_assoc]
      simpa using hk (gb ++ g)
    · intro gb
      rw [List.nil_append, List.filter_eq_self.mpr (fun _ _ => rfl)]
      have f1 : ∀ x, fine 2 (dOL (pathG 13 ps [] x)) := by
        intro x
        cases hp : pathG 13 ps [] x with
        | none => exact fine_leaf (by decide) rfl
        | some l =>
          refine fine_lst fun d hd => ?_
          obtain ⟨y, hy, rfl⟩ := List.mem_map.mp hd
          exact fine_leaf (by decide) (shk y (pathG_mem 13 [] x l (fun _ z => by cases z) hp y hy))
      have f : fine 3 (.lst ((ks ps).map fun x => dOL (pathG 13 ps [] x))) := by
        refine fine_lst fun d hd => ?_
        obtain ⟨x, hx, rfl⟩ := List.mem_map.mp hd
        exact f1 x
      refine ⟨.non, _, rfl, rfl, rfl, f.1, shN, f.shaped (by decide), ?_⟩
      have e : (toPys ((ks ps).map fun x => dOL (pathG 13 ps [] x))).any (fun z => PyData.eqv z (toPy .non)) = (ks ps).any fun x => (pathG 13 ps [] x).isNone := by
        generalize ks ps = l
        induction l with
        | nil => rfl
        | cons a l ih =>
          rw [List.map_cons, List.any_cons, ← ih]
          show (PyData.eqv (toPy (dOL (pathG 13 ps [] a))) .none || _) = _
          congr 1
          cases pathG 13 ps [] a with
          | none => rfl
          | some l => rfl
      rw [e]
      cases hb : (ks ps).any fun x => (pathG 13 ps [] x).isNone with
      | true =>
        simp only [Bool.false_eq_true, if_false, if_true]
        refine raise1 rfl ?_
        obtain ⟨x, hx, hn⟩ := List.any_eq_true.mp hb
        exact h0 ⟨x, hx, by simpa using hn⟩ gb
      | false =>
        simp only [Bool.false_eq_true, if_false, wNext]
        refine h1 (fun x hx => ?_) gb
        have := List.any_eq_false.mp hb x hx
        cases hp : pathG 13 ps [] x with
        | none => rw [hp] at this; simp at this
        | some l => rfl
  have := main []
  rw [List.append_nil] at this
  exact this
theorem ct_2 {kvs : List (Key × Dat)} (h2 : kvs.length ≤ 11) (nd : (kvs.map (·.1)).Nodup) (hk : kvs.all entK = true) (hb : kvs.all entB = false → qx "InvalidTree" [("given", .dic kvs)] ms) (ht : kvs.all entB = true → w_check_tree_1 (endsF q) ⟨[some (.dic kvs), none], fun _ C fs ms => qx C fs ms, Str.empty, []⟩ ms) :
    w_check_tree_2 (endsF q) ⟨[some (.dic kvs), none], fun _ C fs ms => qx C fs ms, Str.empty, []⟩ ms := by
  have hz := size_big
  simp only [w_check_tree_2, wSeq, wIfS, Sy.wNot, wBt, wCB, wCons, wNil, wLc, wiKeys]
  refine wv (d := .dic kvs) rfl ?_
  simp only [frzOf]
  refine lcW_M (xs := kvs) (f := fun p => datK p.1) (g := fun p => .bl (entB p)) ?_ (by omega) ?_
  · rintro ⟨key, v⟩ hp kk hkk
    have hK := List.all_eq_true.mp hk _ hp
    simp only [wgName, wAndV, wCall, wCons, wNil]
    refine wv (d := datK key) rfl ?_
    cases key with
    | inl i => exact ⟨_, rfl, .inr ⟨i, rfl, hkk⟩⟩
    | inr x =>
      simp only [K69.entK, Bool.and_eq_true, decide_eq_true_eq] at hK
      refine ⟨_, rfl, .inl ⟨x, rfl, hK.1.1, ?_⟩⟩
      by_cases hw : wordB x = true
      · simp only [hw, if_true, wOp]
        refine wv (d := .str x) rfl ?_
        refine wc (neSt hK.1.2 st_sh ?_)
        by_cases e : x = stor
        · have e' : decide (x = Str.ofString "store") = true := decide_eq_true e
          rw [e']
          have : entB (.inr x, v) = false := by simp [entB, e]
          rw [this] at hkk
          exact hkk
        · have e' : decide (x = Str.ofString "store") = false := decide_eq_false e
          rw [e']
          simp only [Bool.not_false, if_true, wCB, wCons, wNil, wOp]
          refine wv (d := .dic kvs) rfl ?_
          refine wv (d := .str x) rfl ?_
          simp only [wIxA, dicOf, keyD, getK_mem nd hp]
          refine wc (leaf_str hK.2 ?_)
          have : entB (.inr x, v) = isStrB v := by simp [entB, e, hw]
          rw [this] at hkk
          exact hkk
      · have hw' : wordB x = false := by simpa using hw
        rw [hw']
        have : entB (.inr x, v) = false := by simp [entB, hw']
        rw [this] at hkk
        exact hkk
  · refine all_map ?_
    cases e : kvs.all entB with
    | true =>
      simp only [Bool.not_true, Bool.false_eq_true, if_false, wNext]
      exact ht e
    | false =>
      simp only [Bool.not_false, if_true]
      exact raise1 rfl (hb e)
end
theorem p_check_tree : ∀ rs ms q qx, R_check_tree rs ms q qx → w_check_tree (endsF q) (startE N_check_tree rs qx) ms := by
  rintro rs ms q qx ⟨d, rfl, hd⟩
  have hz := size_big
  show w_check_tree (endsF q) ⟨[some d, none], fun _ C fs ms => qx C fs ms, Str.empty, []⟩ ms
  simp only [w_check_tree, wSeq, wIfS, wOr, Sy.wNot, wBt, wCB, wCons, wNil]
  refine wv (d := d) rfl ?_
  have head : ∀ kvs : List (Key × Dat), kvs.length ≤ 100 → (¬ (1 ≤ kvs.length ∧ kvs.length ≤ 11) → qx "InvalidTree" [("given", .dic kvs)] ms) → ((1 ≤ kvs.length ∧ kvs.length ≤ 11) → w_check_tree_2 (endsF q) ⟨[some (.dic kvs), none], fun _ C fs ms => qx C fs ms, Str.empty, []⟩ ms) →
      (wC (.ty "dict")) ⟨[some (.dic kvs), none], fun _ C fs ms => qx C fs ms, Str.empty, []⟩ ms fun d1 ms1 => wIsA kt xsB isB [.dic kvs, d1] ms1 fun a ms2 => match a with
        | .bl b => if (!b) = true then wRaise "InvalidTree" ["given"] (wCons (wVar 0) wNil) { nx := w_check_tree_2 (endsF q), rt := (endsF q).rt, bk := (endsF q).bk, ct := (endsF q).ct } ⟨[some (.dic kvs), none], fun _ C fs ms => qx C fs ms, Str.empty, []⟩ ms2
          else wChain wLe wLe (wC (.int 1)) (wCB wLenA (wCons (wVar 0) wNil)) (wC (.int 11)) ⟨[some (.dic kvs), none], fun _ C fs ms => qx C fs ms, Str.empty, []⟩ ms2 fun a ms3 => match a with
            | .bl b => if (!b) = true then wRaise "InvalidTree" ["given"] (wCons (wVar 0) wNil) { nx := w_check_tree_2 (endsF q), rt := (endsF q).rt, bk := (endsF q).bk, ct := (endsF q).ct } ⟨[some (.dic kvs), none], fun _ C fs ms => qx C fs ms, Str.empty, []⟩ ms3 else wNext { nx := w_check_tree_2 (endsF q), rt := (endsF q).rt, bk := (endsF q).bk, ct := (endsF q).ct } ⟨[some (.dic kvs), none], fun _ C fs ms => qx C fs ms, Str.empty, []⟩ ms3
            | _ => False
        | _ => False := by
    intro kvs hl h0 h1
    refine wc (dic_dict ?_)
    simp only [Bool.not_true, Bool.false_eq_true, if_false]
    refine chain_ii (i := 0) (j := 0) (a := 1) (b := (kvs.length : Nat)) (c := 11) (fun _ h => h) (fun kk h => ?_) (fun _ h => h) ?_
    · simp only [wCB, wCons, wNil]
      refine wv (d := .dic kvs) rfl ?_
      simp only [wLenA, dicOf]
      exact h
    by_cases e : 1 ≤ kvs.length ∧ kvs.length ≤ 11
    · have e2 : (decide ((1 : Int) ≤ (kvs.length : Nat)) && decide (((kvs.length : Nat) : Int) ≤ 11)) = true := by
        simp only [Bool.and_eq_true, decide_eq_true_eq]; omega
      simp only [e2, Bool.not_true, Bool.false_eq_true, if_false, wNext]
      exact h1 e
    · have e2 : (decide ((1 : Int) ≤ (kvs.length : Nat)) && decide (((kvs.length : Nat) : Int) ≤ 11)) = false := by
        rw [Bool.eq_false_iff]; simp only [ne_eq, Bool.and_eq_true, decide_eq_true_eq]; omega
      simp only [e2, Bool.not_false, if_true]
      exact raise1 rfl (h0 e)
  rcases hd with ⟨ps, rfl, T, k⟩ | ⟨hb, k⟩
  · have S := T.strs
    have hd : (dps ps).length = ps.length := by simp [kvD]
    refine head _ (by rw [hd]; have := S.len; omega) (fun z => absurd ⟨by rw [hd]; exact S.len1, by rw [hd]; exact S.len⟩ z) fun _ => ?_
    refine ct_2 (by rw [hd]; exact S.len) (nd_kv S.nd) S.entK.1 (fun z => by rw [S.entK.2] at z; cases z) fun _ => ?_
    refine ct_1 S (fun _ => k) fun ⟨x, hx, z⟩ => by rw [pathG_tree T hx] at z; cases z
  · have k0 := k []
    rw [List.append_nil] at k0
    cases hb with
    | non => exact wc (non_dict (by simp only [Bool.not_false, if_true]; exact raise1 rfl k0))
    | lst ds => exact wc (lst_dict (by simp only [Bool.not_false, if_true]; exact raise1 rfl k0))
    | size kvs h => exact head kvs (by omega) (fun _ => k0) fun z => by omega
    | ent kvs h1 h2 nd hk hb => exact head kvs (by omega) (fun _ => k0) fun _ => ct_2 h2 nd hk (fun _ => k0) fun z => by rw [hb] at z; cases z
    | cyc ps S hc =>
      have hd : (dps ps).length = ps.length := by simp [kvD]
      refine head _ (by rw [hd]; have := S.len; omega) (fun z => absurd ⟨by rw [hd]; exact S.len1, by rw [hd]; exact S.len⟩ z) fun _ => ?_
      refine ct_2 (by rw [hd]; exact S.len) (nd_kv S.nd) S.entK.1 (fun z => by rw [S.entK.2] at z; cases z) fun _ => ?_
      refine ct_1 S (fun z => ?_) fun _ => k
      obtain ⟨x, hx, hn⟩ := hc
      have := z x hx
      rw [hn] at this; cases this
end K69
namespace Sy
open PySem PySem.Spec PyProof.Rows L2
theorem mid_at {M g : Ms} {c : Cell} : (M ++ [c] ++ g)[M.length]? = some c := by simp
theorem mid_set {M g : Ms} {c c' : Cell} : (M ++ [c] ++ g).set M.length c' = M ++ [c'] ++ g := by simp
theorem setK_new {α : Type} {f : α → Dat} {l : List (Str × α)} {x : Str} {v : α} (hx : x ∉ l.map (·.1)) : setK (kvD f l) (.inr x) (f v) = kvD f (l ++ [(x, v)]) := by
  simp [setK, getK_no hx]
  simp [kvD]
theorem any_no {α : Type} {l : List α} {ms : Ms} {k : KR} (h : k (.bl false) ms) : wAnyL [.lst (l.map fun _ => Dat.bl false)] ms k :=
  ⟨l.map fun _ => false, by simp, by
    have e : (l.map fun _ => false).any id = false := by simp
    rw [e]; exact h⟩
end Sy
namespace K69
open PySem PySem.Spec PyProof.Rows L2 Sy
theorem wd_sh {x : PySem.Str} (h : x ∈ nms) : SeqAt.shaped (.str x) = true := (nms_w h).2.1
theorem key_sh {ps : List (PySem.Str × PySem.Str)} (T : TreeOk ps) {x : PySem.Str} (h : x = stor ∨ x ∈ ks ps) : SeqAt.shaped (.str x) = true := by
  rcases h with rfl | h
  · exact st_sh
  · exact wd_sh (T.mem x h)
theorem R_path_tree {ps : List (PySem.Str × PySem.Str)} (T : TreeOk ps) {o : PySem.Str} (ho : o ∈ ks ps) {ms : Ms} {kk : KR} {kx : KXF} (k : ∀ g, kk (.lst ((path ps o).map .str)) (ms ++ g)) : R_path_of [.dic (dps ps), .str o] ms kk kx := by
  refine ⟨ps, o, rfl, ⟨T.len, T.nd, fun p hp => ⟨T.strs.sh1 p hp, T.strs.sh2 p hp⟩⟩, ho, fun g => ?_⟩
  rw [pathG_tree T ho]
  exact k g
theorem p_check_needs : ∀ rs ms q qx, R_check_needs rs ms q qx → w_check_needs (endsF q) (startE N_check_needs rs qx) ms := by
  rintro rs ms q qx ⟨ps, d, rfl, T, hd⟩
  have hz := size_big
  show w_check_needs (endsF q) ⟨[some d, some (.dic (dps ps)), none], fun _ C fs ms => qx C fs ms, Str.empty, []⟩ ms
  simp only [w_check_needs, wSeq, wIfS, wOr, Sy.wNot, wBt, wCB, wCons, wNil]
  refine wv (d := d) rfl ?_
  have one : ∀ kvs : List (Key × Dat), kvs.length ≤ 100 → (kvs.all (nkB ps) = false → qx "InvalidNeed" [("given", .dic kvs)] ms) → (kvs.all (nkB ps) = true → w_check_needs_1 (endsF q) ⟨[some (.dic kvs), some (.dic (dps ps)), none], fun _ C fs ms => qx C fs ms, Str.empty, []⟩ ms) →
      (wC (.ty "dict")) ⟨[some (.dic kvs), some (.dic (dps ps)), none], fun _ C fs ms => qx C fs ms, Str.empty, []⟩ ms fun d1 ms1 => wIsA kt xsB isB [.dic kvs, d1] ms1 fun a ms2 => match a with
        | .bl b => if (!b) = true then wRaise "InvalidNeed" ["given"] (wCons (wVar 0) wNil) { nx := w_check_needs_1 (endsF q), rt := (endsF q).rt, bk := (endsF q).bk, ct := (endsF q).ct } ⟨[some (.dic kvs), some (.dic (dps ps)), none], fun _ C fs ms => qx C fs ms, Str.empty, []⟩ ms2
          else wLc (wiKeys (wVar 0)) (wgName 2) wYes (wAndV (wCB (wIsA kt xsB isB) (wCons (wVar 2) (wCons (wC (.ty "str")) wNil))) (wOp (wInA false) (wVar 2) (wVar 1))) [2] ⟨[some (.dic kvs), some (.dic (dps ps)), none], fun _ C fs ms => qx C fs ms, Str.empty, []⟩ ms2 fun r ms3 => wAllL [r] ms3 fun a ms4 => match a with
            | .bl b => if (!b) = true then wRaise "InvalidNeed" ["given"] (wCons (wVar 0) wNil) { nx := w_check_needs_1 (endsF q), rt := (endsF q).rt, bk := (endsF q).bk, ct := (endsF q).ct } ⟨[some (.dic kvs), some (.dic (dps ps)), none], fun _ C fs ms => qx C fs ms, Str.empty, []⟩ ms4 else wNext { nx := w_check_needs_1 (endsF q), rt := (endsF q).rt, bk := (endsF q).bk, ct := (endsF q).ct } ⟨[some (.dic kvs), some (.dic (dps ps)), none], fun _ C fs ms => qx C fs ms, Str.empty, []⟩ ms4
            | _ => False
        | _ => False := by
    intro kvs hl h0 h1
    refine wc (dic_dict ?_)
    simp only [Bool.not_true, Bool.false_eq_true, if_false, wLc, wiKeys]
    refine wv (d := .dic kvs) rfl ?_
    simp only [frzOf]
    refine lcW_M (xs := kvs) (f := fun p => datK p.1) (g := fun p => .bl (nkB ps p)) ?_ (by omega) ?_
    · rintro ⟨key, v⟩ hp kk hkk
      simp only [wgName, wAndV, wCB, wCons, wNil]
      refine wv (d := datK key) rfl ?_
      cases key with
      | inl i => exact wc (leaf_str (d := .int i) rfl hkk)
      | inr x =>
        refine wc (key_str ?_)
        simp only [if_true, wOp]
        refine wv (d := .str x) rfl ?_
        refine wv (d := .dic (dps ps)) rfl ?_
        exact inKv hkk
    · refine all_map ?_
      cases e : kvs.all (nkB ps) with
      | true =>
        simp only [Bool.not_true, Bool.false_eq_true, if_false, wNext]
        exact h1 e
      | false =>
        simp only [Bool.not_false, if_true]
        exact raise1 rfl (h0 e)
  have two : ∀ kvs : List (PySem.Str × Dat), kvs.length ≤ 100 → (ks kvs).Nodup → (∀ p ∈ kvs, leafD p.2 = true) → ((kvs.all fun p => rangeB 1 99 p.2) = false → qx "InvalidNeed" [("given", .dic (kvD id kvs))] ms) → ((kvs.all fun p => rangeB 1 99 p.2) = true → q .non ms) →
      w_check_needs_1 (endsF q) ⟨[some (.dic (kvD id kvs)), some (.dic (dps ps)), none], fun _ C fs ms => qx C fs ms, Str.empty, []⟩ ms := by
    intro kvs hl nd hk h0 h1
    simp only [w_check_needs_1, wIfS, Sy.wNot, wBt, wCB, wCons, wNil, wLc, wiKeys]
    refine wv (d := .dic (kvD id kvs)) rfl ?_
    simp only [frzOf]
    have ek : (kvD (id : Dat → Dat) kvs).map (fun p => datK p.1) = kvs.map fun p => .str p.1 := by simp [kvD]
    rw [ek]
    refine lcW_M (xs := kvs) (f := fun p => .str p.1) (g := fun p => .bl (rangeB 1 99 p.2)) ?_ (by omega) ?_
    · intro p hp kk hkk
      simp only [wgName, wCall, wCons, wNil, wOp]
      refine wv (d := .dic (kvD id kvs)) rfl ?_
      refine wv (d := .str p.1) rfl ?_
      refine ixKv .non (List.mem_map.mpr ⟨p, hp, rfl⟩) ?_
      rw [val_mem nd hp]
      exact ⟨_, _, _, rfl, hk p hp, hkk⟩
    · refine all_map ?_
      cases e : kvs.all fun p => rangeB 1 99 p.2 with
      | true =>
        simp only [Bool.not_true, Bool.false_eq_true, if_false, wNext]
        exact h1 e
      | false =>
        simp only [Bool.not_false, if_true]
        exact raise1 rfl (h0 e)
  rcases hd with ⟨nd, rfl, N, k⟩ | ⟨hb, k⟩
  · have hnl : nd.length ≤ 11 := by
      have := nodup_len N.dn N.mem
      have := T.len
      simp at *; omega
    have e : dnd nd = kvD id (nd.map fun p => (p.1, Dat.int p.2)) := by simp [kvD]
    refine one _ (by simp [kvD]; omega) (fun z => ?_) fun _ => ?_
    · exfalso
      have : (dnd nd).all (nkB ps) = true := by
        rw [List.all_eq_true]
        intro p hp
        obtain ⟨r, hr, rfl⟩ := List.mem_map.mp hp
        exact decide_eq_true (N.mem _ (List.mem_map.mpr ⟨r, hr, rfl⟩))
      rw [this] at z; cases z
    · rw [e]
      refine two _ (by simp; omega) (by simpa [Function.comp_def] using N.dn) (fun p hp => ?_) (fun z => ?_) fun _ => k
      · obtain ⟨r, hr, rfl⟩ := List.mem_map.mp hp
        rfl
      · exfalso
        have : ((nd.map fun p => (p.1, Dat.int p.2)).all fun p => rangeB 1 99 p.2) = true := by
          rw [List.all_eq_true]
          intro p hp
          obtain ⟨r, hr, rfl⟩ := List.mem_map.mp hp
          simp only [rangeB, Bool.and_eq_true, decide_eq_true_eq]
          exact ⟨N.low r hr, N.high r hr⟩
        rw [this] at z; cases z
  · cases hb with
    | non => exact wc (non_dict (by simp only [Bool.not_false, if_true]; exact raise1 rfl k))
    | lst ds => exact wc (lst_dict (by simp only [Bool.not_false, if_true]; exact raise1 rfl k))
    | key kvs h hb => exact one kvs h (fun _ => k) fun z => by rw [hb] at z; cases z
    | val kvs h nd hk hb =>
      refine one _ (by simp [kvD]; omega) (fun _ => k) fun _ => ?_
      exact two kvs h nd (fun p hp => (hk p hp).2) (fun _ => k) fun z => by rw [hb] at z; cases z
section
variable {ps : List (PySem.Str × PySem.Str)} {nd : List (PySem.Str × Int)} (T : TreeOk ps) (N : NeedOk ps nd)
include T N
theorem nd_len : nd.length ≤ 11 := by
  have := nodup_len N.dn N.mem
  have := T.len
  simp at *; omega
theorem great_1 {E : WEnds} {ex : KX} {M g : Ms} {pre : List PySem.Str} {x : PySem.Str} {x4 x7 : Option Dat} {ys : List PySem.Str} (hx : x ∉ pre) (hl : pre.length ≤ 20) (hp : ys.Perm (barsL ps nd x)) (hs : sortedS ys = true)
    (hE : E.nx ⟨[some (.dic (dps ps)), some (.dic (dnd nd)), some (.own M.length), some (.str x), x4, some (.int (least ps nd x)), some (.lst (ys.map .str)), x7], ex, Str.empty, []⟩ (M ++ [.dic (kvD id ((pre ++ [x]).map fun x => (x, planV ps nd x)))] ++ g)) :
    w_greatest_allowances_1 E ⟨[some (.dic (dps ps)), some (.dic (dnd nd)), some (.own M.length), some (.str x), x4, some (.int (least ps nd x)), some (.lst (ys.map .str)), x7], ex, Str.empty, []⟩ (M ++ [.dic (kvD id (pre.map fun x => (x, planV ps nd x)))] ++ g) := by
  have hz := size_big
  have h2 : 2 ≤ sizeLine := by omega
  have fin : ∀ v, v = planV ps nd x → (2 ≤ sizeLine ∧ wgSub (wVar 2) (wVar 3) v ⟨[some (.dic (dps ps)), some (.dic (dnd nd)), some (.own M.length), some (.str x), x4, some (.int (least ps nd x)), some (.lst (ys.map .str)), x7], ex, Str.empty, []⟩ (M ++ [.dic (kvD id (pre.map fun x => (x, planV ps nd x)))] ++ g) E.nx) := by
    rintro v rfl
    refine ⟨h2, ?_⟩
    simp only [wgSub]
    refine wv (d := .own M.length) rfl ?_
    refine wv (d := .str x) rfl ?_
    simp only [mid_at, keyD]
    refine ⟨by simp [kvD]; omega, ?_⟩
    rw [mid_set]
    have e := setK_new (f := (id : Dat → Dat)) (l := pre.map fun x => (x, planV ps nd x)) (x := x) (v := planV ps nd x) (by simpa [Function.comp_def] using hx)
    rw [show (planV ps nd x : Dat) = id (planV ps nd x) from rfl, e]
    have : (pre.map fun x => (x, planV ps nd x)) ++ [(x, planV ps nd x)] = (pre ++ [x]).map fun x => (x, planV ps nd x) := by simp
    rw [this]
    exact hE
  simp only [w_greatest_allowances_1, wAsg, wTup, wCons, wNil]
  refine wv (d := .int (least ps nd x)) rfl ?_
  simp only [wIf, wBt, wOp]
  refine wv (d := .int (least ps nd x)) rfl ?_
  simp only [wC, wLt, wOrd, look]
  by_cases h : least ps nd x < 99
  · simp only [h, decide_true, if_true]
    refine wv (d := .lst (ys.map .str)) rfl ?_
    cases ys with
    | nil => exact absurd (hp.symm.eq_nil) (bars_ne h)
    | cons y ys =>
      have h0 : atD ((y :: ys).map Dat.str) 0 = some (.str y) := by simp [atD, ixN]
      simp only [wIxA, dicOf, wIx, look, h0]
      refine fin _ ?_
      unfold planV
      rw [if_pos h, (IsL.head hp hs).eq]
  · simp only [h, decide_false, Bool.false_eq_true, if_false]
    refine fin _ ?_
    unfold planV
    rw [if_neg h]
theorem great_4 {E : WEnds} {ex : KX} {M g : Ms} {pre : List PySem.Str} {x : PySem.Str} {x4 x5 x6 x7 : Option Dat} (hk : x ∈ ks ps) (hx : x ∉ pre) (hl : pre.length ≤ 20)
    (hE : ∀ x4 x5 x6 g, E.nx ⟨[some (.dic (dps ps)), some (.dic (dnd nd)), some (.own M.length), some (.str x), x4, x5, x6, x7], ex, Str.empty, []⟩ (M ++ [.dic (kvD id ((pre ++ [x]).map fun x => (x, planV ps nd x)))] ++ g)) :
    w_greatest_allowances_4 E ⟨[some (.dic (dps ps)), some (.dic (dnd nd)), some (.own M.length), some (.str x), x4, x5, x6, x7], ex, Str.empty, []⟩ (M ++ [.dic (kvD id (pre.map fun x => (x, planV ps nd x)))] ++ g) := by
  have hz := size_big
  have hpl := T.len
  have hkl : (ks ps).length ≤ 11 := by simpa using hpl
  have hb : (below ps nd x).length ≤ 11 := Nat.le_trans (List.length_filter_le _ _) hkl
  have hxs := key_sh T (.inr hk)
  simp only [w_greatest_allowances_4, wSeq, wAsg, wLc, wiKeys]
  refine wv (d := .dic (dps ps)) rfl ?_
  simp only [frzOf]
  rw [keys_kv]
  refine lcW_G (f := .str) (p := fun o => decide (o ∈ ks nd) && decide (x ∈ path ps o)) (g := .str) ?_ (by simp; omega) ?_
  · intro o ho gb kk hkk
    simp only [wgName, wAnd, wBt, wOp]
    refine wv (d := .str o) rfl ?_
    refine wv (d := .dic (dnd nd)) rfl ?_
    refine inKv ?_
    by_cases e : o ∈ ks nd
    · have e' : decide (o ∈ nd.map (·.1)) = true := decide_eq_true e
      simp only [e', if_true]
      refine wv (d := .str x) rfl ?_
      simp only [wCall, wCons, wNil]
      refine wv (d := .dic (dps ps)) rfl ?_
      refine wv (d := .str o) rfl ?_
      refine R_path_tree T ho fun g2 => ?_
      refine inLst ?_
      have hkk := hkk (gb ++ g2)
      rw [← List.append_assoc] at hkk
      simp only [e', Bool.true_and] at hkk
      by_cases e2 : x ∈ path ps o
      · simp only [e2, decide_true, if_true] at hkk ⊢
        exact wv (d := .str o) rfl hkk
      · simp only [e2, decide_false, Bool.false_eq_true, if_false] at hkk ⊢
        exact hkk
    · have e' : decide (o ∈ nd.map (·.1)) = false := decide_eq_false e
      have hkk := hkk gb
      simp only [e', Bool.false_and, Bool.false_eq_true, if_false] at hkk ⊢
      exact hkk
  · intro gb
    simp only [List.nil_append]
    show w_greatest_allowances_3 E ⟨[some (.dic (dps ps)), some (.dic (dnd nd)), some (.own M.length), some (.str x), some (.lst ((below ps nd x).map .str)), x5, x6, x7], ex, Str.empty, []⟩ (M ++ [.dic (kvD id (pre.map fun x => (x, planV ps nd x)))] ++ gb)
    simp only [w_greatest_allowances_3, wSeq, wAsg, wCB, wCons, wNil, wOp, wLc, wiSeq]
    refine wv (d := .lst ((below ps nd x).map .str)) rfl ?_
    refine lcW_M (f := .str) (g := fun o => .int (val 0 nd o)) ?_ (by omega) ?_
    · intro o ho kk hkk
      simp only [wgName, wOp]
      refine wv (d := .dic (dnd nd)) rfl ?_
      refine wv (d := .str o) rfl ?_
      exact ixKv 0 (below_mem.mp ho).2.1 hkk
    · simp only [wLst, wCons, wNil, wC, wAdd, look]
      refine ⟨by simp; omega, by simp; omega, ?_⟩
      refine ⟨lsL ps nd x, by simp [lsL], by simp [lsL], fun m hm hmin => ?_⟩
      have em : m = least ps nd x := mn_uniq hm hmin
      subst em
      show w_greatest_allowances_2 E ⟨[some (.dic (dps ps)), some (.dic (dnd nd)), some (.own M.length), some (.str x), some (.lst ((below ps nd x).map .str)), some (.int (least ps nd x)), x6, x7], ex, Str.empty, []⟩ (M ++ [.dic (kvD id (pre.map fun x => (x, planV ps nd x)))] ++ gb)
      simp only [w_greatest_allowances_2, wSeq, wAsg, wCB, wCons, wNil, wLc, wiSeq]
      refine wv (d := .lst ((below ps nd x).map .str)) rfl ?_
      refine lcW_T (f := .str) (p := fun o => decide (val 0 nd o = least ps nd x)) (g := .str) ?_ (by simp; omega) ?_
      · intro o ho kk hkk
        simp only [wgName, wBt, wOp]
        refine wv (d := .dic (dnd nd)) rfl ?_
        refine wv (d := .str o) rfl ?_
        refine ixKv 0 (below_mem.mp ho).2.1 ?_
        refine wv (d := .int (least ps nd x)) rfl ?_
        refine eqI ?_
        by_cases e : val 0 nd o = least ps nd x
        · simp only [e, decide_true, if_true] at hkk ⊢
          exact wv (d := .str o) rfl hkk
        · simp only [e, decide_false, Bool.false_eq_true, if_false] at hkk ⊢
          exact hkk
      · refine ⟨barsL ps nd x, rfl, ?_, fun ys hp hs => ?_⟩
        · have := List.length_filter_le (fun o => decide (val 0 nd o = least ps nd x)) (below ps nd x)
          show ((below ps nd x).filter fun o => decide (val 0 nd o = least ps nd x)).length < 64
          omega
        · exact great_1 T N hx hl hp hs (hE _ _ _ _)
theorem great_go {E : WEnds} {ex : KX} {M : Ms} (hE : ∀ x3 x4 x5 x6 x7 g, E.nx ⟨[some (.dic (dps ps)), some (.dic (dnd nd)), some (.own M.length), x3, x4, x5, x6, x7], ex, Str.empty, []⟩ (M ++ [.dic (kvD id (planL ps nd))] ++ g)) :
    ∀ (suf pre : List PySem.Str), ks ps = pre ++ suf → ∀ x3 x4 x5 x6 x7 g, forW (wgName 3) w_greatest_allowances_4 E (suf.map .str) ⟨[some (.dic (dps ps)), some (.dic (dnd nd)), some (.own M.length), x3, x4, x5, x6, x7], ex, Str.empty, []⟩ (M ++ [.dic (kvD id (pre.map fun x => (x, planV ps nd x)))] ++ g) := by
  intro suf
  induction suf with
  | nil =>
    intro pre hp x3 x4 x5 x6 x7 g
    rw [List.append_nil] at hp
    rw [← hp]
    exact hE _ _ _ _ _ g
  | cons x suf ih =>
    intro pre hp x3 x4 x5 x6 x7 g
    have hl : pre.length ≤ 20 := by
      have := congrArg List.length hp
      have := T.len
      simp at *; omega
    have hx : x ∉ pre := by
      have := T.nd
      rw [hp, List.nodup_append] at this
      exact fun z => this.2.2 x z x (by simp) rfl
    have hk : x ∈ ks ps := by rw [hp]; simp
    exact great_4 T N hk hx hl fun x4 x5 x6 g => ih (pre ++ [x]) (by rw [hp]; simp) _ _ _ _ _ g
end
theorem p_greatest_allowances : ∀ rs ms q qx, R_greatest_allowances rs ms q qx → w_greatest_allowances (endsF q) (startE N_greatest_allowances rs qx) ms := by
  rintro rs ms q qx ⟨d, e, rfl, ⟨ps, nd, rfl, rfl, T, N, k⟩ | ⟨hb, k⟩ | ⟨ps, rfl, T, hb, k⟩⟩
  rotate_left
  · exact ⟨d, rfl, .inr ⟨hb, k⟩⟩
  · exact ⟨_, rfl, .inl ⟨ps, rfl, T, fun g0 => ⟨ps, e, rfl, T, .inr ⟨hb, k g0⟩⟩⟩⟩
  show w_greatest_allowances (endsF q) ⟨[some (.dic (dps ps)), some (.dic (dnd nd)), none, none, none, none, none, none], fun _ C fs ms => qx C fs ms, Str.empty, []⟩ ms
  refine ⟨_, rfl, .inl ⟨ps, rfl, T, fun g0 => ?_⟩⟩
  refine ⟨ps, _, rfl, T, .inl ⟨nd, rfl, N, ?_⟩⟩
  show w_greatest_allowances_6 (endsF q) ⟨[some (.dic (dps ps)), some (.dic (dnd nd)), some (.own (ms ++ g0).length), none, none, none, none, none], fun _ C fs ms => qx C fs ms, Str.empty, []⟩ ((ms ++ g0) ++ [.dic []])
  simp only [w_greatest_allowances_6, wSeq, wFor, wiKeys]
  refine wv (d := .dic (dps ps)) rfl ?_
  simp only [frzOf]
  rw [keys_kv]
  have := great_go T N (E := { nx := w_greatest_allowances_5 (endsF q), rt := (endsF q).rt, bk := (endsF q).bk, ct := (endsF q).ct }) (ex := fun _ C fs ms => qx C fs ms) (M := ms ++ g0) (fun x3 x4 x5 x6 x7 g => by
    simp only [w_greatest_allowances_5, wRet]
    refine wv (d := .own (ms ++ g0).length) rfl ?_
    have := k (ms ++ g0).length (g0 ++ [.dic (kvD id (planL ps nd))] ++ g) (by simp) (by
      have := mid_at (M := ms ++ g0) (g := g) (c := .dic (kvD id (planL ps nd)))
      simpa using this)
    simpa using this) (ks ps) [] rfl none none none none none []
  rw [List.append_nil] at this
  exact this
end K69
namespace Sy
open PySem PySem.Spec PyProof.Rows L2
theorem cut_drop {ds : List Dat} {m : Nat} : cutD ds (some (m : Int)) none = ds.drop m := by
  unfold cutD
  rw [HT.sIx_none, HT.sIx_nat]
  rcases Nat.le_total m ds.length with h | h
  · rw [Nat.min_eq_left h, List.take_of_length_le (by simp)]
  · rw [Nat.min_eq_right h, List.drop_of_length_le h, List.drop_of_length_le (Nat.le_refl _)]; simp
theorem dict_look {α : Type} {f : α → Dat} {l : List (Str × α)} {r : Dat} {ms : Ms} {k : KR} (nd : (l.map (·.1)).Nodup) (hd : dicOf ms r = none) (hl : look ms r = some (.lst (l.map fun p => .tup [.str p.1, f p.2]))) (hk : k (.own ms.length) (ms ++ [.dic (kvD f l)])) : wDictOf [r] ms k := by
  simp only [wDictOf, hd, hl, pairs_kv]
  rw [mergeD_nd (by simpa using nd_kv nd), List.nil_append]
  exact hk
theorem forW_ind {wg : WG} {wb : WS} {E : WEnds} {I : List Dat → Env → Ms → Prop}
    (step : ∀ d ds ρ ms, I (d :: ds) ρ ms → ∀ F : Env → Ms → Prop, (∀ ρ' ms', I ds ρ' ms' → F ρ' ms') → wg d ρ ms fun ρ1 ms1 => wb { nx := F, ct := F, bk := E.nx, rt := E.rt } ρ1 ms1)
    (fin : ∀ ρ ms, I [] ρ ms → E.nx ρ ms) : ∀ ds ρ ms, I ds ρ ms → forW wg wb E ds ρ ms
  | [], ρ, ms, h => fin ρ ms h
  | d :: ds, ρ, ms, h => step d ds ρ ms h _ fun ρ' ms' h' => forW_ind step fin ds ρ' ms' h'
theorem mid0 {M : Ms} {c : Cell} : (M ++ [c])[M.length]? = some c := by simp
theorem mid0s {M : Ms} {c c' : Cell} : (M ++ [c]).set M.length c' = M ++ [c'] := by simp
theorem atD_nat {ds : List Dat} {m : Nat} {d : Dat} (h : ds[m]? = some d) : atD ds (m : Int) = some d := by
  have hl := (List.getElem?_eq_some_iff.mp h).1
  unfold atD ixN
  rw [if_pos (by omega), if_pos (by omega)]
  simpa using h
end Sy
namespace K69
open PySem PySem.Spec PyProof.Rows L2 Sy
theorem nms_nd : nms.Nodup := by decide +kernel
theorem pos_at {i : Nat} {x : PySem.Str} (h : nms[i]? = some x) : pos x = i := by
  have hl := (List.getElem?_eq_some_iff.mp h)
  obtain ⟨h1, h2⟩ := hl
  unfold pos
  rw [← h2]
  exact List.Nodup.idxOf_getElem nms_nd i h1
def tpP (p : PySem.Str × PySem.Str) : Dat := .tup [.str p.1, .str p.2]
structure PlOk (L : List PySem.Str) (i : Nat) (pl : List (PySem.Str × PySem.Str)) : Prop where
  ke : ks pl = L.take i
  par : ∀ p ∈ pl, p.2 = stor ∨ (p.2 ∈ ks pl ∧ pos p.2 < pos p.1)
section
variable {j : Nat} {ms : Ms} {L : List PySem.Str} {c : Nat} (hj : j < ms.length) (hL : L = nms.take c)
include hj hL
theorem tree_go {E : WEnds} {ex : KX} {x1 x5 : Option Dat} (hE : ∀ pl x4 x6 n s, PlOk L L.length pl → SrcOk n s → E.nx ⟨[some (.own j), x1, some (.lst (L.map .str)), some (.own ms.length), x4, x5, x6], ex, Str.empty, []⟩ (ms.set j (src n s) ++ [.lst (pl.map tpP)]))
    {x4 x6 : Option Dat} {n s : Int} (so : SrcOk n s) :
      forW (wgName 4) w__law_tree_2 E ((List.range' 0 L.length).map fun (m : Nat) => .int (m : Nat)) ⟨[some (.own j), x1, some (.lst (L.map .str)), some (.own ms.length), x4, x5, x6], ex, Str.empty, []⟩ (ms.set j (src n s) ++ [.lst []]) := by
  have hz := size_big
  have hLl : L.length ≤ 11 := by rw [hL, List.length_take]; exact Nat.min_le_right _ _
  have hLa : ∀ i x, L[i]? = some x → nms[i]? = some x := fun i x h => by
    rw [hL, List.getElem?_take] at h
    split at h
    · exact h
    · cases h
  refine forW_ind (I := fun ds ρ m => ∃ (i k : Nat) (pl : List (PySem.Str × PySem.Str)) (x4 x6 : Option Dat) (n s : Int), ds = (List.range' i k).map (fun (m : Nat) => Dat.int (m : Nat)) ∧ i + k = L.length ∧ PlOk L i pl ∧ SrcOk n s ∧ ρ = ⟨[some (.own j), x1, some (.lst (L.map .str)), some (.own ms.length), x4, x5, x6], ex, Str.empty, []⟩ ∧ m = ms.set j (src n s) ++ [.lst (pl.map tpP)])
    ?_ ?_ _ _ _ ⟨0, L.length, [], x4, x6, n, s, rfl, by omega, ⟨by simp, by simp⟩, so, rfl, rfl⟩
  · rintro d ds _ _ ⟨i, k, pl, x4, x6, n, s, e, hi, ok, so, rfl, rfl⟩ F hF
    cases k with
    | zero => cases e
    | succ k =>
      rw [List.range'_succ, List.map_cons] at e
      injection e with e1 e2
      subst e1 e2
      have hil : i < L.length := by omega
      have hplen : pl.length = i := by
        have := congrArg List.length ok.ke
        simp at this; omega
      show w__law_tree_2 _ ⟨[some (.own j), x1, some (.lst (L.map .str)), some (.own ms.length), some (.int (i : Nat)), x5, x6], ex, Str.empty, []⟩ _
      simp only [w__law_tree_2, wSeq, wAsg, wCall, wCons, wNil, wOp]
      refine wv (d := .own j) rfl ?_
      refine wv (d := .int (i : Nat)) rfl ?_
      simp only [wC, wAdd, look]
      refine ⟨j, n, s, _, rfl, at_set hj, so, by omega, ?_, fun r n1 s1 r0 r1 so1 => ?_⟩
      · have : (((i : Nat) : Int) + 1).natAbs ≤ 12 := by omega
        exact Nat.lt_of_le_of_lt (Nat.log2_le_self _) (by omega)
      rw [set_set hj]
      obtain ⟨x, hx⟩ : ∃ x, L[i]? = some x := ⟨L[i], List.getElem?_eq_getElem hil⟩
      have hx4 : atD (L.map Dat.str) (i : Nat) = some (.str x) := atD_nat (by rw [List.getElem?_map, hx]; rfl)
      have px := pos_at (hLa i x hx)
      have hm : ∀ c : Cell, (ms.set j (src n1 s1) ++ [c])[ms.length]? = some c := fun c => by
        have := mid0 (M := ms.set j (src n1 s1)) (c := c)
        simpa using this
      have hst : ∀ c c' : Cell, (ms.set j (src n1 s1) ++ [c]).set ms.length c' = ms.set j (src n1 s1) ++ [c'] := fun c c' => by
        have := mid0s (M := ms.set j (src n1 s1)) (c := c) (c' := c')
        simpa using this
      have fin : ∀ y, (y = stor ∨ (y ∈ L.take i ∧ pos y < i)) → [Dat.str x, .str y].length ≤ sizeLine ∧ (match (ms.set j (src n1 s1) ++ [Cell.lst (pl.map tpP)])[ms.length]? with
          | some (.lst ds) => ds.length < sizeLine ∧ F ⟨[some (.own j), x1, some (.lst (L.map .str)), some (.own ms.length), some (.int (i : Nat)), x5, some (.int r)], ex, Str.empty, []⟩ ((ms.set j (src n1 s1) ++ [Cell.lst (pl.map tpP)]).set ms.length (.lst (ds ++ [.tup [.str x, .str y]])))
          | _ => False) := by
        intro y hy
        rw [hm]
        refine ⟨by simp; omega, by simp; omega, ?_⟩
        rw [hst]
        refine hF _ _ ⟨i + 1, k, pl ++ [(x, y)], _, _, n1, s1, rfl, by omega, ⟨?_, fun p hp => ?_⟩, so1, rfl, by simp [tpP]⟩
        · show (pl ++ [(x, y)]).map (·.1) = _
          rw [List.map_append, List.take_add_one, hx]
          have := ok.ke
          simp only [ks] at this
          rw [this]; rfl
        · have up : ∀ z, z ∈ ks pl → z ∈ ks (pl ++ [(x, y)]) := fun z hz => by
            show z ∈ (pl ++ [(x, y)]).map (·.1)
            rw [List.map_append]; exact List.mem_append_left _ hz
          rcases List.mem_append.mp hp with hp | hp
          · exact (ok.par p hp).imp id fun h => ⟨up _ h.1, h.2⟩
          · rw [List.mem_singleton.mp hp]
            refine hy.imp id fun h => ⟨up _ (by rw [ok.ke]; exact h.1), ?_⟩
            rw [px]; exact h.2
      simp only [wgName, Env.put, List.set, w__law_tree_1, wDrop, wApp]
      refine wv (d := .own ms.length) rfl ?_
      simp only [hm]
      simp only [wTup, wCons, wNil, wOp]
      refine wv (d := .lst (L.map .str)) rfl ?_
      refine wv (d := .int (i : Nat)) rfl ?_
      simp only [wIxA, dicOf, wIx, look, hx4]
      simp only [wIf, wBt, wOp]
      refine wv (d := .int r) rfl ?_
      simp only [wC, wGt, wOrd, look]
      by_cases h : 0 < r
      · simp only [h, decide_true, if_true]
        refine wv (d := .lst (L.map .str)) rfl ?_
        refine wv (d := .int r) rfl ?_
        have hr : (r - 1).toNat < i := by omega
        obtain ⟨y, hy⟩ : ∃ y, L[(r - 1).toNat]? = some y := ⟨L[(r - 1).toNat]'(by omega), List.getElem?_eq_getElem (by omega)⟩
        have hy4 : atD (L.map Dat.str) (r - 1) = some (.str y) := by
          have := atD_nat (ds := L.map Dat.str) (m := (r - 1).toNat) (d := .str y) (by rw [List.getElem?_map, hy]; rfl)
          rw [show (((r - 1).toNat : Nat) : Int) = r - 1 by omega] at this
          exact this
        simp only [wI0, wIxA, wIx, dicOf, look, hy4]
        have py := pos_at (hLa _ y hy)
        refine fin y (.inr ⟨?_, by omega⟩)
        rw [List.mem_iff_getElem?]
        exact ⟨(r - 1).toNat, by rw [List.getElem?_take, if_pos hr]; exact hy⟩
      · simp only [h, decide_false, Bool.false_eq_true, if_false]
        exact fin stor (.inl rfl)
  · rintro _ _ ⟨i, k, pl, x4, x6, n, s, e, hi, ok, so, rfl, rfl⟩
    cases k with
    | zero =>
      rw [show L.length = i by omega] at hE
      exact hE pl x4 x6 n s ok so
    | succ k => rw [List.range'_succ] at e; cases e
end
theorem shuf {pl : List (PySem.Str × PySem.Str)} {a : Nat} : (pl.drop a ++ pl.take a).Perm pl := List.perm_append_comm.trans (by rw [List.take_append_drop])
theorem shuf2 {pl : List (PySem.Str × PySem.Str)} {a : Nat} : (pl.take a ++ (pl.drop a).reverse).Perm pl := ((List.reverse_perm _).append_left _).trans (by rw [List.take_append_drop])
theorem tree_of {L : List PySem.Str} {c : Nat} (hL : L = nms.take c) (hc : 1 ≤ c) {pl pl' : List (PySem.Str × PySem.Str)} (ok : PlOk L L.length pl) (hp : pl'.Perm pl) : TreeOk pl' ∧ pl'.length = L.length := by
  have ke : ks pl = L := by rw [ok.ke, List.take_length]
  have hm := hp.map (·.1)
  have hl : pl'.length = L.length := by
    rw [hp.length_eq]
    have := congrArg List.length ke
    simpa using this
  have hLl : L.length ≤ 11 := by rw [hL, List.length_take]; exact Nat.min_le_right _ _
  have hL0 : 1 ≤ L.length := by rw [hL, List.length_take]; simp [nms]; omega
  have hsub : ∀ x ∈ L, x ∈ nms := fun x hx => by rw [hL] at hx; exact List.mem_of_mem_take hx
  refine ⟨⟨fun e => ?_, by omega, ?_, fun x hx => ?_, fun p hpp => ?_⟩, hl⟩
  · rw [e] at hl; simp at hl; omega
  · refine hm.nodup_iff.mpr ?_
    have := ke
    simp only [ks] at this
    rw [this, hL]
    exact (List.take_sublist _ _).nodup nms_nd
  · have := hm.mem_iff.mp hx
    have ke' : pl.map (·.1) = L := ke
    rw [ke'] at this
    exact hsub x this
  · exact (ok.par p (hp.mem_iff.mp hpp)).imp id fun h => ⟨hm.mem_iff.mpr h.1, h.2⟩
theorem p__law_tree : ∀ rs ms q qx, R__law_tree rs ms q qx → w__law_tree (endsF q) (startE N__law_tree rs qx) ms := by
  rintro rs ms q qx ⟨j, n, s, mo, rfl, hj0, so, m1, m2, k⟩
  have hz := size_big
  have hj := lt_of_at hj0
  show w__law_tree (endsF q) ⟨[some (.own j), some (.int mo), none, none, none, none, none], fun _ C fs ms => qx C fs ms, Str.empty, []⟩ ms
  simp only [w__law_tree, wSeq, wAsg, wSl, wLst, wCons, wC, wNil, wNoPart, wPart, wOp, wCall]
  refine ⟨by simp; omega, ?_⟩
  refine wv (d := .own j) rfl ?_
  refine wv (d := .int mo) rfl ?_
  refine ⟨j, n, s, mo, rfl, hj0, so, by omega, ?_, fun r n1 s1 r0 r3 so1 => ?_⟩
  · have : mo.natAbs ≤ 11 := by omega
    exact Nat.lt_of_le_of_lt (Nat.log2_le_self _) (by omega)
  have hc : cutD [Dat.str "d", .str "b", .str "a", .str "c", .str "f", .str "e", .str "h", .str "g", .str "k", .str "i", .str "j"] none (some (1 + r)) = (nms.take (1 + r.toNat)).map .str := by
    rw [show (1 + r) = ((1 + r.toNat : Nat) : Int) by omega, cut_take, List.map_take]
    rfl
  show w__law_tree_8 (endsF q) ⟨[some (.own j), some (.int mo), some (.lst (cutD [Dat.str "d", .str "b", .str "a", .str "c", .str "f", .str "e", .str "h", .str "g", .str "k", .str "i", .str "j"] none (some (1 + r)))), none, none, none, none], fun _ C fs ms => qx C fs ms, Str.empty, []⟩ _
  rw [hc]
  generalize hL : nms.take (1 + r.toNat) = L
  have hLl : L.length ≤ 11 ∧ (L.length : Int) ≤ mo := by
    rw [← hL, List.length_take]
    have : nms.length = 11 := rfl
    omega
  simp only [w__law_tree_8, wSeq, wAsg, wLstO, wNil]
  refine ⟨by simp, ?_⟩
  show w__law_tree_7 (endsF q) ⟨[some (.own j), some (.int mo), some (.lst (L.map .str)), some (.own (ms.set j (src n1 s1)).length), none, none, none], fun _ C fs ms => qx C fs ms, Str.empty, []⟩ (ms.set j (src n1 s1) ++ [.lst []])
  rw [List.length_set]
  simp only [w__law_tree_7, wSeq, wFor, wiRng1, wCons, wNil, wCB]
  refine wv (d := .lst (L.map .str)) rfl ?_
  simp only [wLenA, dicOf, wLen, look, List.length_map]
  refine ⟨by omega, by omega, ?_⟩
  have er : ∀ m : Nat, rngD 0 ((m : Nat) : Int).toNat = (List.range' 0 m).map fun (m : Nat) => .int (m : Nat) := fun m => by
    unfold rngD
    rw [Int.toNat_natCast, List.range_eq_range']
    simp
  rw [er]
  refine tree_go (c := 1 + r.toNat) hj hL.symm (fun pl x4 x6 n2 s2 ok so2 => ?_) so1
  have hm : ∀ n s, (ms.set j (src n s) ++ [Cell.lst (pl.map tpP)])[ms.length]? = some (.lst (pl.map tpP)) := fun n s => by
    have := mid0 (M := ms.set j (src n s)) (c := Cell.lst (pl.map tpP))
    simpa using this
  have hpl : pl.length = L.length := (tree_of hL.symm (by omega) ok (List.Perm.refl _)).2
  have t5 : ∀ (rr : Dat) (pl' : List (PySem.Str × PySem.Str)) x4 x5 x6 n s, pl'.Perm pl → SrcOk n s → dicOf (ms.set j (src n s) ++ [.lst (pl.map tpP)]) rr = none → look (ms.set j (src n s) ++ [.lst (pl.map tpP)]) rr = some (.lst (pl'.map tpP)) → w__law_tree_5 (endsF q) ⟨[some (.own j), some (.int mo), some (.lst (L.map .str)), some rr, x4, x5, x6], fun _ C fs ms => qx C fs ms, Str.empty, []⟩ (ms.set j (src n s) ++ [.lst (pl.map tpP)]) := by
    intro rr pl' x4 x5 x6 n s hp so hd hl
    obtain ⟨T, hlen⟩ := tree_of hL.symm (by omega) ok hp
    simp only [w__law_tree_5, wRet, wFix_eq, wCB, wCons, wNil]
    refine wv (d := rr) rfl ?_
    refine dict_look (f := .str) (l := pl') T.nd hd hl ?_
    refine fixK_dic ?_
    rw [List.append_assoc]
    exact k pl' n s _ T (by omega) so
  show w__law_tree_6 (endsF q) ⟨[some (.own j), some (.int mo), some (.lst (L.map .str)), some (.own ms.length), x4, none, x6], fun _ C fs ms => qx C fs ms, Str.empty, []⟩ _
  simp only [w__law_tree_6, wSeq, wFor, wiRng1, wCons, wNil, wCB]
  refine wv (d := .own ms.length) rfl ?_
  simp only [wLenA, dicOf, wLen, look, hm, Option.bind_some, cellD, List.length_map]
  refine ⟨by omega, by omega, ?_⟩
  refine forW_inv (I := fun ρ m => ∃ (rr : Dat) (pl' : List (PySem.Str × PySem.Str)) (x4 x5 x6 : Option Dat) (n s : Int), pl'.Perm pl ∧ SrcOk n s ∧ dicOf (ms.set j (src n s) ++ [.lst (pl.map tpP)]) rr = none ∧ look (ms.set j (src n s) ++ [.lst (pl.map tpP)]) rr = some (.lst (pl'.map tpP)) ∧ (rr = .own ms.length ∨ rr = .lst (pl'.map tpP)) ∧ ρ = ⟨[some (.own j), some (.int mo), some (.lst (L.map .str)), some rr, x4, x5, x6], fun _ C fs ms => qx C fs ms, Str.empty, []⟩ ∧ m = ms.set j (src n s) ++ [.lst (pl.map tpP)])
    (D := fun d => ∃ i : Int, d = .int i) ?_ ?_ _ (fun d hd => ?_) _ _ ⟨.own ms.length, pl, x4, none, x6, n2, s2, List.Perm.refl _, so2, by simp only [dicOf, hm], by simp only [look, hm, Option.bind_some, cellD], .inl rfl, rfl, rfl⟩
  · rintro _ ⟨i, rfl⟩ _ _ ⟨rr, pl', x4, x5, x6, n, s, hp, so, hd, hl, hrr, rfl, rfl⟩ F hF
    show w__law_tree_4 _ ⟨[some (.own j), some (.int mo), some (.lst (L.map .str)), some rr, x4, some (.int i), x6], fun _ C fs ms => qx C fs ms, Str.empty, []⟩ _
    have hpl' : pl'.length = L.length := by rw [hp.length_eq]; exact hpl
    have hL0 : 1 ≤ L.length := by rw [← hL, List.length_take]; simp [nms]; omega
    have back : ∀ n s, dicOf (ms.set j (src n s) ++ [.lst (pl.map tpP)]) rr = none ∧ look (ms.set j (src n s) ++ [.lst (pl.map tpP)]) rr = some (.lst (pl'.map tpP)) := fun n' s' => by
      rcases hrr with rfl | rfl
      · have e2 : pl.map tpP = pl'.map tpP := by simpa only [look, hm, Option.bind_some, cellD, Option.some.injEq, Dat.lst.injEq] using hl
        exact ⟨by simp only [dicOf, hm], by rw [← e2]; simp only [look, hm, Option.bind_some, cellD]⟩
      · exact ⟨rfl, rfl⟩
    simp only [w__law_tree_4, wSeq, wAsg, wCall, wCons, wNil, wCB]
    refine wv (d := .own j) rfl ?_
    refine wv (d := rr) rfl ?_
    simp only [wLenA, hd, wLen, hl, List.length_map]
    refine ⟨j, n, s, _, rfl, at_set hj, so, by omega, ?_, fun r2 n3 s3 r20 r21 so3 => ?_⟩
    · have : (((pl'.length : Nat) : Int)).natAbs ≤ 11 := by omega
      exact Nat.lt_of_le_of_lt (Nat.log2_le_self _) (by omega)
    rw [set_set hj]
    obtain ⟨b1, b2⟩ := back n3 s3
    have fin : ∀ pl2 : List (PySem.Str × PySem.Str), pl2.Perm pl' → F ⟨[some (.own j), some (.int mo), some (.lst (L.map .str)), some (.lst (pl2.map tpP)), some (.int r2), some (.int i), x6], fun _ C fs ms => qx C fs ms, Str.empty, []⟩ (ms.set j (src n3 s3) ++ [.lst (pl.map tpP)]) := fun pl2 h2 => hF _ _ ⟨_, pl2, _, _, _, n3, s3, h2.trans hp, so3, rfl, rfl, .inr rfl, rfl, rfl⟩
    have er2 : r2 = ((r2.toNat : Nat) : Int) := by omega
    simp only [wgName, Env.put, List.set, w__law_tree_3, wAsg, wIf, wBt, wOp]
    refine wv (d := .int i) rfl ?_
    simp only [wC, wII]
    refine ⟨by decide, ?_⟩
    refine eqI ?_
    have d1 : cutD (pl'.map tpP) (some r2) none = (pl'.drop r2.toNat).map tpP := by rw [er2, cut_drop, List.map_drop]; rfl
    have d2 : cutD (pl'.map tpP) none (some r2) = (pl'.take r2.toNat).map tpP := by rw [er2, cut_take, List.map_take]; rfl
    by_cases e : i % 2 = 0
    · simp only [e, decide_true, if_true, wSl, wPart, wNoPart]
      refine wv (d := rr) rfl ?_
      refine wv (d := .int r2) rfl ?_
      simp only [b2, d1]
      refine wv (d := rr) rfl ?_
      refine wv (d := .int r2) rfl ?_
      simp only [b2, d2]
      simp only [wAdd, look]
      refine ⟨by simp; omega, ?_⟩
      have := fin (pl'.drop r2.toNat ++ pl'.take r2.toNat) shuf
      rw [List.map_append] at this
      exact this
    · simp only [e, decide_false, Bool.false_eq_true, if_false, wSl, wPart, wNoPart, wRev]
      refine wv (d := rr) rfl ?_
      refine wv (d := .int r2) rfl ?_
      simp only [b2, d2]
      refine wv (d := rr) rfl ?_
      refine wv (d := .int r2) rfl ?_
      simp only [b2, d1]
      simp only [wAdd, look]
      refine ⟨by simp; omega, ?_⟩
      have := fin (pl'.take r2.toNat ++ (pl'.drop r2.toNat).reverse) shuf2
      rw [List.map_append, List.map_reverse] at this
      exact this
  · rintro _ _ ⟨rr, pl', x4, x5, x6, n, s, hp, so, hd, hl, _, rfl, rfl⟩
    exact t5 rr pl' x4 x5 x6 n s hp so hd hl
  · obtain ⟨i, _, rfl⟩ := rngD_mem hd
    exact ⟨_, rfl⟩
theorem p__law_needs : ∀ rs ms q qx, R__law_needs rs ms q qx → w__law_needs (endsF q) (startE N__law_needs rs qx) ms := by
  rintro rs ms q qx ⟨j, n, s, ps, mo, rfl, hj0, so, T, m1, m2, k⟩
  have hz := size_big
  have hj := lt_of_at hj0
  have hpl := T.len
  have em : ms = ms.set j (src n s) := by
    have : ms[j] = src n s := (List.getElem?_eq_some_iff.mp hj0).2
    rw [← this]; simp
  show w__law_needs (endsF q) ⟨[some (.own j), some (.dic (dps ps)), some (.int mo), none, none], fun _ C fs ms => qx C fs ms, Str.empty, []⟩ ms
  simp only [w__law_needs, wSeq, wAsg, wDNew]
  show w__law_needs_3 (endsF q) ⟨[some (.own j), some (.dic (dps ps)), some (.int mo), some (.own ms.length), none], fun _ C fs ms => qx C fs ms, Str.empty, []⟩ (ms ++ [.dic []])
  simp only [w__law_needs_3, wSeq, wFor, wiKeys]
  refine wv (d := .dic (dps ps)) rfl ?_
  simp only [frzOf]
  rw [keys_kv]
  have hm : ∀ n s (c : Cell), (ms.set j (src n s) ++ [c])[ms.length]? = some c := fun n s c => by
    have := mid0 (M := ms.set j (src n s)) (c := c)
    simpa using this
  have hst : ∀ n s (c c' : Cell), (ms.set j (src n s) ++ [c]).set ms.length c' = ms.set j (src n s) ++ [c'] := fun n s c c' => by
    have := mid0s (M := ms.set j (src n s)) (c := c) (c' := c')
    simpa using this
  refine forW_ind (I := fun ds ρ m => ∃ (suf pre : List PySem.Str) (nd : List (PySem.Str × Int)) (x4 : Option Dat) (n s : Int), ds = suf.map Dat.str ∧ ks ps = pre ++ suf ∧ (ks nd).Nodup ∧ (∀ x ∈ ks nd, x ∈ pre) ∧ (∀ p ∈ nd, 1 ≤ p.2 ∧ p.2 ≤ 99) ∧ nd.length ≤ pre.length ∧ SrcOk n s ∧ ρ = ⟨[some (.own j), some (.dic (dps ps)), some (.int mo), some (.own ms.length), x4], fun _ C fs ms => qx C fs ms, Str.empty, []⟩ ∧ m = ms.set j (src n s) ++ [.dic (dnd nd)])
    ?_ ?_ _ _ _ ⟨ks ps, [], [], none, n, s, rfl, rfl, by simp, by simp, by simp, by simp, so, rfl, by rw [← em]; rfl⟩
  · rintro d ds _ _ ⟨suf, pre, nd, x4, n, s, e, hp, h1, h2, h3, h4, so, rfl, rfl⟩ F hF
    cases suf with
    | nil => cases e
    | cons x suf =>
      injection e with e1 e2
      subst e1 e2
      have hpre : pre.length ≤ 11 := by
        have := congrArg List.length hp
        simp at this; omega
      have hx : x ∉ pre := by
        have := T.nd
        rw [hp, List.nodup_append] at this
        exact fun z => this.2.2 x z x (by simp) rfl
      show w__law_needs_1 _ ⟨[some (.own j), some (.dic (dps ps)), some (.int mo), some (.own ms.length), some (.str x)], fun _ C fs ms => qx C fs ms, Str.empty, []⟩ _
      simp only [w__law_needs_1, wIfS, wBt, wOp, wCall, wCons, wNil]
      refine wv (d := .own j) rfl ?_
      refine ⟨j, n, s, 2, rfl, at_set hj, so, by decide, by decide, fun r n1 s1 r0 r1 so1 => ?_⟩
      rw [set_set hj]
      refine wc (eqI ?_)
      by_cases h : r = 0
      · simp only [h, decide_true, if_true, wAsg, wOp, wCall, wCons, wNil]
        refine wc ?_
        refine wv (d := .own j) rfl ?_
        refine wv (d := .int mo) rfl ?_
        refine ⟨j, n1, s1, mo, rfl, at_set hj, so1, by omega, ?_, fun r2 n2 s2 r20 r21 so2 => ?_⟩
        · have : mo.natAbs ≤ 99 := by omega
          exact Nat.lt_of_le_of_lt (Nat.log2_le_self _) (by omega)
        rw [set_set hj]
        simp only [wAdd, look, wgSub]
        refine wv (d := .own ms.length) rfl ?_
        refine wv (d := .str x) rfl ?_
        simp only [hm, keyD]
        refine ⟨by simp [kvD]; omega, ?_⟩
        rw [hst]
        have hxn : x ∉ nd.map (·.1) := fun z => hx (h2 x z)
        rw [setK_new (f := Dat.int) hxn]
        refine hF _ _ ⟨suf, pre ++ [x], nd ++ [(x, 1 + r2)], _, n2, s2, rfl, by rw [hp]; simp, ?_, fun y hy => ?_, fun p hp => ?_, by simp; omega, so2, rfl, rfl⟩
        · show ((nd ++ [(x, 1 + r2)]).map (·.1)).Nodup
          rw [List.map_append, List.nodup_append]
          refine ⟨h1, by simp, fun a ha b hb e => hxn ?_⟩
          rw [show b = x by simpa using hb] at e
          rw [← e]; exact ha
        · have hy : y ∈ (nd ++ [(x, 1 + r2)]).map (·.1) := hy
          rw [List.map_append] at hy
          rcases List.mem_append.mp hy with hy | hy
          · exact List.mem_append_left _ (h2 y hy)
          · simp at hy; subst hy; simp
        · rcases List.mem_append.mp hp with hp | hp
          · exact h3 p hp
          · rw [List.mem_singleton.mp hp]; exact ⟨show 1 ≤ 1 + r2 by omega, show 1 + r2 ≤ 99 by omega⟩
      · simp only [h, decide_false, Bool.false_eq_true, if_false, wNext]
        exact hF _ _ ⟨suf, pre ++ [x], nd, _, n1, s1, rfl, by rw [hp]; simp, h1, fun y hy => List.mem_append_left _ (h2 y hy), h3, by simp; omega, so1, rfl, rfl⟩
  · rintro _ _ ⟨suf, pre, nd, x4, n, s, e, hp, h1, h2, h3, h4, so, rfl, rfl⟩
    have : suf = [] := by simpa using e.symm
    subst this
    rw [List.append_nil] at hp
    simp only [w__law_needs_2, wRet, wFix_eq]
    refine wv (d := .own ms.length) rfl ?_
    refine fixK_at (hm n s _) (.inr (.inr ⟨_, rfl, rfl⟩)) ?_
    rw [hst]
    exact k nd n s _ ⟨h1, fun x hx => by rw [hp]; exact h2 x hx, fun p hp => (h3 p hp).1, fun p hp => (h3 p hp).2⟩ so
end K69
namespace Sy
open PySem PySem.Spec PyProof.Rows L2
theorem any_map {α : Type} {l : List α} {f : α → Bool} {ms : Ms} {k : KR} (h : k (.bl (l.any f)) ms) : wAnyL [.lst (l.map fun x => Dat.bl (f x))] ms k :=
  ⟨l.map f, by simp, by simpa [List.any_map] using h⟩
theorem eqvAll_strs : ∀ {a b : List Str}, PyData.eqvAll (toPys (a.map .str)) (toPys (b.map .str)) = decide (a = b)
  | [], [] => by simp
  | [], _ :: _ => by simp
  | _ :: _, [] => by simp
  | x :: a, y :: b => by
    have ih := eqvAll_strs (a := a) (b := b)
    rw [Bool.eq_iff_iff] at ih ⊢
    simp at ih
    simp [ih]
theorem neLs {a b : List Str} {ms : Ms} {k : KR} (sa : plain (.lst (a.map .str)) = true ∧ SeqAt.shaped (toPy (.lst (a.map .str))) = true) (sb : plain (.lst (b.map .str)) = true ∧ SeqAt.shaped (toPy (.lst (b.map .str))) = true) (h : k (.bl (!decide (a = b))) ms) : wNe (.lst (a.map .str)) (.lst (b.map .str)) ms k := by
  refine ⟨_, _, rfl, rfl, sa.1, sb.1, sa.2, sb.2, ?_⟩
  have e : PyData.eqv (toPy (.lst (a.map .str))) (toPy (.lst (b.map .str))) = decide (a = b) := by
    rw [← eqvAll_strs]
    simp
  rw [e]; exact h
theorem eqv_nilS {l : List Str} : PyData.eqv (toPy (.lst (l.map .str))) (toPy (.lst [])) = decide (l = []) := by
  cases l with
  | nil => simp
  | cons a l => simp [PyData.eqv]
end Sy
namespace K69
open PySem PySem.Spec PyProof.Rows L2 Sy
theorem sh_strs {ws : List PySem.Str} (h : ∀ x ∈ ws, SeqAt.shaped (.str x) = true) : Sy.plain (.lst (ws.map .str)) = true ∧ SeqAt.shaped (toPy (.lst (ws.map .str))) = true := by
  have f : fine 2 (.lst (ws.map .str)) := fine_lst fun d hd => by
    obtain ⟨i, hi, rfl⟩ := List.mem_map.mp hd
    exact fine_leaf (by decide) (h i hi)
  exact ⟨f.1, f.shaped (by decide)⟩
/-! the names' reprs -/
def rp (x : PySem.Str) : PySem.Str := PyData.shown (.str x)
theorem rp_tab : (nmsX.all fun x => (PyData.str x).showable && decide ((PyData.str x).depth ≤ 64) && !(PyData.str x).hasDict && decide ((rp x).length ≤ 1000) && SeqAt.shaped (.str (rp x)) && SeqAt.shaped (.str x)) = true := by decide +kernel
theorem rp_ok {x : PySem.Str} (h : x ∈ nmsX) : (PyData.str x).showable = true ∧ (PyData.str x).depth ≤ 64 ∧ (PyData.str x).hasDict = false ∧ (rp x).length ≤ 1000 ∧ SeqAt.shaped (.str (rp x)) = true ∧ SeqAt.shaped (.str x) = true := by
  have := List.all_eq_true.mp rp_tab x h
  simp only [Bool.and_eq_true, decide_eq_true_eq, Bool.not_eq_true'] at this
  exact ⟨this.1.1.1.1.1, this.1.1.1.1.2, this.1.1.1.2, this.1.1.2, this.1.2, this.2⟩
theorem rp_inj_tab : (nmsX.all fun x => nmsX.all fun y => decide (rp x = rp y → x = y)) = true := by decide +kernel
theorem rp_inj {x y : PySem.Str} (hx : x ∈ nmsX) (hy : y ∈ nmsX) (e : rp x = rp y) : x = y := by
  have := List.all_eq_true.mp (List.all_eq_true.mp rp_inj_tab x hx) y hy
  exact of_decide_eq_true this e
theorem rp_call {x : PySem.Str} (h : x ∈ nmsX) {ms : Ms} {k : KR} (hk : k (.str (rp x)) ms) : wReprF [.str x] ms k := by
  have hz := size_big
  obtain ⟨h1, h2, h3, h4, h5⟩ := rp_ok h
  simp only [wReprF, isCont, Bool.false_eq_true, if_false, wReprA, dicOf]
  exact ⟨.str x, rfl, rfl, h1, h2, h3, Nat.le_trans h4 (by omega), hk⟩
theorem nms_X {x : PySem.Str} (h : x ∈ nms) : x ∈ nmsX := List.mem_cons_of_mem _ (List.mem_cons_of_mem _ h)
/-! allowances that are all right for themselves -/
structure AlX (ps : List (PySem.Str × PySem.Str)) (al : List (PySem.Str × Int)) : Prop where
  nd : (ks al).Nodup
  ke : ∀ x, x ∈ ks al ↔ x ∈ ks ps
  low : ∀ p ∈ al, 1 ≤ p.2
  high : ∀ p ∈ al, p.2 ≤ 99
  len : al.length ≤ 20
def Srv (ps : List (PySem.Str × PySem.Str)) (nd al : List (PySem.Str × Int)) : Prop := (∀ x ∈ ks ps, val stor ps x ≠ stor → val 0 al (val stor ps x) ≤ val 0 al x) ∧ ∀ p ∈ nd, val 0 al p.1 ≤ p.2
section
variable {ps : List (PySem.Str × PySem.Str)} {nd : List (PySem.Str × Int)} (T : TreeOk ps) (N : NeedOk ps nd)
include T N
theorem good_al {kvs : List (PySem.Str × Dat)} (H : ThKv kvs) (ke : ∀ x, x ∈ ks kvs ↔ x ∈ ks ps) (rg : ∀ x ∈ ks ps, rangeB 1 99 (val .non kvs x) = true) : ∃ al, kvD id kvs = dnd al ∧ AlX ps al ∧ (Good ps nd kvs ↔ Srv ps nd al) := by
  let f : Dat → Int := fun d => match d with
    | .int i => i
    | _ => 0
  have hv : ∀ p ∈ kvs, p.2 = .int (f p.2) ∧ 1 ≤ f p.2 ∧ f p.2 ≤ 99 := by
    intro p hp
    have := rg p.1 ((ke p.1).mp (List.mem_map.mpr ⟨p, hp, rfl⟩))
    rw [val_mem H.nd hp] at this
    obtain ⟨a, b⟩ := p
    cases b <;> simp [rangeB] at this
    exact ⟨rfl, this⟩
  have hks : ks (kvs.map fun p => (p.1, f p.2)) = ks kvs := by simp [Function.comp_def]
  have hval : ∀ x ∈ ks kvs, val 0 (kvs.map fun p => (p.1, f p.2)) x = ival kvs x := by
    intro x hx
    obtain ⟨p, hp, e, ev⟩ := val_in (d := Dat.non) hx
    have h1 := val_mem (d := (0 : Int)) (l := kvs.map fun p => (p.1, f p.2)) (show (ks (kvs.map fun p => (p.1, f p.2))).Nodup by rw [hks]; exact H.nd) (p := (p.1, f p.2)) (List.mem_map.mpr ⟨p, hp, rfl⟩)
    rw [← e]
    rw [← e] at ev
    rw [h1]
    unfold ival
    rw [ev, (hv p hp).1]
  refine ⟨kvs.map fun p => (p.1, f p.2), ?_, ⟨by rw [hks]; exact H.nd, fun x => by rw [hks]; exact ke x, fun p hp => ?_, fun p hp => ?_, by simpa using H.len⟩, fun g => ⟨fun x hx hn => ?_, fun p hp => ?_⟩, fun s => ⟨ke, rg, fun x hx hn => ?_, fun p hp => ?_⟩⟩
  · simp only [kvD, List.map_map]
    refine List.map_congr_left fun p hp => ?_
    simp only [Function.comp, id]
    rw [← (hv p hp).1]
  · obtain ⟨r, hr, rfl⟩ := List.mem_map.mp hp
    exact (hv r hr).2.1
  · obtain ⟨r, hr, rfl⟩ := List.mem_map.mp hp
    exact (hv r hr).2.2
  · have hpx := (par_or T hx).resolve_left hn
    rw [hval x ((ke x).mpr hx), hval _ ((ke _).mpr hpx)]
    exact g.mono x hx hn
  · rw [hval _ ((ke _).mpr (N.mem _ (List.mem_map.mpr ⟨p, hp, rfl⟩)))]
    exact g.need p hp
  · have hpx := (par_or T hx).resolve_left hn
    have := s.1 x hx hn
    rw [hval x ((ke x).mpr hx), hval _ ((ke _).mpr hpx)] at this
    exact this
  · have := s.2 p hp
    rw [hval _ ((ke _).mpr (N.mem _ (List.mem_map.mpr ⟨p, hp, rfl⟩)))] at this
    exact this
end
section
variable {ps : List (PySem.Str × PySem.Str)} {nd al : List (PySem.Str × Int)} (T : TreeOk ps) (N : NeedOk ps nd) (A : AlX ps al) {q : KR} {qx : KXF} {ms : Ms}
include T N A
theorem al_mem {x : PySem.Str} (h : x ∈ ks ps) : x ∈ ks al := (A.ke x).mpr h
/-- serve, from the third test on -/
theorem sv_rest (g0 : Ms) (k1 : Srv ps nd al → ∀ g, q (.bl true) (ms ++ g)) (k0 : ¬ Srv ps nd al → ∀ g, q (.bl false) (ms ++ g)) :
    w_serve_3 (endsF q) ⟨[some (.dic (dps ps)), some (.dic (dnd nd)), some (.dic (dnd al)), none, none], fun _ C fs ms => qx C fs ms, Str.empty, []⟩ (ms ++ g0) := by
  have hz := size_big
  have hpl := T.len
  have hnl := nd_len T N
  have hal := A.len
  have han := A.nd
  have ham := fun x => al_mem T N A (x := x)
  have hst : stor ∉ ks al := fun h => key_ne T ((A.ke _).mp h) rfl
  have hup : ∀ x, x = stor ∨ x ∈ ks ps → x ∈ (al ++ [(stor, (0 : Int))]).map (·.1) := fun x h => by
    rcases h with rfl | h
    · simp
    · rw [List.map_append]; exact List.mem_append_left _ (ham x h)
  have hun : ((al ++ [(stor, (0 : Int))]).map (·.1)).Nodup := by
    rw [List.map_append, List.nodup_append]
    refine ⟨han, by simp, fun a ha b hb e => hst ?_⟩
    rw [show b = stor by simpa using hb] at e
    rw [← e]; exact ha
  have hpar : ∀ x ∈ ks ps, val stor ps x ≠ stor → val 0 (al ++ [(stor, (0 : Int))]) (val stor ps x) = val 0 al (val stor ps x) := fun x hx hn => by
    have h1 := key_at (d := (0 : Int)) han (ham _ ((par_or T hx).resolve_left hn))
    rw [val_mem hun (p := (val stor ps x, val 0 al (val stor ps x))) (List.mem_append_left _ h1)]
  have hpar0 : ∀ x ∈ ks ps, val stor ps x = stor → ¬ val 0 al x < val 0 (al ++ [(stor, (0 : Int))]) (val stor ps x) := fun x hx e => by
    rw [e, val_mem hun (p := (stor, 0)) (by simp)]
    have := A.low _ (key_at (d := (0 : Int)) han (ham x hx))
    have : (1 : Int) ≤ val 0 al x := this
    show ¬ val 0 al x < 0
    omega
  simp only [w_serve_3, wSeq, wAsg, wFix_eq, wSpr1]
  refine wv (d := .dic (dnd al)) rfl ?_
  simp only [dicOf, wPairs, wC, keyD]
  refine ⟨by simp [kvD]; omega, by simp, ?_⟩
  refine fixK_dic ?_
  have e : mergeD (dnd al) (mergeD [] [((Sum.inr (Str.ofString "store") : Key), Dat.int 0)]) = dnd (al ++ [(stor, 0)]) := by
    rw [mergeD_nd (acc := []) (by simp), List.nil_append, mergeD_nd]
    · simp [kvD]; rfl
    · have h1 := nd_kv (f := Dat.int) han
      rw [List.map_append, List.nodup_append]
      refine ⟨h1, by simp, fun a ha b hb e => hst ?_⟩
      have hb' : b = Sum.inr (Str.ofString "store") := by simpa using hb
      rw [hb'] at e
      subst e
      obtain ⟨p, hp, ep⟩ := List.mem_map.mp ha
      obtain ⟨r, hr, er⟩ := List.mem_map.mp hp
      rw [← er] at ep
      exact List.mem_map.mpr ⟨r, hr, Sum.inr.inj ep⟩
  rw [e, List.append_assoc]
  generalize g0 ++ [Cell.gone] = g1
  show w_serve_2 (endsF q) ⟨[some (.dic (dps ps)), some (.dic (dnd nd)), some (.dic (dnd al)), some (.dic (dnd (al ++ [(stor, 0)]))), none], fun _ C fs ms => qx C fs ms, Str.empty, []⟩ (ms ++ g1)
  simp only [w_serve_2, wSeq, wIfS, wBt, wCB, wCons, wNil, wLc, wiKeys]
  refine wv (d := .dic (dps ps)) rfl ?_
  simp only [frzOf]
  rw [keys_kv]
  refine lcW_M (xs := ks ps) (f := .str) (g := fun x => .bl (decide (val 0 al x < val 0 (al ++ [(stor, (0 : Int))]) (val stor ps x)))) ?_ (by simp; omega) ?_
  · intro x hx kk hk
    simp only [wgName, wOp]
    refine wv (d := .dic (dnd al)) rfl ?_
    refine wv (d := .str x) rfl ?_
    refine ixKv 0 (ham x hx) ?_
    refine wv (d := .dic (dnd (al ++ [(stor, 0)]))) rfl ?_
    refine wv (d := .dic (dps ps)) rfl ?_
    refine wv (d := .str x) rfl ?_
    refine ixKv stor hx ?_
    refine ixKv 0 (hup _ (par_or T hx)) ?_
    simp only [wLt, wOrd, look]
    exact hk
  · refine any_map ?_
    cases hb : (ks ps).any fun x => decide (val 0 al x < val 0 (al ++ [(stor, (0 : Int))]) (val stor ps x)) with
    | true =>
      simp only [if_true, wRet, wC]
      refine k0 (fun s => ?_) g1
      obtain ⟨x, hx, hlt⟩ := List.any_eq_true.mp hb
      have hlt := of_decide_eq_true hlt
      by_cases e : val stor ps x = stor
      · exact hpar0 x hx e hlt
      · rw [hpar x hx e] at hlt
        have := s.1 x hx e
        omega
    | false =>
      simp only [Bool.false_eq_true, if_false, wNext, w_serve_1, wRet, wCB, wCons, wNil, wLc, wiKeys]
      have V1 : ∀ x ∈ ks ps, val stor ps x ≠ stor → val 0 al (val stor ps x) ≤ val 0 al x := fun x hx hn => by
        have := List.any_eq_false.mp hb x hx
        rw [hpar x hx hn] at this
        simp at this
        exact this
      refine wv (d := .dic (dnd nd)) rfl ?_
      simp only [frzOf]
      rw [keys_kv]
      refine lcW_M (xs := ks nd) (f := .str) (g := fun x => .bl (decide (val 0 al x ≤ val 0 nd x))) ?_ (by simp; omega) ?_
      · intro x hx kk hk
        simp only [wgName, wOp]
        refine wv (d := .dic (dnd al)) rfl ?_
        refine wv (d := .str x) rfl ?_
        refine ixKv 0 (ham x (N.mem x hx)) ?_
        refine wv (d := .dic (dnd nd)) rfl ?_
        refine wv (d := .str x) rfl ?_
        refine ixKv 0 hx ?_
        simp only [wLe, wOrd, look]
        exact hk
      · refine all_map ?_
        cases hc : (ks nd).all fun x => decide (val 0 al x ≤ val 0 nd x) with
        | true =>
          refine k1 ⟨V1, fun p hp => ?_⟩ g1
          have := of_decide_eq_true (List.all_eq_true.mp hc p.1 (List.mem_map.mpr ⟨p, hp, rfl⟩))
          rw [val_mem N.dn hp] at this
          exact this
        | false =>
          refine k0 (fun s => ?_) g1
          obtain ⟨x, hx, hn⟩ := List.all_eq_false.mp hc
          have := s.2 _ (key_at (d := (0 : Int)) N.dn hx)
          simp at hn
          have : val 0 al x ≤ val 0 nd x := this
          omega
end
theorem not_good_len {ps : List (PySem.Str × PySem.Str)} {nd : List (PySem.Str × Int)} {kvs : List (PySem.Str × Dat)} (T : TreeOk ps) (H : ThKv kvs) (h : kvs.length ≠ ps.length) : ¬ Good ps nd kvs := fun g => by
  have h1 := nodup_len H.nd (fun x hx => (g.ke x).mp hx)
  have h2 := nodup_len T.nd (fun x hx => (g.ke x).mpr hx)
  simp at h1 h2; omega
theorem keys_iff {ps : List (PySem.Str × PySem.Str)} {kvs : List (PySem.Str × Dat)} (T : TreeOk ps) (H : ThKv kvs) (hl : kvs.length = ps.length) (h : ∀ x ∈ ks ps, x ∈ ks kvs) : ∀ x, x ∈ ks kvs ↔ x ∈ ks ps := fun x => by
  refine ⟨fun hx => ?_, h x⟩
  apply Classical.byContradiction
  intro hn
  have : (x :: ks ps).Nodup := List.nodup_cons.mpr ⟨hn, T.nd⟩
  have := nodup_len this (b := ks kvs) (fun y hy => by
    rcases List.mem_cons.mp hy with rfl | hy
    · exact hx
    · exact h y hy)
  simp at this; omega
theorem p_serve : ∀ rs ms q qx, R_serve rs ms q qx → w_serve (endsF q) (startE N_serve rs qx) ms := by
  rintro rs ms q qx ⟨d, e, t, rfl, ⟨ps, nd, P, rfl, rfl, T, N, ht, k1, k0⟩ | ⟨hb, k⟩ | ⟨ps, rfl, T, hb, k⟩⟩
  rotate_left
  · exact ⟨d, rfl, .inr ⟨hb, k⟩⟩
  · exact ⟨_, rfl, .inl ⟨ps, rfl, T, fun g0 => ⟨ps, e, rfl, T, .inr ⟨hb, k g0⟩⟩⟩⟩
  have hz := size_big
  have hpl := T.len
  refine ⟨_, rfl, .inl ⟨ps, rfl, T, fun g0 => ?_⟩⟩
  refine ⟨ps, _, rfl, T, .inl ⟨nd, rfl, N, ?_⟩⟩
  show w_serve_5 (endsF q) ⟨[some (.dic (dps ps)), some (.dic (dnd nd)), some t, none, none], fun _ C fs ms => qx C fs ms, Str.empty, []⟩ (ms ++ g0)
  simp only [w_serve_5, wSeq, wIfS, wOr, Sy.wNot, wBt, wCB, wCons, wNil]
  refine wv (d := t) rfl ?_
  cases ht with
  | non => exact wc (non_dict (by simp only [Bool.not_false, if_true, wRet, wC]; exact k0 id g0))
  | lst ds => exact wc (lst_dict (by simp only [Bool.not_false, if_true, wRet, wC]; exact k0 id g0))
  | dic kvs H =>
    have hkl := H.len
    have hd : (kvD (id : Dat → Dat) kvs).length = kvs.length := by simp [kvD]
    have hd2 : (dps ps).length = ps.length := by simp [kvD]
    refine wc (dic_dict ?_)
    simp only [Bool.not_true, Bool.false_eq_true, if_false, wOp, wCB, wCons, wNil]
    refine wv (d := .dic (kvD id kvs)) rfl ?_
    simp only [wLenA, dicOf]
    refine wv (d := .dic (dps ps)) rfl ?_
    simp only [dicOf]
    refine neI ?_
    rw [hd, hd2]
    by_cases hl : kvs.length = ps.length
    · have e : ((kvs.length : Nat) : Int) = ((ps.length : Nat) : Int) := by omega
      simp only [e, decide_true, Bool.not_true, Bool.false_eq_true, if_false, wNext]
      simp only [w_serve_4, wSeq, wIfS, Sy.wNot, wBt, wCB, wCons, wNil, wLc, wiKeys]
      refine wv (d := .dic (dps ps)) rfl ?_
      simp only [frzOf]
      rw [keys_kv]
      refine lcW_M (xs := ks ps) (f := .str) (g := fun x => .bl (decide (x ∈ ks kvs) && rangeB 1 99 (val .non kvs x))) ?_ (by simp; omega) ?_
      · intro x hx kk hk
        simp only [wgName, wAndV, wOp]
        refine wv (d := .str x) rfl ?_
        refine wv (d := .dic (kvD id kvs)) rfl ?_
        refine inKv ?_
        by_cases hm : x ∈ ks kvs
        · have e1 : decide (x ∈ kvs.map (·.1)) = true := decide_eq_true hm
          simp only [e1, if_true, wCall, wCons, wNil, wOp, Bool.true_and] at hk ⊢
          refine wv (d := .dic (kvD id kvs)) rfl ?_
          refine wv (d := .str x) rfl ?_
          refine ixKv .non hm ?_
          obtain ⟨p, hp, _, ev⟩ := val_in (d := Dat.non) hm
          exact ⟨_, _, _, rfl, by rw [ev]; exact H.leaf p hp, hk⟩
        · have e1 : decide (x ∈ kvs.map (·.1)) = false := decide_eq_false hm
          simp only [e1, Bool.false_and] at hk ⊢
          exact hk
      · refine all_map ?_
        cases hb : (ks ps).all fun x => decide (x ∈ ks kvs) && rangeB 1 99 (val .non kvs x) with
        | false =>
          simp only [Bool.not_false, if_true, wRet, wC]
          refine k0 (fun g => ?_) g0
          obtain ⟨x, hx, hn⟩ := List.all_eq_false.mp hb
          rw [Bool.and_eq_true, decide_eq_true_eq] at hn
          exact hn ⟨(g.ke x).mpr hx, g.rng x hx⟩
        | true =>
          simp only [Bool.not_true, Bool.false_eq_true, if_false, wNext]
          have hall : ∀ x ∈ ks ps, x ∈ ks kvs ∧ rangeB 1 99 (val .non kvs x) = true := fun x hx => by
            have := List.all_eq_true.mp hb x hx
            rw [Bool.and_eq_true, decide_eq_true_eq] at this
            exact this
          obtain ⟨al, ea, A, gs⟩ := good_al T N H (keys_iff T H hl fun x hx => (hall x hx).1) fun x hx => (hall x hx).2
          rw [ea]
          exact sv_rest T N A g0 (fun s => k1 (gs.mpr s)) fun s => k0 fun g => s (gs.mp g)
    · have e : ¬ ((kvs.length : Nat) : Int) = ((ps.length : Nat) : Int) := by omega
      simp only [e, decide_false, Bool.not_false, if_true, wRet, wC]
      exact k0 (not_good_len T H hl) g0
end K69
namespace K69
open PySem PySem.Spec PyProof.Rows L2 Sy
def monoB (ps : List (PySem.Str × PySem.Str)) (al : List (PySem.Str × Int)) (x : PySem.Str) : Bool := decide (val stor ps x = stor) || decide (val 0 al (val stor ps x) ≤ val 0 al x)
section
variable {ps : List (PySem.Str × PySem.Str)} {nd al : List (PySem.Str × Int)} (T : TreeOk ps) (N : NeedOk ps nd) (A : AlX ps al)
include T N A
theorem sv_3 {E : WEnds} {ex : KX} {ms : Ms} {x4 : Option Dat} : ∀ (l : List PySem.Str) (v3 : Option Dat), (∀ x ∈ l, x ∈ ks ps) → (l.all (monoB ps al) = true → ∀ v3, E.nx ⟨[some (.dic (dps ps)), some (.dic (dnd nd)), some (.dic (dnd al)), v3, x4], ex, Str.empty, []⟩ ms) → (l.all (monoB ps al) = false → E.rt (.bl false) ms) →
    forW (wgName 3) w__law_serve_3 E (l.map .str) ⟨[some (.dic (dps ps)), some (.dic (dnd nd)), some (.dic (dnd al)), v3, x4], ex, Str.empty, []⟩ ms := by
  intro l
  induction l with
  | nil => intro v3 _ h1 _; exact h1 rfl v3
  | cons x l ih =>
    intro v3 hm h1 h2
    have hx := hm x (by simp)
    rw [List.map_cons, forW]
    generalize hF : forW (wgName 3) w__law_serve_3 E (l.map Dat.str) = FF
    have next : monoB ps al x = true → FF ⟨[some (.dic (dps ps)), some (.dic (dnd nd)), some (.dic (dnd al)), some (.str x), x4], ex, Str.empty, []⟩ ms := fun hb => by
      rw [← hF]
      refine ih _ (fun y hy => hm y (List.mem_cons_of_mem _ hy)) (fun ha => h1 ?_) (fun ha => h2 ?_)
      · rw [List.all_cons, ha, hb]; rfl
      · rw [List.all_cons, ha, Bool.and_false]
    show w__law_serve_3 _ ⟨[some (.dic (dps ps)), some (.dic (dnd nd)), some (.dic (dnd al)), some (.str x), x4], ex, Str.empty, []⟩ ms
    simp only [w__law_serve_3, wIfS, wAnd, wBt, wOp]
    refine wv (d := .dic (dps ps)) rfl ?_
    refine wv (d := .str x) rfl ?_
    refine ixKv stor hx ?_
    refine wc (neSt (key_sh T (par_or T hx)) st_sh ?_)
    by_cases e : val stor ps x = stor
    · have e' : decide (val stor ps x = Str.ofString "store") = true := decide_eq_true e
      simp only [e', Bool.not_true, Bool.false_eq_true, if_false, wNext]
      exact next (by simp [monoB, e])
    · have e' : decide (val stor ps x = Str.ofString "store") = false := decide_eq_false e
      simp only [e', Bool.not_false, if_true]
      refine wv (d := .dic (dnd al)) rfl ?_
      refine wv (d := .str x) rfl ?_
      refine ixKv 0 (al_mem T N A hx) ?_
      refine wv (d := .dic (dnd al)) rfl ?_
      refine wv (d := .dic (dps ps)) rfl ?_
      refine wv (d := .str x) rfl ?_
      refine ixKv stor hx ?_
      refine ixKv 0 (al_mem T N A ((par_or T hx).resolve_left e)) ?_
      by_cases h : val 0 al x < val 0 al (val stor ps x)
      · simp only [wLt, wOrd, look, h, decide_true, if_true, wRet, wC]
        refine h2 ?_
        have hb : monoB ps al x = false := by
          unfold monoB
          rw [decide_eq_false e, decide_eq_false (by omega)]; rfl
        rw [List.all_cons, hb]; rfl
      · simp only [wLt, wOrd, look, h, decide_false, Bool.false_eq_true, if_false, wNext]
        refine next ?_
        unfold monoB
        rw [decide_eq_true (show val 0 al (val stor ps x) ≤ val 0 al x by omega), Bool.or_true]
theorem ls_rest {q : KR} {ex : KX} {ms : Ms} {v3 v4 : Option Dat} (k1 : Srv ps nd al → q (.bl true) ms) (k0 : ¬ Srv ps nd al → q (.bl false) ms) :
    w__law_serve_5 (endsF q) ⟨[some (.dic (dps ps)), some (.dic (dnd nd)), some (.dic (dnd al)), v3, v4], ex, Str.empty, []⟩ ms := by
  have hz := size_big
  have hnl := nd_len T N
  have ham := fun x => al_mem T N A (x := x)
  have t4 : ∀ v3, (∀ x ∈ ks ps, monoB ps al x = true) → w__law_serve_4 (endsF q) ⟨[some (.dic (dps ps)), some (.dic (dnd nd)), some (.dic (dnd al)), v3, v4], ex, Str.empty, []⟩ ms := by
    intro v3 hm
    simp only [w__law_serve_4, wRet, wOp, wLc, wiKeys]
    refine wv (d := .dic (dnd nd)) rfl ?_
    simp only [frzOf]
    rw [keys_kv]
    refine lcW_T (f := .str) (p := fun x => decide (val 0 nd x < val 0 al x)) (g := .str) (xs := ks nd) ?_ (by simp; omega) ?_
    · intro x hx kk hk
      simp only [wgName, wBt, wOp]
      refine wv (d := .dic (dnd al)) rfl ?_
      refine wv (d := .str x) rfl ?_
      refine ixKv 0 (ham x (N.mem x hx)) ?_
      refine wv (d := .dic (dnd nd)) rfl ?_
      refine wv (d := .str x) rfl ?_
      refine ixKv 0 hx ?_
      by_cases e : val 0 nd x < val 0 al x
      · simp only [wGt, wOrd, look, e, decide_true, if_true] at hk ⊢
        exact wv (d := .str x) rfl hk
      · simp only [wGt, wOrd, look, e, decide_false, Bool.false_eq_true, if_false] at hk ⊢
        exact hk
    · simp only [List.nil_append, wLst, wNil]
      refine ⟨by simp, ?_⟩
      obtain ⟨s1, s2⟩ := sh_strs (ws := (ks nd).filter fun x => decide (val 0 nd x < val 0 al x)) (fun x hx => key_sh T (.inr (N.mem x (List.mem_filter.mp hx).1)))
      refine ⟨_, _, rfl, rfl, s1, rfl, s2, shL0, ?_⟩
      rw [eqv_nilS]
      have V1 : ∀ x ∈ ks ps, val stor ps x ≠ stor → val 0 al (val stor ps x) ≤ val 0 al x := fun x hx hn => by
        have := hm x hx
        simp only [monoB, Bool.or_eq_true, decide_eq_true_eq] at this
        exact this.resolve_left hn
      by_cases e : (ks nd).filter (fun x => decide (val 0 nd x < val 0 al x)) = []
      · simp only [e, decide_true]
        refine k1 ⟨V1, fun p hp => ?_⟩
        have hpk : p.1 ∈ ks nd := List.mem_map.mpr ⟨p, hp, rfl⟩
        have := List.filter_eq_nil_iff.mp e p.1 hpk
        rw [val_mem N.dn hp] at this
        simp at this
        exact this
      · simp only [e, decide_false]
        refine k0 fun ⟨_, V2⟩ => e (List.filter_eq_nil_iff.mpr fun x hx => ?_)
        have := V2 _ (key_at (d := (0 : Int)) N.dn hx)
        simp
        exact this
  simp only [w__law_serve_5, wSeq, wFor, wiKeys]
  refine wv (d := .dic (dps ps)) rfl ?_
  simp only [frzOf]
  rw [keys_kv]
  refine sv_3 T N A (ks ps) v3 (fun _ h => h) (fun h v3 => t4 v3 (fun x hx => List.all_eq_true.mp h x hx)) (fun h => k0 fun ⟨V1, _⟩ => ?_)
  have : (ks ps).all (monoB ps al) = true := List.all_eq_true.mpr fun x hx => by
    unfold monoB
    by_cases e : val stor ps x = stor
    · rw [decide_eq_true e]; rfl
    · rw [decide_eq_true (V1 x hx e), Bool.or_true]
  rw [this] at h
  cases h
end
section
variable {ps : List (PySem.Str × PySem.Str)} {nd : List (PySem.Str × Int)} {kvs : List (PySem.Str × Dat)} (T : TreeOk ps) (N : NeedOk ps nd) (H : ThKv kvs) (ke : ∀ x, x ∈ ks kvs ↔ x ∈ ks ps)
include T N H ke
theorem ls_2 {E : WEnds} {ex : KX} {ms : Ms} : ∀ (l : List PySem.Str) (v3 v4 : Option Dat), (∀ x ∈ l, x ∈ ks ps) → ((∀ x ∈ l, rangeB 1 99 (val .non kvs x) = true) → ∀ v3 v4, E.nx ⟨[some (.dic (dps ps)), some (.dic (dnd nd)), some (.dic (kvD id kvs)), v3, v4], ex, Str.empty, []⟩ ms) → ((∃ x ∈ l, rangeB 1 99 (val .non kvs x) = false) → E.rt (.bl false) ms) →
    forW (wgName 3) w__law_serve_2 E (l.map .str) ⟨[some (.dic (dps ps)), some (.dic (dnd nd)), some (.dic (kvD id kvs)), v3, v4], ex, Str.empty, []⟩ ms := by
  intro l
  induction l with
  | nil => intro v3 v4 _ h1 _; exact h1 (fun _ h => by cases h) v3 v4
  | cons x l ih =>
    intro v3 v4 hm h1 h2
    have hx := hm x (by simp)
    have hxk := (ke x).mpr hx
    rw [List.map_cons, forW]
    generalize hF : forW (wgName 3) w__law_serve_2 E (l.map Dat.str) = FF
    obtain ⟨p, hp, _, ev⟩ := val_in (d := Dat.non) hxk
    have hleaf : leafD (val .non kvs x) = true := by rw [ev]; exact H.leaf p hp
    generalize hd : val Dat.non kvs x = d at hleaf
    have next : rangeB 1 99 d = true → FF ⟨[some (.dic (dps ps)), some (.dic (dnd nd)), some (.dic (kvD id kvs)), some (.str x), some d], ex, Str.empty, []⟩ ms := fun hb => by
      rw [← hF]
      refine ih _ _ (fun y hy => hm y (List.mem_cons_of_mem _ hy)) (fun ha => h1 fun y hy => ?_) (fun ⟨y, hy, ha⟩ => h2 ⟨y, List.mem_cons_of_mem _ hy, ha⟩)
      rcases List.mem_cons.mp hy with rfl | hy
      · rw [hd]; exact hb
      · exact ha y hy
    have stop : rangeB 1 99 d = false → E.rt (.bl false) ms := fun hb => h2 ⟨x, by simp, by rw [hd]; exact hb⟩
    show w__law_serve_2 _ ⟨[some (.dic (dps ps)), some (.dic (dnd nd)), some (.dic (kvD id kvs)), some (.str x), v4], ex, Str.empty, []⟩ ms
    simp only [w__law_serve_2, wSeq, wAsg, wOp]
    refine wv (d := .dic (kvD id kvs)) rfl ?_
    refine wv (d := .str x) rfl ?_
    refine ixKv .non hxk ?_
    rw [hd]
    show w__law_serve_1 _ ⟨[some (.dic (dps ps)), some (.dic (dnd nd)), some (.dic (kvD id kvs)), some (.str x), some d], ex, Str.empty, []⟩ ms
    simp only [w__law_serve_1, wIfS, wOr, Sy.wNot, wBt, wCB, wCons, wNil]
    refine wv (d := d) rfl ?_
    refine wc (leaf_int hleaf ?_)
    cases d <;> first | (cases hleaf; done) | skip
    · simp only [Bool.not_false, if_true, wRet, wC]
      exact stop rfl
    · simp only [Bool.not_true, Bool.false_eq_true, if_false]
      refine wv (d := .bl _) rfl ?_
      refine wc (leaf_bool rfl ?_)
      simp only [if_true, wRet, wC]
      exact stop rfl
    · rename_i i
      simp only [Bool.not_true, Bool.false_eq_true, if_false]
      refine wv (d := .int i) rfl ?_
      refine wc (leaf_bool rfl ?_)
      simp only [Bool.false_eq_true, if_false]
      refine chain_ii (i := 0) (j := 0) (a := 1) (b := i) (c := 99) (fun _ h => h) (fun _ h => wv rfl h) (fun _ h => h) ?_
      cases hb : (decide ((1 : Int) ≤ i) && decide (i ≤ 99)) with
      | true =>
        simp only [Bool.not_true, Bool.false_eq_true, if_false, wNext]
        exact next hb
      | false =>
        simp only [Bool.not_false, if_true, wRet, wC]
        exact stop hb
    · simp only [Bool.not_false, if_true, wRet, wC]
      exact stop rfl
end
theorem p__law_serve : ∀ rs ms q qx, R__law_serve rs ms q qx → w__law_serve (endsF q) (startE N__law_serve rs qx) ms := by
  rintro rs ms q qx ⟨ps, nd, t, P, rfl, T, N, ht, k1, k0⟩
  have hz := size_big
  have hpl := T.len
  show w__law_serve (endsF q) ⟨[some (.dic (dps ps)), some (.dic (dnd nd)), some t, none, none], fun _ C fs ms => qx C fs ms, Str.empty, []⟩ ms
  simp only [w__law_serve, wSeq, wIfS, Sy.wNot, wBt, wCB, wCons, wNil]
  refine wv (d := t) rfl ?_
  cases ht with
  | non => exact wc (non_dict (by simp only [Bool.not_false, if_true, wRet, wC]; exact k0 id))
  | lst ds => exact wc (lst_dict (by simp only [Bool.not_false, if_true, wRet, wC]; exact k0 id))
  | dic kvs H =>
    have hkl := H.len
    refine wc (dic_dict ?_)
    simp only [Bool.not_true, Bool.false_eq_true, if_false, wNext, w__law_serve_7, wSeq, wIfS, wBt, wOp, wCB, wCons, wNil, wLc, wiKeys]
    refine wv (d := .dic (kvD id kvs)) rfl ?_
    simp only [frzOf]
    rw [keys_kv]
    refine lcW_M (xs := ks kvs) (f := .str) (g := fun x => .str (rp x)) ?_ (by simp; omega) ?_
    · intro x hx kk hk
      simp only [wgName, wCB, wCons, wNil]
      refine wv (d := .str x) rfl ?_
      exact rp_call (H.mem x hx) hk
    refine ⟨(ks kvs).map rp, by simp, by simp; omega, fun ys hp hs => ?_⟩
    refine wv (d := .dic (dps ps)) rfl ?_
    simp only [frzOf]
    rw [keys_kv]
    refine lcW_M (xs := ks ps) (f := .str) (g := fun x => .str (rp x)) ?_ (by simp; omega) ?_
    · intro x hx kk hk
      simp only [wgName, wCB, wCons, wNil]
      refine wv (d := .str x) rfl ?_
      exact rp_call (nms_X (T.mem x hx)) hk
    refine ⟨(ks ps).map rp, by simp, by simp; omega, fun ys' hp' hs' => ?_⟩
    have sh1 := sh_strs (ws := ys) (fun x hx => by
      obtain ⟨y, hy, rfl⟩ := List.mem_map.mp (hp.mem_iff.mp hx)
      exact (rp_ok (H.mem y hy)).2.2.2.2.1)
    have sh2 := sh_strs (ws := ys') (fun x hx => by
      obtain ⟨y, hy, rfl⟩ := List.mem_map.mp (hp'.mem_iff.mp hx)
      exact (rp_ok (nms_X (T.mem y hy))).2.2.2.2.1)
    refine neLs sh1 sh2 ?_
    by_cases e : ys = ys'
    · have ke : ∀ x, x ∈ ks kvs ↔ x ∈ ks ps := fun x => by
        subst e
        have hpp := hp.symm.trans hp'
        constructor
        · intro hx
          obtain ⟨y, hy, ey⟩ := List.mem_map.mp (hpp.mem_iff.mp (List.mem_map.mpr ⟨x, hx, rfl⟩))
          rw [← rp_inj (nms_X (T.mem y hy)) (H.mem x hx) ey]; exact hy
        · intro hx
          obtain ⟨y, hy, ey⟩ := List.mem_map.mp (hpp.mem_iff.mpr (List.mem_map.mpr ⟨x, hx, rfl⟩))
          rw [← rp_inj (H.mem y hy) (nms_X (T.mem x hx)) ey]; exact hy
      simp only [e, decide_true, Bool.not_true, Bool.false_eq_true, if_false, wNext]
      simp only [w__law_serve_6, wSeq, wFor, wiKeys]
      refine wv (d := .dic (dps ps)) rfl ?_
      simp only [frzOf]
      rw [keys_kv]
      refine ls_2 T N H ke (ks ps) none none (fun _ h => h) (fun rg v3 v4 => ?_) (fun ⟨x, hx, hb⟩ => k0 fun g => ?_)
      · obtain ⟨al, ea, A, gs⟩ := good_al T N H ke rg
        rw [ea]
        exact ls_rest T N A (fun s => k1 (gs.mpr s)) fun s => k0 fun g => s (gs.mp g)
      · rw [g.rng x hx] at hb; cases hb
    · simp only [e, decide_false, Bool.not_false, if_true, wRet, wC]
      refine k0 fun g => e ?_
      have hperm : (ks kvs).Perm (ks ps) := (List.perm_ext_iff_of_nodup H.nd T.nd).mpr g.ke
      exact sortedS_uniq (hp.trans ((hperm.map rp).trans hp'.symm)) hs hs'
end K69
namespace K69
open PySem PySem.Spec PyProof.Rows L2 Sy
theorem drawS {ms g : Ms} {j : Nat} {n s m : Int} {kk : KR} {kx : KXF} (hj : j < ms.length) (so : SrcOk n s) (h0 : 0 < m) (h1 : m ≤ 1000) (k : ∀ r n' s', 0 ≤ r → r < m → SrcOk n' s' → kk (.int r) (ms.set j (src n' s') ++ g)) : R__law_draw [.own j, .int m] (ms.set j (src n s) ++ g) kk kx := by
  refine ⟨j, n, s, m, rfl, at_set hj, so, h0, ?_, fun r n' s' hr0 hr1 so' => ?_⟩
  · have := Nat.log2_le_self m.natAbs
    omega
  · rw [set_set hj]
    exact k r n' s' hr0 hr1 so'
/-! dicts of pairs of any kind -/
theorem setK_th {A : List (PySem.Str × Dat)} {x : PySem.Str} {v : Dat} (nd : (ks A).Nodup) (hm : ∀ p ∈ A, p.1 ∈ nmsX ∧ leafD p.2 = true) (hx : x ∈ nmsX) (hv : leafD v = true) :
    ∃ B, setK (kvD id A) (.inr x) v = kvD id B ∧ (ks B).Nodup ∧ (∀ p ∈ B, p.1 ∈ nmsX ∧ leafD p.2 = true) ∧ B.length ≤ A.length + 1 := by
  by_cases h : x ∈ ks A
  · refine ⟨A.map fun p => if p.1 = x then (x, v) else p, ?_, ?_, ?_, by simp⟩
    · have hs : (getK (kvD (id : Dat → Dat) A) (.inr x)).isSome = true := by rw [isSome_kv]; exact decide_eq_true h
      unfold setK
      rw [if_pos hs]
      simp only [kvD, List.map_map]
      refine List.map_congr_left fun p _ => ?_
      simp only [Function.comp]
      by_cases e : p.1 = x
      · simp [e]
      · have : ¬ (Sum.inr p.1 : Key) = Sum.inr x := fun z => e (Sum.inr.inj z)
        simp [e]
    · have : ks (A.map fun p => if p.1 = x then (x, v) else p) = ks A := by
        simp only [ks, List.map_map]
        refine List.map_congr_left fun p _ => ?_
        simp only [Function.comp]
        split
        · rename_i e; exact e.symm
        · rfl
      rw [this]; exact nd
    · intro p hp
      obtain ⟨r, hr, rfl⟩ := List.mem_map.mp hp
      split
      · exact ⟨hx, hv⟩
      · exact hm r hr
  · refine ⟨A ++ [(x, v)], setK_new (f := id) h, ?_, ?_, by simp⟩
    · show ((A ++ [(x, v)]).map (·.1)).Nodup
      rw [List.map_append, List.nodup_append]
      refine ⟨nd, by simp, fun a ha b hb e => h ?_⟩
      rw [show b = x by simpa using hb] at e
      rw [← e]; exact ha
    · intro p hp
      rcases List.mem_append.mp hp with hp | hp
      · exact hm p hp
      · rw [List.mem_singleton.mp hp]; exact ⟨hx, hv⟩
theorem mergeD_th : ∀ {L A : List (PySem.Str × Dat)}, (ks A).Nodup → (∀ p ∈ A, p.1 ∈ nmsX ∧ leafD p.2 = true) → (∀ p ∈ L, p.1 ∈ nmsX ∧ leafD p.2 = true) → ∃ B, mergeD (kvD id A) (kvD id L) = kvD id B ∧ (ks B).Nodup ∧ (∀ p ∈ B, p.1 ∈ nmsX ∧ leafD p.2 = true) ∧ B.length ≤ A.length + L.length
  | [], A, nd, hA, _ => ⟨A, rfl, nd, hA, by simp⟩
  | (x, v) :: L, A, nd, hA, hL => by
    obtain ⟨B, e, ndB, hB, lB⟩ := setK_th nd hA (hL (x, v) (by simp)).1 (hL (x, v) (by simp)).2
    obtain ⟨C, e2, ndC, hC, lC⟩ := mergeD_th (L := L) ndB hB fun p hp => hL p (List.mem_cons_of_mem _ hp)
    refine ⟨C, ?_, ndC, hC, by simp only [List.length_cons]; omega⟩
    show mergeD (setK (kvD id A) (.inr x) v) (kvD id L) = _
    rw [e, e2]
theorem dict_th {L : List (PySem.Str × Dat)} {ms : Ms} {kk : KR} (hl : L.length ≤ 20) (hL : ∀ p ∈ L, p.1 ∈ nmsX ∧ leafD p.2 = true) (k : ∀ B, ThKv B → kk (.dic (kvD id B)) (ms ++ [.gone])) : wDictOf [.lst (L.map fun p => .tup [.str p.1, p.2])] ms (fixK kk) := by
  obtain ⟨B, e, nd, hB, lB⟩ := mergeD_th (L := L) (A := []) (by simp) (by simp) hL
  have ep : pairsD (L.map fun p => Dat.tup [.str p.1, p.2]) = some (kvD id L) := pairs_kv (f := id)
  simp only [wDictOf, dicOf, look, ep]
  have e' : mergeD [] (kvD id L) = kvD id B := e
  rw [e']
  refine fixK_dic (k B ⟨?_, nd, fun x hx => ?_, fun p hp => (hB p hp).2⟩)
  · simp at lB; omega
  · obtain ⟨p, hp, rfl⟩ := List.mem_map.mp hx
    exact (hB p hp).1
theorem items_at {al : List (PySem.Str × Int)} {ρ : Sy.Env} {i jg : Nat} {M : Ms} {kk : KR} (hi : ρ.sl[i]? = some (some (.own jg))) (hg : M[jg]? = some (.dic (dnd al))) (k : kk (.lst ((al.map fun p => (p.1, Dat.int p.2)).map fun p => .tup [.str p.1, p.2])) M) : wLItems (wVar i) ρ M kk := by
  simp only [wLItems]
  refine wv hi ?_
  simp only [hg]
  have e : (dnd al).map (fun p => Dat.tup [datK p.1, p.2]) = (al.map fun p => (p.1, Dat.int p.2)).map fun p => .tup [.str p.1, p.2] := by simp [kvD]
  rw [e]; exact k
/-- dict(list(given.items()) + [(x, v)]) -/
theorem more_at {al : List (PySem.Str × Int)} {ρ : Sy.Env} {jg : Nat} {M : Ms} {kk : KR} {wx wv' : WE} {x : PySem.Str} {v : Dat} (hi : ρ.sl[2]? = some (some (.own jg))) (hg : M[jg]? = some (.dic (dnd al))) (hl : al.length ≤ 11) (hm : ∀ y ∈ ks al, y ∈ nms) (hx : x ∈ nmsX) (hv : leafD v = true)
    (ex : ∀ k' : KR, k' (.str x) M → wx ρ M k') (ev : ∀ k' : KR, k' v M → wv' ρ M k') (k : ∀ B, ThKv B → kk (.dic (kvD id B)) (M ++ [.gone])) : wFix (wCB wDictOf (wCons (wOp wAdd (wLItems (wVar 2)) (wLst (wCons (wTup (wCons wx (wCons wv' wNil))) wNil))) wNil)) ρ M kk := by
  have hz := size_big
  rw [wFix_eq]
  simp only [wCB, wCons, wNil, wOp]
  refine items_at hi hg ?_
  simp only [wLst, wTup, wCons, wNil]
  refine ex _ (ev _ ?_)
  refine ⟨by simp; omega, by simp; omega, ?_⟩
  simp only [wAdd, look]
  refine ⟨by simp; omega, ?_⟩
  have e : (al.map fun p => (p.1, Dat.int p.2)).map (fun p => Dat.tup [.str p.1, p.2]) ++ [.tup [.str x, v]] = (al.map (fun p => (p.1, Dat.int p.2)) ++ [(x, v)]).map fun p => .tup [.str p.1, p.2] := by simp
  rw [e]
  refine dict_th (by simp; omega) (fun p hp => ?_) k
  rcases List.mem_append.mp hp with hp | hp
  · obtain ⟨r, hr, rfl⟩ := List.mem_map.mp hp
    exact ⟨nms_X (hm _ (List.mem_map.mpr ⟨r, hr, rfl⟩)), rfl⟩
  · rw [List.mem_singleton.mp hp]; exact ⟨hx, hv⟩
end K69
namespace K69
open PySem PySem.Spec PyProof.Rows L2 Sy
theorem atD_any {ds : List Dat} {r : Int} (h0 : 0 ≤ r) (h1 : r < (ds.length : Nat)) : ∃ v ∈ ds, atD ds r = some v := by
  have hl : r.toNat < ds.length := by omega
  refine ⟨ds[r.toNat], List.getElem_mem hl, ?_⟩
  have := atD_nat (ds := ds) (m := r.toNat) (d := ds[r.toNat]) (List.getElem?_eq_getElem hl)
  rw [show ((r.toNat : Nat) : Int) = r by omega] at this
  exact this
theorem ix_any {ds : List Dat} {r : Int} {ms : Ms} {k : KR} (h0 : 0 ≤ r) (h1 : r < (ds.length : Nat)) (h : ∀ v ∈ ds, k v ms) : wIxA (.lst ds) (.int r) ms k := by
  obtain ⟨v, hv, e⟩ := atD_any h0 h1
  simp only [wIxA, dicOf, wIx, look, e]
  exact h v hv
theorem ix_own {ds : List Dat} {r : Int} {ms : Ms} {l : Nat} {k : KR} (e : ms[l]? = some (.lst ds)) (h0 : 0 ≤ r) (h1 : r < (ds.length : Nat)) (h : ∀ v ∈ ds, k v ms) : wIxA (.own l) (.int r) ms k := by
  obtain ⟨v, hv, e2⟩ := atD_any h0 h1
  simp only [wIxA, dicOf, e, wIx, look, Option.bind_some, cellD, e2]
  exact h v hv
def oddsL : List Dat := [.int 0, .int 1, .int 2, .int 99, .int 100, .bl true, .non, .str "1", .int (-1), .int 3]
theorem odd_lst {ρ : Sy.Env} {M : Ms} {K : KR} (h : K (.lst oddsL) M) : wLst (wCons (wC (.int 0)) (wCons (wC (.int 1)) (wCons (wC (.int 2)) (wCons (wC (.int 99)) (wCons (wC (.int 100)) (wCons (wC (.bl true)) (wCons (wC .non) (wCons (wC (.str "1")) (wCons (wUn (fun i => -i) (wC (.int 1))) (wCons (wC (.int 3)) wNil)))))))))) ρ M K := ⟨Nat.le_trans (show 10 ≤ 1000000 by decide) size_big, h⟩
theorem odds_leaf : ∀ v ∈ oddsL, leafD v = true := by
  intro v hv
  simp only [oddsL, List.mem_cons, List.mem_nil_iff, or_false] at hv
  rcases hv with rfl | rfl | rfl | rfl | rfl | rfl | rfl | rfl | rfl | rfl <;> rfl
theorem asg_of {we : WE} {wg : WG} {E : WEnds} {ρ : Sy.Env} {ms : Ms} (h : we ρ ms fun r ms1 => wg r ρ ms1 E.nx) : wAsg we wg E ρ ms := h
theorem seq_of {a b : WS} {E : WEnds} {ρ : Sy.Env} {ms : Ms} (h : a { nx := b E, rt := E.rt, bk := E.bk, ct := E.ct } ρ ms) : wSeq a b E ρ ms := h
theorem op_of {w : WR2} {wa wb : WE} {ρ : Sy.Env} {ms : Ms} {k : KR} (h : wa ρ ms fun a ms1 => wb ρ ms1 fun b ms2 => w a b ms2 k) : wOp w wa wb ρ ms k := h
theorem lock_keys {al : List (PySem.Str × Int)} {ρ : Sy.Env} {M : Ms} {jg gi : Nat} {wt : WT} {we : WE} {vs : List Nat} {K : KR} (hi : ρ.sl[2]? = some (some (.own jg))) (hg : M[jg]? = some (.dic (dnd al)))
    (h : lcW (wgName gi) wt we (wipeE ρ vs) (fun acc ms2 => ms2[jg]? = some (.lck (.dic (dnd al))) ∧ K (.lst acc) (ms2.set jg (.dic (dnd al)))) ((ks al).map .str) [] (M.set jg (.lck (.dic (dnd al))))) : wLckE 2 (wLc (wiKeys (wVar 2)) (wgName gi) wt we vs) ρ M K := by
  have hl := lt_of_at hg
  have hat2 : (M.set jg (.lck (.dic (dnd al))))[jg]? = some (.lck (.dic (dnd al))) := by rw [List.getElem?_set_self hl]
  simp only [wLckE, hi, hg]
  refine lc_of ?_
  simp only [wiKeys]
  refine wv hi ?_
  simp only [frzOf, hat2]
  rw [keys_kv]
  exact h
theorem lck_back {al : List (PySem.Str × Int)} {M : Ms} {jg : Nat} {K : KR} {r : Dat} (hg : M[jg]? = some (.dic (dnd al))) (h : K r M) : (M.set jg (.lck (.dic (dnd al))))[jg]? = some (.lck (.dic (dnd al))) ∧ K r ((M.set jg (.lck (.dic (dnd al)))).set jg (.dic (dnd al))) := by
  have hl := lt_of_at hg
  refine ⟨by rw [List.getElem?_set_self hl], ?_⟩
  rw [List.set_set, ms_same hg]
  exact h
theorem lck_set {al : List (PySem.Str × Int)} {M : Ms} {jg : Nat} (hg : M[jg]? = some (.dic (dnd al))) : (M.set jg (.lck (.dic (dnd al)))).set jg (.dic (dnd al)) = M := by
  rw [List.set_set, ms_same hg]
theorem lck_at {al : List (PySem.Str × Int)} {M : Ms} {jg : Nat} (hg : M[jg]? = some (.dic (dnd al))) : (M.set jg (.lck (.dic (dnd al))))[jg]? = some (.lck (.dic (dnd al))) := by
  rw [List.getElem?_set_self (lt_of_at hg)]
theorem ix_lck {al : List (PySem.Str × Int)} {M : Ms} {jg : Nat} {x : PySem.Str} {k : KR} (hg : M[jg]? = some (.dic (dnd al))) (hx : x ∈ ks al) (h : k (.int (val 0 al x)) (M.set jg (.lck (.dic (dnd al))))) : wIxA (.own jg) (.str x) (M.set jg (.lck (.dic (dnd al)))) k := by
  have hl := lt_of_at hg
  have hat2 : (M.set jg (.lck (.dic (dnd al))))[jg]? = some (.lck (.dic (dnd al))) := by rw [List.getElem?_set_self hl]
  simp only [wIxA, dicOf, hat2, keyD, getK_kv (d := (0 : Int)) hx]
  exact h
theorem ix_given {al : List (PySem.Str × Int)} {M : Ms} {jg : Nat} {x : PySem.Str} {k : KR} (hg : M[jg]? = some (.dic (dnd al))) (hx : x ∈ ks al) (h : k (.int (val 0 al x)) M) : wIxA (.own jg) (.str x) M k := by
  simp only [wIxA, dicOf, hg, keyD, getK_kv (d := (0 : Int)) hx]
  exact h
theorem p__law_bent : ∀ rs ms q qx, R__law_bent rs ms q qx → w__law_bent (endsF q) (startE N__law_bent rs qx) ms := by
  rintro rs ms q qx ⟨j, n, s, ps, jg, al, rfl, e, so, T, hne, eg, hke, k⟩
  have hz := size_big
  have hj := lt_of_at e
  have hpl := T.len
  have hal : al.length ≤ 11 := by
    have := congrArg List.length hke
    simp at this; omega
  have hnm : ∀ y ∈ ks al, y ∈ nms := fun y hy => T.mem y (by rw [← hke]; exact hy)
  have hand : (ks al).Nodup := by rw [hke]; exact T.nd
  have gAt : ∀ c g, (ms.set j c ++ g)[jg]? = some (.dic (dnd al)) := fun c g => at_app (by rw [List.getElem?_set_ne (Ne.symm hne)]; exact eg)
  have start : ms = ms.set j (src n s) ++ [] := by rw [List.append_nil, ms_same e]
  have h1 : 0 < ps.length := T.strs.len1
  show w__law_bent (endsF q) ⟨[some (.own j), some (.dic (dps ps)), some (.own jg), none, none, none, none, none], fun _ C fs ms => qx C fs ms, Str.empty, []⟩ ms
  refine seq_of (asg_of ?_)
  simp only [wCB, wCons, wNil]
  refine wv (d := .dic (dps ps)) rfl ?_
  simp only [wListD, dicOf]
  rw [keys_kv, start]
  show w__law_bent_7 (endsF q) ⟨[some (.own j), some (.dic (dps ps)), some (.own jg), some (.lst ((ks ps).map .str)), none, none, none, none], fun _ C fs ms => qx C fs ms, Str.empty, []⟩ _
  refine seq_of (asg_of (op_of ?_))
  refine wv (d := .lst ((ks ps).map .str)) rfl ?_
  simp only [wCall, wCons, wNil, wCB]
  refine wv (d := .own j) rfl ?_
  refine wv (d := .lst ((ks ps).map .str)) rfl ?_
  simp only [wLenA, dicOf, wLen, look]
  refine drawS hj so (by simp; omega) (by simp; omega) fun r n1 s1 r0 r1 so1 => ?_
  refine ix_any r0 r1 fun v hv => ?_
  obtain ⟨x, hx, rfl⟩ := List.mem_map.mp hv
  have hxn := T.mem x hx
  generalize hG : ([] : Ms) = g0
  clear hG
  show w__law_bent_6 (endsF q) ⟨[some (.own j), some (.dic (dps ps)), some (.own jg), some (.lst ((ks ps).map .str)), some (.str x), none, none, none], fun _ C fs ms => qx C fs ms, Str.empty, []⟩ _
  refine seq_of (asg_of (op_of (odd_lst ?_)))
  simp only [wCall, wCons, wNil, wC]
  refine wv (d := .own j) rfl ?_
  refine drawS hj so1 (by decide) (by decide) fun r n2 s2 r0 r1 so2 => ?_
  refine ix_any r0 r1 fun odd hodd => ?_
  have hol := odds_leaf odd hodd
  show w__law_bent_5 (endsF q) ⟨[some (.own j), some (.dic (dps ps)), some (.own jg), some (.lst ((ks ps).map .str)), some (.str x), some odd, none, none], fun _ C fs ms => qx C fs ms, Str.empty, []⟩ _
  refine seq_of (asg_of ?_)
  simp only [wLstO, wCons, wNil]
  refine more_at (al := al) (x := x) (v := odd) rfl (gAt _ _) hal hnm (nms_X hxn) hol (fun _ h => wv rfl h) (fun _ h => wv rfl h) fun B1 hB1 => ?_
  rw [List.append_assoc]
  generalize g0 ++ [Cell.gone] = g1
  rw [wFix_eq]
  simp only [wCB, wCons, wNil]
  refine lock_keys rfl (gAt _ _) ?_
  refine lcW_T (f := .str) (p := fun y => decide (y ≠ x)) (g := fun y => .tup [.str y, .int (val 0 al y)]) (xs := ks al) ?_ (by simp; omega) ?_
  · intro y hy kk hk
    simp only [wgName, wBt, wOp]
    refine wv (d := .str y) rfl ?_
    refine wv (d := .str x) rfl ?_
    refine neSt (wd_sh (hnm y hy)) (wd_sh hxn) ?_
    by_cases e1 : y = x
    · simp only [e1, decide_true, Bool.not_true, Bool.false_eq_true, if_false, ne_eq, not_true_eq_false, decide_false] at hk ⊢
      exact hk
    · simp only [e1, decide_false, Bool.not_false, if_true, ne_eq, not_false_eq_true, decide_true, wTup, wCons, wNil, wOp] at hk ⊢
      refine wv (d := .str y) rfl ?_
      refine wv (d := .own jg) rfl ?_
      refine wv (d := .str y) rfl ?_
      refine ix_lck (gAt _ _) hy ?_
      exact ⟨by simp; omega, hk⟩
  rw [List.nil_append]
  refine ⟨lck_at (gAt _ _), ?_⟩
  rw [lck_set (gAt _ _)]
  have eL : ((ks al).filter fun y => decide (y ≠ x)).map (fun y => Dat.tup [.str y, .int (val 0 al y)]) = (((ks al).filter fun y => decide (y ≠ x)).map fun y => (y, Dat.int (val 0 al y))).map fun p => .tup [.str p.1, p.2] := by simp
  have lF : ((ks al).filter fun y => decide (y ≠ x)).length ≤ 11 := Nat.le_trans (List.length_filter_le _ _) (by simpa using hal)
  rw [eL]
  refine dict_th (by simp; simp at lF; omega) (fun p hp => ?_) fun B2 hB2 => ?_
  · obtain ⟨y, hy, rfl⟩ := List.mem_map.mp hp
    exact ⟨nms_X (hnm y (List.mem_filter.mp hy).1), rfl⟩
  rw [List.append_assoc]
  generalize g1 ++ [Cell.gone] = g2
  refine ⟨by simp; omega, ?_⟩
  have t5 : ∀ g2, w__law_bent_4 (endsF q) ⟨[some (.own j), some (.dic (dps ps)), some (.own jg), some (.lst ((ks ps).map .str)), some (.str x), some odd, some (.own (ms.set j (src n2 s2) ++ g2).length), none], fun _ C fs ms => qx C fs ms, Str.empty, []⟩ (ms.set j (src n2 s2) ++ g2 ++ [.lst [.dic (kvD id B1), .dic (kvD id B2)]]) := by
    intro g2
    have a0 : ∀ g3, (ms.set j (src n2 s2) ++ g2 ++ [Cell.lst [.dic (kvD id B1), .dic (kvD id B2)]] ++ g3)[(ms.set j (src n2 s2) ++ g2).length]? = some (.lst [.dic (kvD id B1), .dic (kvD id B2)]) := fun g3 => at_app (by simp)
    refine seq_of (asg_of (op_of ?_))
    refine wv (d := .own (ms.set j (src n2 s2) ++ g2).length) rfl ?_
    simp only [wLst, wCons, wNil]
    have gA2 : ∀ g3, (ms.set j (src n2 s2) ++ g2 ++ [Cell.lst [.dic (kvD id B1), .dic (kvD id B2)]] ++ g3)[jg]? = some (.dic (dnd al)) := fun g3 => at_app (at_app (gAt _ _))
    have gA20 : (ms.set j (src n2 s2) ++ g2 ++ [Cell.lst [.dic (kvD id B1), .dic (kvD id B2)]])[jg]? = some (.dic (dnd al)) := at_app (gAt _ _)
    refine more_at (al := al) (x := "other") (v := .int 5) rfl gA20 hal hnm (by simp [nmsX]) rfl (fun _ h => h) (fun _ h => h) fun B3 hB3 => ?_
    refine more_at (al := al) (x := "store") (v := .int 1) rfl (gA2 _) hal hnm (by simp [nmsX]) rfl (fun _ h => h) (fun _ h => h) fun B4 hB4 => ?_
    refine ⟨by simp; omega, ?_⟩
    have a1 := a0 ([Cell.gone] ++ [Cell.gone])
    rw [← List.append_assoc] at a1
    simp only [wAddO, look, a1, Option.bind_some, cellD]
    refine ⟨by simp; omega, ?_⟩
    have em : ms.set j (src n2 s2) ++ g2 ++ [Cell.lst [.dic (kvD id B1), .dic (kvD id B2)]] ++ [Cell.gone] ++ [Cell.gone] = ms.set j (src n2 s2) ++ (g2 ++ [Cell.lst [.dic (kvD id B1), .dic (kvD id B2)]] ++ [Cell.gone] ++ [Cell.gone]) := by simp
    rw [em]
    generalize g2 ++ [Cell.lst [.dic (kvD id B1), .dic (kvD id B2)]] ++ [Cell.gone] ++ [Cell.gone] = g4
    have hds : ∀ d ∈ ([.dic (kvD id B1), .dic (kvD id B2)] ++ [.dic (kvD id B3), .dic (kvD id B4)] : List Dat), ThD d := by
      intro d hd
      simp only [List.cons_append, List.nil_append, List.mem_cons, List.mem_nil_iff, or_false] at hd
      rcases hd with rfl | rfl | rfl | rfl
      · exact .inr (.inr ⟨B1, rfl, hB1⟩)
      · exact .inr (.inr ⟨B2, rfl, hB2⟩)
      · exact .inr (.inr ⟨B3, rfl, hB3⟩)
      · exact .inr (.inr ⟨B4, rfl, hB4⟩)
    have hdl : ([.dic (kvD id B1), .dic (kvD id B2)] ++ [.dic (kvD id B3), .dic (kvD id B4)] : List Dat).length = 4 := rfl
    generalize ([.dic (kvD id B1), .dic (kvD id B2)] ++ [.dic (kvD id B3), .dic (kvD id B4)] : List Dat) = ds at hds hdl
    show w__law_bent_3 (endsF q) ⟨[some (.own j), some (.dic (dps ps)), some (.own jg), some (.lst ((ks ps).map .str)), some (.str x), some odd, some (.own (ms.set j (src n2 s2) ++ g4).length), none], fun _ C fs ms => qx C fs ms, Str.empty, []⟩ (ms.set j (src n2 s2) ++ g4 ++ [.lst ds])
    have a2 : ∀ g3, (ms.set j (src n2 s2) ++ g4 ++ [Cell.lst ds] ++ g3)[(ms.set j (src n2 s2) ++ g4).length]? = some (.lst ds) := fun g3 => at_app (by simp)
    have gA4 : ∀ g3, (ms.set j (src n2 s2) ++ g4 ++ [Cell.lst ds] ++ g3)[jg]? = some (.dic (dnd al)) := fun g3 => at_app (at_app (gAt _ _))
    refine seq_of (asg_of (op_of ?_))
    refine wv (d := .own (ms.set j (src n2 s2) ++ g4).length) rfl ?_
    simp only [wLst, wCons, wNil]
    refine items_at (al := al) rfl (at_app (gAt _ _)) ?_
    simp only [wC]
    rw [wFix_eq]
    refine fixK_dic ?_
    rw [wFix_eq]
    simp only [wCB, wCons, wNil]
    refine lock_keys rfl (gA4 _) ?_
    refine lcW_M (f := .str) (g := fun y => .tup [.str y, .int (val 0 al y + 1)]) (xs := ks al) ?_ (by simp; omega) ?_
    · intro y hy kk hk
      simp only [wgName]
      simp only [wTup, wCons, wNil]
      refine wv (d := .str y) rfl ?_
      refine op_of (op_of ?_)
      refine wv (d := .own jg) rfl ?_
      refine wv (d := .str y) rfl ?_
      refine ix_lck (gA4 _) hy ?_
      refine wc ?_
      simp only [wAdd, look]
      exact ⟨by simp; omega, hk⟩
    refine ⟨lck_at (gA4 _), ?_⟩
    rw [lck_set (gA4 _)]
    have eM : (ks al).map (fun y => Dat.tup [.str y, .int (val 0 al y + 1)]) = ((ks al).map fun y => (y, Dat.int (val 0 al y + 1))).map fun p => .tup [.str p.1, p.2] := by simp
    rw [eM]
    refine dict_th (by simp; omega) (fun p hp => ?_) fun B5 hB5 => ?_
    · obtain ⟨y, hy, rfl⟩ := List.mem_map.mp hp
      exact ⟨nms_X (hnm y hy), rfl⟩
    refine ⟨by simp; omega, ?_⟩
    have a3 := a2 ([Cell.gone] ++ [Cell.gone])
    rw [← List.append_assoc] at a3
    simp only [wAddO, look, a3, Option.bind_some, cellD]
    refine ⟨by simp; omega, ?_⟩
    have em2 : ms.set j (src n2 s2) ++ g4 ++ [Cell.lst ds] ++ [Cell.gone] ++ [Cell.gone] = ms.set j (src n2 s2) ++ (g4 ++ [Cell.lst ds] ++ [Cell.gone] ++ [Cell.gone]) := by simp
    rw [em2]
    generalize g4 ++ [Cell.lst ds] ++ [Cell.gone] ++ [Cell.gone] = g5
    have hes : ∀ d ∈ ds ++ [.lst ((al.map fun p => (p.1, Dat.int p.2)).map fun p => .tup [.str p.1, p.2]), .non, .dic [], .dic (kvD id B5)], ThD d := by
      intro d hd
      rcases List.mem_append.mp hd with hd | hd
      · exact hds d hd
      · simp only [List.mem_cons, List.mem_nil_iff, or_false] at hd
        rcases hd with rfl | rfl | rfl | rfl
        · exact .inr (.inl ⟨_, rfl⟩)
        · exact .inl rfl
        · exact .inr (.inr ⟨[], rfl, ⟨by simp, by simp, by simp, by simp⟩⟩)
        · exact .inr (.inr ⟨B5, rfl, hB5⟩)
    have hel : (ds ++ [Dat.lst ((al.map fun p => (p.1, Dat.int p.2)).map fun p => .tup [.str p.1, p.2]), .non, .dic [], .dic (kvD id B5)]).length = 8 := by simp [hdl]
    generalize (ds ++ [Dat.lst ((al.map fun p => (p.1, Dat.int p.2)).map fun p => .tup [.str p.1, p.2]), Dat.non, Dat.dic [], Dat.dic (kvD id B5)]) = es at hes hel
    show w__law_bent_2 (endsF q) ⟨[some (.own j), some (.dic (dps ps)), some (.own jg), some (.lst ((ks ps).map .str)), some (.str x), some odd, some (.own (ms.set j (src n2 s2) ++ g5).length), none], fun _ C fs ms => qx C fs ms, Str.empty, []⟩ (ms.set j (src n2 s2) ++ g5 ++ [.lst es])
    refine seq_of ?_
    simp only [wDrop, wApp]
    refine wv (d := .own (ms.set j (src n2 s2) ++ g5).length) rfl ?_
    have a4 : ∀ c : Cell, (ms.set j (src n2 s2) ++ g5 ++ [c])[(ms.set j (src n2 s2) ++ g5).length]? = some c := fun c => by simp
    have a5 : ∀ (c c' : Cell), (ms.set j (src n2 s2) ++ g5 ++ [c] ++ [c'])[(ms.set j (src n2 s2) ++ g5).length]? = some c := fun c c' => at_app (a4 c)
    simp only [a4]
    have gA5 : (ms.set j (src n2 s2) ++ g5 ++ [Cell.lst es])[jg]? = some (.dic (dnd al)) := at_app (gAt _ _)
    rw [wFix_eq]
    simp only [wCB, wCons, wNil, wLc, wiSeq, wRev]
    refine wv (d := .own jg) rfl ?_
    simp only [wListD, dicOf, gA5]
    rw [keys_kv]
    simp only [look, ← List.map_reverse]
    show lcW _ _ _ _ _ (((al.reverse).map (·.1)).map Dat.str) [] _
    refine lcW_M (f := .str) (g := fun y => .tup [.str y, .int (val 0 al y)]) ?_ (by simp; omega) ?_
    · intro y hy kk hk
      have hy : y ∈ ks al := by simpa using hy
      simp only [wgName, wTup, wCons, wNil, wOp]
      refine wv (d := .str y) rfl ?_
      refine wv (d := .own jg) rfl ?_
      refine wv (d := .str y) rfl ?_
      refine ix_given gA5 hy ?_
      exact ⟨by simp; omega, hk⟩
    have eR : ((al.reverse).map (·.1)).map (fun y => Dat.tup [.str y, .int (val 0 al y)]) = (((al.reverse).map (·.1)).map fun y => (y, Dat.int (val 0 al y))).map fun p => .tup [.str p.1, p.2] := by simp
    rw [eR]
    refine dict_th (by simp; omega) (fun p hp => ?_) fun B6 hB6 => ?_
    · obtain ⟨y, hy, rfl⟩ := List.mem_map.mp hp
      exact ⟨nms_X (hnm y (by simpa using hy)), rfl⟩
    simp only [a5]
    refine ⟨by omega, ?_⟩
    have st : (ms.set j (src n2 s2) ++ g5 ++ [Cell.lst es] ++ [Cell.gone]).set (ms.set j (src n2 s2) ++ g5).length (.lst (es ++ [.dic (kvD id B6)])) = ms.set j (src n2 s2) ++ (g5 ++ [.lst (es ++ [.dic (kvD id B6)])] ++ [Cell.gone]) := by
      rw [show ms.set j (src n2 s2) ++ g5 ++ [Cell.lst es] ++ [Cell.gone] = ms.set j (src n2 s2) ++ g5 ++ ([Cell.lst es] ++ [Cell.gone]) by simp, List.set_append_right _ _ (Nat.le_refl _)]
      simp
    rw [st]
    have hfs : ∀ d ∈ es ++ [.dic (kvD id B6)], ThD d := by
      intro d hd
      rcases List.mem_append.mp hd with hd | hd
      · exact hes d hd
      · rw [List.mem_singleton.mp hd]; exact .inr (.inr ⟨B6, rfl, hB6⟩)
    have hfl : (es ++ [Dat.dic (kvD id B6)]).length = 9 := by simp [hel]
    generalize es ++ [Dat.dic (kvD id B6)] = fs at hfs hfl
    have hlb : (ms.set j (src n2 s2) ++ g5).length = ms.length + g5.length := by simp
    show w__law_bent_1 (endsF q) ⟨[some (.own j), some (.dic (dps ps)), some (.own jg), some (.lst ((ks ps).map .str)), some (.str x), some odd, some (.own (ms.set j (src n2 s2) ++ g5).length), none], fun _ C fs ms => qx C fs ms, Str.empty, []⟩ _
    simp only [w__law_bent_1, wRet]
    refine op_of ?_
    refine wv (d := .own (ms.set j (src n2 s2) ++ g5).length) rfl ?_
    simp only [wCall, wCons, wNil, wC]
    refine wv (d := .own j) rfl ?_
    refine drawS hj so2 (by decide) (by decide) fun r n3 s3 r0 r1 so3 => ?_
    refine ix_own (ds := fs) ?_ r0 (by rw [hfl]; exact r1) fun v hv => ?_
    · rw [hlb, List.getElem?_append_right (by simp)]
      simp
    · exact k v n3 s3 _ (hfs v hv) so3
  exact t5 g2
end K69
namespace Sy
open PySem PySem.Spec PyProof.Rows L2
theorem wcons {wa : WE} {wr : WA} {ρ : Env} {ms : Ms} {k : List Dat → Ms → Prop} (h : wa ρ ms fun r ms1 => wr ρ ms1 fun rs ms2 => k (r :: rs) ms2) : wCons wa wr ρ ms k := h
theorem wnil {ρ : Env} {ms : Ms} {k : List Dat → Ms → Prop} (h : k [] ms) : wNil ρ ms k := h
theorem lst_of {wa : WA} {ρ : Env} {ms : Ms} {k : KR} (h : wa ρ ms fun rs ms1 => rs.length ≤ sizeLine ∧ k (.lst rs) ms1) : wLst wa ρ ms k := h
theorem lstO_of {wa : WA} {ρ : Env} {ms : Ms} {k : KR} (h : wa ρ ms fun rs ms1 => rs.length ≤ sizeLine ∧ k (.own ms1.length) (ms1 ++ [.lst rs])) : wLstO wa ρ ms k := h
theorem fix_disp1 {wa wb : WE} {a b : Dat} {key : Key} {ρ : Env} {ms : Ms} {kk : KR} (hk : keyD a = some key) (ha : ∀ k : KR, k a ms → wa ρ ms k) (hb : ∀ k : KR, k b ms → wb ρ ms k) (h : kk (.dic [(key, b)]) (ms ++ [.gone])) : wFix (wDisp [(wa, wb)]) ρ ms kk := by
  rw [wFix_eq]
  simp only [wDisp, wPairs]
  refine ha _ ?_
  simp only [hk]
  refine hb _ ?_
  refine ⟨by simp, ?_⟩
  rw [mergeD_nd (acc := []) (by simp)]
  exact fixK_dic h
theorem fix_disp2 {a b a2 b2 : Str} {ρ : Env} {ms : Ms} {kk : KR} (n : a ≠ a2) (h : kk (.dic (([(a, b), (a2, b2)] : List (Str × Str)).map fun p => (.inr p.1, .str p.2))) (ms ++ [.gone])) : wFix (wDisp [(wC (.str a), wC (.str b)), (wC (.str a2), wC (.str b2))]) ρ ms kk := by
  rw [wFix_eq]
  simp only [wDisp, wPairs, wC, keyD]
  refine ⟨by simp, ?_⟩
  rw [mergeD_nd (acc := []) (by simp [n])]
  exact fixK_dic h
theorem fix_disp3 {a b a2 b2 a3 b3 : Str} {ρ : Env} {ms : Ms} {kk : KR} (n : a ≠ a2) (n2 : a ≠ a3) (n3 : a2 ≠ a3) (h : kk (.dic (([(a, b), (a2, b2), (a3, b3)] : List (Str × Str)).map fun p => (.inr p.1, .str p.2))) (ms ++ [.gone])) :
    wFix (wDisp [(wC (.str a), wC (.str b)), (wC (.str a2), wC (.str b2)), (wC (.str a3), wC (.str b3))]) ρ ms kk := by
  rw [wFix_eq]
  simp only [wDisp, wPairs, wC, keyD]
  refine ⟨by simp, ?_⟩
  rw [mergeD_nd (acc := []) (by simp [n, n2, n3])]
  exact fixK_dic h
end Sy
namespace K69
open PySem PySem.Spec PyProof.Rows L2 Sy
/-! what is shown of a thing -/
def RpOk (d : Dat) (t : PySem.Str) : Prop := SeqAt.shaped (.str t) = true ∧ ∀ (ms : Ms) (k : KR), k (.str t) ms → wReprF [d] ms k
def rpB (d : Dat) : Bool := isCont d && pureF d && (toPyF d).showable && decide ((toPyF d).depth ≤ 64) && decide ((toPyF d).shown.length ≤ 1000) && SeqAt.shaped (.str (toPyF d).shown)
theorem rpB_ok {d : Dat} (h : rpB d = true) : RpOk d (toPyF d).shown := by
  unfold rpB at h
  simp only [Bool.and_eq_true, decide_eq_true_eq] at h
  obtain ⟨⟨⟨⟨⟨h1, h2⟩, h3⟩, h4⟩, h5⟩, h6⟩ := h
  refine ⟨h6, fun ms k hk => ?_⟩
  simp only [wReprF, h1, if_true]
  exact ⟨h2, h3, h4, sz_le h5, hk⟩
theorem rp_non : RpOk .non (PyData.shown .none) := by
  refine ⟨by decide +kernel, fun ms k hk => ?_⟩
  simp only [wReprF, isCont, Bool.false_eq_true, if_false, wReprA, dicOf]
  exact ⟨.non, rfl, rfl, by decide, by decide, by decide, sz_le (by decide), hk⟩
theorem eqv3 {w t : PySem.Str} : PyData.eqv (toPy (.lst [.str w, .str t, .bl true])) (toPy (.lst [.str w, .str t, .bl true])) = true := by simp [PyData.eqv]
theorem ne3 {w t : PySem.Str} {ms : Ms} {k : KR} (hw : SeqAt.shaped (.str w) = true) (ht : SeqAt.shaped (.str t) = true) (h : k (.bl false) ms) : wNe (.lst [.str w, .str t, .bl true]) (.lst [.str w, .str t, .bl true]) ms k := by
  have f : fine 2 (.lst [.str w, .str t, .bl true]) := fine_lst fun d hd => by
    simp only [List.mem_cons, List.mem_nil_iff, or_false] at hd
    rcases hd with rfl | rfl | rfl
    · exact fine_leaf (by decide) hw
    · exact fine_leaf (by decide) ht
    · exact fine_leaf (by decide) rfl
  refine ⟨_, _, rfl, rfl, f.1, f.1, f.shaped (by decide), f.shaped (by decide), ?_⟩
  rw [eqv3]
  exact h
theorem xtT : xt "InvalidTree" (.own "InvalidTree") = some true := by decide +kernel
theorem xtN : xt "InvalidNeed" (.own "InvalidTree") = some false := by decide +kernel
theorem xtN2 : xt "InvalidNeed" (.own "InvalidNeed") = some true := by decide +kernel
theorem ktT : kt (.own "InvalidTree") (.own "CacheError") = some true := by decide +kernel
theorem ktN : kt (.own "InvalidNeed") (.own "CacheError") = some true := by decide +kernel
theorem xsT : xsB "InvalidTree" = true := by decide +kernel
theorem xsN : xsB "InvalidNeed" = true := by decide +kernel
abbrev lamQ : PySem.Str := "_law_errors_right.<locals>.<lambda>"
/-- told of a tree -/
theorem said_t {wb : WE} {ρ : Sy.Env} {ms : Ms} {k : KR} {d : Dat} {t : PySem.Str} (h0 : ms[0]? = some tabC) (hr : RpOk d t) (hb : ∀ (K : KR) (KX : KXF), (∀ g, KX "InvalidTree" [("given", d)] (ms ++ g)) → wb ⟨ρ.sl, fun _ C fs m => KX C fs m, Str.empty, []⟩ ms K)
    (hk : ∀ g, k (.lst [.str "tree", .str t, .bl true]) (ms ++ g)) : wLam 0 ("_law_errors_right", none) lamQ N__law_said w__law_said wb ρ ms k := by
  refine ⟨h0, fun f dd vs => ?_⟩
  show w__law_said _ (endsF k) ⟨[some _, none], _, Str.empty, []⟩ ms
  refine seq_of ?_
  show w__law_said_1 _ _ _ ms
  refine ⟨rfl, ?_⟩
  refine hb _ (fun C fs m => clW xt { nx := w__law_said_4 _ (endsF k), rt := (endsF k).rt, bk := (endsF k).bk, ct := (endsF k).ct } _ _ _ C fs m) fun g => ?_
  simp only [clW, xtT]
  intro a
  show w__law_said_3 _ _ ⟨[some _, some (.ref a)], neverX, "InvalidTree", (Str.empty, .ref a) :: [("given", d)]⟩ (ms ++ g)
  refine lst_of (wcons (wc (wcons ?_)))
  simp only [wCB, wCons, wNil, wXs]
  refine wv (d := .ref a) rfl ?_
  refine ⟨rfl, by simp, ?_⟩
  simp only [List.lookup, beq_self_eq_true]
  refine hr.2 _ _ ?_
  refine wcons ?_
  simp only [wXIs, wCons, wNil]
  refine wv (d := .ref a) rfl ?_
  refine wc ?_
  refine ⟨rfl, xsT, ?_⟩
  simp only [clsK, ktT]
  exact ⟨sz_le (show 3 ≤ 1000 by decide), hk g⟩
/-- told of needs -/
theorem said_n {wb : WE} {ρ : Sy.Env} {ms : Ms} {k : KR} {d : Dat} {t : PySem.Str} (h0 : ms[0]? = some tabC) (hr : RpOk d t) (hb : ∀ (K : KR) (KX : KXF), (∀ g, KX "InvalidNeed" [("given", d)] (ms ++ g)) → wb ⟨ρ.sl, fun _ C fs m => KX C fs m, Str.empty, []⟩ ms K)
    (hk : ∀ g, k (.lst [.str "need", .str t, .bl true]) (ms ++ g)) : wLam 0 ("_law_errors_right", none) lamQ N__law_said w__law_said wb ρ ms k := by
  refine ⟨h0, fun f dd vs => ?_⟩
  show w__law_said _ (endsF k) ⟨[some _, none], _, Str.empty, []⟩ ms
  refine seq_of ?_
  show w__law_said_1 _ _ _ ms
  refine ⟨rfl, ?_⟩
  refine hb _ (fun C fs m => clW xt { nx := w__law_said_4 _ (endsF k), rt := (endsF k).rt, bk := (endsF k).bk, ct := (endsF k).ct } _ _ _ C fs m) fun g => ?_
  simp only [clW, xtN, xtN2]
  intro a
  show w__law_said_2 _ _ ⟨[some _, some (.ref a)], neverX, "InvalidNeed", (Str.empty, .ref a) :: [("given", d)]⟩ (ms ++ g)
  refine lst_of (wcons (wc (wcons ?_)))
  simp only [wCB, wCons, wNil, wXs]
  refine wv (d := .ref a) rfl ?_
  refine ⟨rfl, by simp, ?_⟩
  simp only [List.lookup, beq_self_eq_true]
  refine hr.2 _ _ ?_
  refine wcons ?_
  simp only [wXIs, wCons, wNil]
  refine wv (d := .ref a) rfl ?_
  refine wc ?_
  refine ⟨rfl, xsN, ?_⟩
  simp only [clsK, ktN]
  exact ⟨sz_le (show 3 ≤ 1000 by decide), hk g⟩
end K69
namespace Sy
open PySem PySem.Spec PyProof.Rows L2
theorem ifs_of {wt : WT} {wa wb : WS} {E : WEnds} {ρ : Env} {ms : Ms} (h : wt ρ ms fun b ms1 => if b = true then wa E ρ ms1 else wb E ρ ms1) : wIfS wt wa wb E ρ ms := h
theorem bt_of {we : WE} {ρ : Env} {ms : Ms} {k : Bool → Ms → Prop} (h : we ρ ms fun a ms1 => match a with
    | .bl b => k b ms1
    | _ => False) : wBt we ρ ms k := h
theorem cb_of {w : WC} {wa : WA} {ρ : Env} {ms : Ms} {k : KR} (h : wa ρ ms fun rs ms1 => w rs ms1 k) : wCB w wa ρ ms k := h
theorem call_of {R : FSpec} {wa : WA} {ρ : Env} {ms : Ms} {k : KR} (h : wa ρ ms fun rs ms1 => R rs ms1 k (ρ.ex ρ.sl)) : wCall R wa ρ ms k := h
end Sy
namespace K69
open PySem PySem.Spec PyProof.Rows L2 Sy
section
variable {ps : List (PySem.Str × PySem.Str)} {ex : KX} {E : WEnds} {M : Ms} {d : Dat} {t : PySem.Str} {v1 v2 v4 v5 : Option Dat}
theorem tell_rest {w : PySem.Str} {ρ : Sy.Env} {kk : KR} (hw : SeqAt.shaped (.str w) = true) (hr : RpOk d t) (h3 : ρ.sl[3]? = some (some d)) (hk : kk (.bl false) M) :
    wLst (wCons (wC (.str w)) (wCons (wCB wReprF (wCons (wVar 3) wNil)) (wCons (wC (.bl true)) wNil))) ρ M fun b ms2 => wNe (.lst [.str w, .str t, .bl true]) b ms2 kk := by
  refine lst_of (wcons (wc (wcons (cb_of (wcons (wv h3 (wnil ?_)))))))
  refine hr.2 _ _ ?_
  refine wcons (wc (wnil ⟨sz_le (show 3 ≤ 1000 by decide), ?_⟩))
  exact ne3 hw hr.1 hk
theorem er_2 (h0 : M[0]? = some tabC) (hb : BadT d) (hr : RpOk d t)
    (hE : ∀ g, E.nx ⟨[some (.dic (dps ps)), v1, v2, some d, v4, v5], ex, Str.empty, []⟩ (M ++ g)) : w__law_errors_right_2 E ⟨[some (.dic (dps ps)), v1, v2, some d, v4, v5], ex, Str.empty, []⟩ M := by
  have sw : SeqAt.shaped (.str "tree") = true := by decide +kernel
  refine seq_of (ifs_of (bt_of (op_of ?_)))
  refine said_t (d := d) (t := t) h0 hr (fun K KX hk => ?_) fun g => ?_
  · refine call_of (wcons (wv rfl (wcons (wc (wnil ?_)))))
    exact ⟨d, .non, rfl, .inr (.inl ⟨hb, hk⟩)⟩
  refine tell_rest sw hr rfl ?_
  simp only [Bool.false_eq_true, if_false, wNext]
  refine ifs_of (bt_of (op_of ?_))
  refine said_t (d := d) (t := t) (at_app h0) hr (fun K KX hk => ?_) fun g2 => ?_
  · refine call_of (wcons (wv rfl (wcons (wc (wcons (wc (wnil ?_)))))))
    exact ⟨d, .non, .non, rfl, .inr (.inl ⟨hb, hk⟩)⟩
  refine tell_rest sw hr rfl ?_
  simp only [Bool.false_eq_true, if_false, wNext]
  rw [List.append_assoc]
  exact hE _
theorem er_4 (h0 : M[0]? = some tabC) (T : TreeOk ps) (hb : BadN ps d) (hr : RpOk d t)
    (hE : ∀ g, E.nx ⟨[some (.dic (dps ps)), v1, v2, some d, v4, v5], ex, Str.empty, []⟩ (M ++ g)) : w__law_errors_right_4 E ⟨[some (.dic (dps ps)), v1, v2, some d, v4, v5], ex, Str.empty, []⟩ M := by
  have sw : SeqAt.shaped (.str "need") = true := by decide +kernel
  refine seq_of (ifs_of (bt_of (op_of ?_)))
  refine said_n (d := d) (t := t) h0 hr (fun K KX hk => ?_) fun g => ?_
  · refine call_of (wcons (wv rfl (wcons (wv rfl (wnil ?_)))))
    exact ⟨_, d, rfl, .inr (.inr ⟨ps, rfl, T, hb, hk⟩)⟩
  refine tell_rest sw hr rfl ?_
  simp only [Bool.false_eq_true, if_false, wNext]
  refine ifs_of (bt_of (op_of ?_))
  refine said_n (d := d) (t := t) (at_app h0) hr (fun K KX hk => ?_) fun g2 => ?_
  · refine call_of (wcons (wv rfl (wcons (wv rfl (wcons (wc (wnil ?_)))))))
    exact ⟨_, d, .non, rfl, .inr (.inr ⟨ps, rfl, T, hb, hk⟩)⟩
  refine tell_rest sw hr rfl ?_
  simp only [Bool.false_eq_true, if_false, wNext]
  rw [List.append_assoc]
  exact hE _
end
/-! the odd things -/
def pw (c : Nat) : PySem.Str := ("n" : PySem.Str) ++ (⟨#[c]⟩ : PySem.Str)
def wideL : List (PySem.Str × PySem.Str) := ("abcdefghijkl" : PySem.Str).cps.toList.map fun c => (pw c, "store")
def odds1 : List Dat := [.non, .dic [], .lst [], .dic (dps [("a", "a")]), .dic (dps [("a", "b"), ("b", "a")]), .dic (dps [("a", "other")]), .dic (dps [("store", "store")]), .dic [(.inr "a", .non)]]
def odds2 : List Dat := [.dic (dps [("A", "store")]), .dic [(.inl 5, .str "store")], .dic (dps [("a", "store"), ("b", "c")]), .dic [(.inr "a", .lst [.str "store"])], .dic (dps wideL)]
def odds3 : List Dat := [.dic (dps [("a", "b"), ("b", "c"), ("c", "b")])]
def OddT (d : Dat) : Prop := BadT d ∧ ∃ t, RpOk d t
theorem odd_1 : ∀ d ∈ odds1, OddT d := by
  intro d hd
  simp only [odds1, List.mem_cons, List.mem_nil_iff, or_false] at hd
  rcases hd with rfl | rfl | rfl | rfl | rfl | rfl | rfl | rfl
  · exact ⟨.non, _, rp_non⟩
  · exact ⟨.size [] (.inl rfl), _, rpB_ok (by decide +kernel)⟩
  · exact ⟨.lst [], _, rpB_ok (by decide +kernel)⟩
  · exact ⟨.cyc _ ⟨by decide, by decide, by decide +kernel, by decide +kernel, by decide +kernel, by decide +kernel⟩ ⟨"a", by decide +kernel, by decide +kernel⟩, _, rpB_ok (by decide +kernel)⟩
  · exact ⟨.cyc _ ⟨by decide, by decide, by decide +kernel, by decide +kernel, by decide +kernel, by decide +kernel⟩ ⟨"a", by decide +kernel, by decide +kernel⟩, _, rpB_ok (by decide +kernel)⟩
  · exact ⟨.cyc _ ⟨by decide, by decide, by decide +kernel, by decide +kernel, by decide +kernel, by decide +kernel⟩ ⟨"a", by decide +kernel, by decide +kernel⟩, _, rpB_ok (by decide +kernel)⟩
  · exact ⟨.ent _ (by decide) (by decide) (by decide +kernel) (by decide +kernel) (by decide +kernel), _, rpB_ok (by decide +kernel)⟩
  · exact ⟨.ent _ (by decide) (by decide) (by decide +kernel) (by decide +kernel) (by decide +kernel), _, rpB_ok (by decide +kernel)⟩
theorem wide_len : wideL.length = 12 := by decide +kernel
theorem wide_nd : (wideL.map (·.1)).Nodup := by decide +kernel
theorem odd_2 : ∀ d ∈ odds2, OddT d := by
  intro d hd
  simp only [odds2, List.mem_cons, List.mem_nil_iff, or_false] at hd
  rcases hd with rfl | rfl | rfl | rfl | rfl
  · exact ⟨.ent _ (by decide) (by decide) (by decide +kernel) (by decide +kernel) (by decide +kernel), _, rpB_ok (by decide +kernel)⟩
  · exact ⟨.ent _ (by decide) (by decide) (by decide +kernel) (by decide +kernel) (by decide +kernel), _, rpB_ok (by decide +kernel)⟩
  · exact ⟨.cyc _ ⟨by decide, by decide, by decide +kernel, by decide +kernel, by decide +kernel, by decide +kernel⟩ ⟨"b", by decide +kernel, by decide +kernel⟩, _, rpB_ok (by decide +kernel)⟩
  · exact ⟨.ent _ (by decide) (by decide) (by decide +kernel) (by decide +kernel) (by decide +kernel), _, rpB_ok (by decide +kernel)⟩
  · exact ⟨.size _ (.inr (by simp [kvD, wide_len])), _, rpB_ok (by decide +kernel)⟩
theorem odd_3 : ∀ d ∈ odds3, OddT d := by
  intro d hd
  simp only [odds3, List.mem_cons, List.mem_nil_iff, or_false] at hd
  rcases hd with rfl
  exact ⟨.cyc _ ⟨by decide, by decide, by decide +kernel, by decide +kernel, by decide +kernel, by decide +kernel⟩ ⟨"a", by decide +kernel, by decide +kernel⟩, _, rpB_ok (by decide +kernel)⟩
def needsL (x : PySem.Str) : List Dat := [.non, .lst [], .dic [(.inr "other", .int 1)], .dic [(.inr x, .int 0)], .dic [(.inr x, .int 100)], .dic [(.inr x, .bl true)], .dic [(.inr x, .str "1")], .dic [(.inr "store", .int 1)], .dic [(.inl 5, .int 1)]]
def OddN (ps : List (PySem.Str × PySem.Str)) (d : Dat) : Prop := BadN ps d ∧ ∃ t, RpOk d t
theorem rp_names : (nms.all fun x => rpB (.dic [(.inr x, .int 0)]) && rpB (.dic [(.inr x, .int 100)]) && rpB (.dic [(.inr x, .bl true)]) && rpB (.dic [(.inr x, .str "1")])) = true := by decide +kernel
theorem other_no : ("other" : PySem.Str) ∉ nms ∧ ("store" : PySem.Str) ∉ nms := by decide +kernel
theorem odd_n {ps : List (PySem.Str × PySem.Str)} (T : TreeOk ps) {x : PySem.Str} (hx : x ∈ ks ps) : ∀ d ∈ needsL x, OddN ps d := by
  have hr := List.all_eq_true.mp rp_names x (T.mem x hx)
  simp only [Bool.and_eq_true] at hr
  obtain ⟨⟨⟨r1, r2⟩, r3⟩, r4⟩ := hr
  have one : ∀ v : Dat, leafD v = true → rangeB 1 99 v = false → BadN ps (.dic [(.inr x, v)]) := fun v h1 h2 =>
    .val [(x, v)] (by simp) (by simp) (fun p hp => by rw [List.mem_singleton.mp hp]; exact ⟨hx, h1⟩) (by simp [h2])
  have key : ∀ (y : PySem.Str) (v : Dat), y ∉ nms → BadN ps (.dic [(.inr y, v)]) := fun y v h =>
    .key _ (by simp) (by
      have : decide (y ∈ ks ps) = false := decide_eq_false fun z => h (T.mem y z)
      simp only [List.all_cons, List.all_nil, nkB, this, Bool.false_and])
  intro d hd
  simp only [needsL, List.mem_cons, List.mem_nil_iff, or_false] at hd
  rcases hd with rfl | rfl | rfl | rfl | rfl | rfl | rfl | rfl | rfl
  · exact ⟨.non, _, rp_non⟩
  · exact ⟨.lst [], _, rpB_ok (by decide +kernel)⟩
  · exact ⟨key _ _ other_no.1, _, rpB_ok (by decide +kernel)⟩
  · exact ⟨one _ rfl rfl, _, rpB_ok r1⟩
  · exact ⟨one _ rfl rfl, _, rpB_ok r2⟩
  · exact ⟨one _ rfl rfl, _, rpB_ok r3⟩
  · exact ⟨one _ rfl rfl, _, rpB_ok r4⟩
  · exact ⟨key _ _ other_no.2, _, rpB_ok (by decide +kernel)⟩
  · exact ⟨.key _ (by simp) rfl, _, rpB_ok (by decide +kernel)⟩
theorem p__law_errors_right : ∀ rs ms q qx, R__law_errors_right rs ms q qx → w__law_errors_right (endsF q) (startE N__law_errors_right rs qx) ms := by
  rintro rs ms q qx ⟨ps, rfl, T, h0, k⟩
  have hz := size_big
  have h1 : 0 < ps.length := T.strs.len1
  show w__law_errors_right (endsF q) ⟨[some (.dic (dps ps)), none, none, none, none, none], fun _ C fs ms => qx C fs ms, Str.empty, []⟩ ms
  refine seq_of (asg_of ?_)
  rw [wFix_eq]
  refine cb_of (wcons (lc_of ?_))
  simp only [wiStr]
  refine wc ?_
  show lcW _ _ _ _ _ (("abcdefghijkl" : PySem.Str).cps.toList.map fun c => Dat.str ⟨#[c]⟩) [] ms
  have l12 : ("abcdefghijkl" : PySem.Str).cps.toList.length = 12 := by decide +kernel
  refine lcW_M (f := fun c => Dat.str ⟨#[c]⟩) (g := fun c => .tup [.str (pw c), .str "store"]) ?_ (by rw [l12]; exact sz_le (by decide)) ?_
  · intro c hc kk hk
    simp only [wgName]
    simp only [wTup]
    refine wcons (op_of (wc (wv (d := Dat.str ⟨#[c]⟩) rfl ?_)))
    simp only [wAdd, look]
    refine ⟨sz_le (show 1 + 1 ≤ 1000 by decide), ?_⟩
    exact wcons (wc (wnil ⟨sz_le (show 2 ≤ 1000 by decide), hk⟩))
  have eW : (("abcdefghijkl" : PySem.Str).cps.toList.map fun c => Dat.tup [.str (pw c), .str "store"]) = wideL.map fun p => .tup [.str p.1, .str p.2] := by
    unfold wideL
    rw [List.map_map]; rfl
  rw [eW]
  refine wnil (dict_kv (f := Dat.str) wide_nd (fixK_dic ?_))
  have st : ms ++ [Cell.gone] = ms ++ [Cell.gone] := rfl
  generalize [Cell.gone] = g0
  show w__law_errors_right_11 (endsF q) ⟨[some (.dic (dps ps)), some (.dic (dps wideL)), none, none, none, none], fun _ C fs ms => qx C fs ms, Str.empty, []⟩ (ms ++ g0)
  refine seq_of (asg_of (lstO_of ?_))
  refine wcons (wc (wcons ?_))
  rw [wFix_eq]
  refine fixK_dic (wcons (lst_of (wnil ⟨sz_le (by simp), ?_⟩)))
  refine wcons (fix_disp1 (key := .inr "a") (a := .str "a") (b := .str "a") rfl (fun _ h => h) (fun _ h => h) ?_)
  refine wcons (fix_disp2 (by decide +kernel) ?_)
  refine wcons (fix_disp1 (key := .inr "a") (a := .str "a") (b := .str "other") rfl (fun _ h => h) (fun _ h => h) ?_)
  refine wcons (fix_disp1 (key := .inr "store") (a := .str "store") (b := .str "store") rfl (fun _ h => h) (fun _ h => h) ?_)
  refine wcons (fix_disp1 (key := .inr "a") (a := .str "a") (b := .non) rfl (fun _ h => h) (fun _ h => h) ?_)
  obtain ⟨g1, hg1⟩ : ∃ g1, ms ++ g0 ++ [Cell.gone] ++ [Cell.gone] ++ [Cell.gone] ++ [Cell.gone] ++ [Cell.gone] ++ [Cell.gone] = ms ++ g1 := ⟨g0 ++ [Cell.gone] ++ [Cell.gone] ++ [Cell.gone] ++ [Cell.gone] ++ [Cell.gone] ++ [Cell.gone], by simp⟩
  rw [hg1]
  refine wnil ⟨sz_le (show 8 ≤ 1000 by decide), ?_⟩
  show w__law_errors_right_10 (endsF q) ⟨[some (.dic (dps ps)), some (.dic (dps wideL)), some (.own (ms ++ g1).length), none, none, none], fun _ C fs ms => qx C fs ms, Str.empty, []⟩ (ms ++ g1 ++ [.lst odds1])
  have a0 : ∀ (M : Ms) (c : Cell) (g : Ms), (M ++ [c] ++ g)[M.length]? = some c := fun M c g => at_app (by simp)
  generalize hl : (ms ++ g1).length = l1
  refine seq_of (asg_of (op_of ?_))
  refine wv (d := .own l1) rfl ?_
  refine lst_of ?_
  refine wcons (fix_disp1 (key := .inr "A") (a := .str "A") (b := .str "store") rfl (fun _ h => h) (fun _ h => h) ?_)
  refine wcons (fix_disp1 (key := .inl 5) (a := .int 5) (b := .str "store") rfl (fun _ h => h) (fun _ h => h) ?_)
  refine wcons (fix_disp2 (by decide +kernel) ?_)
  refine wcons (fix_disp1 (key := .inr "a") (a := .str "a") (b := .lst [.str "store"]) rfl (fun _ h => h) (fun _ h => lst_of (wcons (wc (wnil ⟨sz_le (show 1 ≤ 1000 by decide), h⟩)))) ?_)
  refine wcons (wv (d := .dic (dps wideL)) rfl (wnil ⟨sz_le (show 5 ≤ 1000 by decide), ?_⟩))
  have a1 : (ms ++ g1 ++ [Cell.lst odds1] ++ [Cell.gone] ++ [Cell.gone] ++ [Cell.gone] ++ [Cell.gone])[l1]? = some (.lst odds1) := by
    rw [← hl]
    exact at_app (at_app (at_app (a0 _ _ _)))
  simp only [wAddO, look, a1, Option.bind_some, cellD]
  refine ⟨sz_le (show 8 + 5 ≤ 1000 by decide), ?_⟩
  obtain ⟨g2, hg2⟩ : ∃ g2, ms ++ g1 ++ [Cell.lst odds1] ++ [Cell.gone] ++ [Cell.gone] ++ [Cell.gone] ++ [Cell.gone] = ms ++ g2 := ⟨g1 ++ [Cell.lst odds1] ++ [Cell.gone] ++ [Cell.gone] ++ [Cell.gone] ++ [Cell.gone], by simp⟩
  rw [hg2]
  show w__law_errors_right_9 (endsF q) ⟨[some (.dic (dps ps)), some (.dic (dps wideL)), some (.own (ms ++ g2).length), none, none, none], fun _ C fs ms => qx C fs ms, Str.empty, []⟩ (ms ++ g2 ++ [.lst (odds1 ++ odds2)])
  have o12 : ∀ d ∈ odds1 ++ odds2, OddT d := fun d hd => (List.mem_append.mp hd).elim (odd_1 d) (odd_2 d)
  have l12 : (odds1 ++ odds2).length = 13 := rfl
  generalize odds1 ++ odds2 = os at o12 l12
  refine seq_of ?_
  simp only [wDrop, wApp]
  refine wv (d := .own (ms ++ g2).length) rfl ?_
  have b0 : (ms ++ g2 ++ [Cell.lst os])[(ms ++ g2).length]? = some (.lst os) := by simp
  simp only [b0]
  refine fix_disp3 (by decide +kernel) (by decide +kernel) (by decide +kernel) ?_
  simp only [a0]
  refine ⟨by rw [l12]; exact sz_lt (by decide), ?_⟩
  have st : (ms ++ g2 ++ [Cell.lst os] ++ [Cell.gone]).set (ms ++ g2).length (.lst (os ++ odds3)) = ms ++ g2 ++ [.lst (os ++ odds3)] ++ [Cell.gone] := by
    rw [List.append_assoc (ms ++ g2), List.set_append_right _ _ (Nat.le_refl _)]
    simp
  show w__law_errors_right_8 (endsF q) ⟨[some (.dic (dps ps)), some (.dic (dps wideL)), some (.own (ms ++ g2).length), none, none, none], fun _ C fs ms => qx C fs ms, Str.empty, []⟩ ((ms ++ g2 ++ [Cell.lst os] ++ [Cell.gone]).set (ms ++ g2).length (.lst (os ++ odds3)))
  rw [st]
  have o123 : ∀ d ∈ os ++ odds3, OddT d := fun d hd => (List.mem_append.mp hd).elim (o12 d) (odd_3 d)
  generalize os ++ odds3 = xs at o123
  have t7 : ∀ (g : Ms) (v2 v3 : Option Dat), w__law_errors_right_7 (endsF q) ⟨[some (.dic (dps ps)), some (.dic (dps wideL)), v2, v3, none, none], fun _ C fs ms => qx C fs ms, Str.empty, []⟩ (ms ++ g) := by
    intro g v2 v3
    refine seq_of (asg_of (op_of ?_))
    simp only [wCB, wCons, wNil]
    refine wv (d := .dic (dps ps)) rfl ?_
    simp only [wListD, dicOf]
    rw [keys_kv]
    refine wc (ix_any (by decide) (by simp; omega) fun v hv => ?_)
    obtain ⟨x, hx, rfl⟩ := List.mem_map.mp hv
    show w__law_errors_right_6 (endsF q) ⟨[some (.dic (dps ps)), some (.dic (dps wideL)), v2, v3, some (.str x), none], fun _ C fs ms => qx C fs ms, Str.empty, []⟩ (ms ++ g)
    refine seq_of ?_
    simp only [wFor, wiSeq]
    refine lst_of ?_
    refine wcons (wc (wcons (lst_of (wnil ⟨sz_le (by simp), ?_⟩))))
    refine wcons (fix_disp1 (key := .inr "other") (a := .str "other") (b := .int 1) rfl (fun _ h => h) (fun _ h => h) ?_)
    refine wcons (fix_disp1 (key := .inr x) (a := .str x) (b := .int 0) rfl (fun _ h => wv rfl h) (fun _ h => h) ?_)
    refine wcons (fix_disp1 (key := .inr x) (a := .str x) (b := .int 100) rfl (fun _ h => wv rfl h) (fun _ h => h) ?_)
    refine wcons (fix_disp1 (key := .inr x) (a := .str x) (b := .bl true) rfl (fun _ h => wv rfl h) (fun _ h => h) ?_)
    refine wcons (fix_disp1 (key := .inr x) (a := .str x) (b := .str "1") rfl (fun _ h => wv rfl h) (fun _ h => h) ?_)
    refine wcons (fix_disp1 (key := .inr "store") (a := .str "store") (b := .int 1) rfl (fun _ h => h) (fun _ h => h) ?_)
    refine wcons (fix_disp1 (key := .inl 5) (a := .int 5) (b := .int 1) rfl (fun _ h => h) (fun _ h => h) ?_)
    refine wnil ⟨sz_le (show 9 ≤ 1000 by decide), ?_⟩
    have on := odd_n T hx
    obtain ⟨g3, hg3⟩ : ∃ g3, ms ++ g ++ [Cell.gone] ++ [Cell.gone] ++ [Cell.gone] ++ [Cell.gone] ++ [Cell.gone] ++ [Cell.gone] ++ [Cell.gone] = ms ++ g3 := ⟨g ++ [Cell.gone] ++ [Cell.gone] ++ [Cell.gone] ++ [Cell.gone] ++ [Cell.gone] ++ [Cell.gone] ++ [Cell.gone], by simp⟩
    rw [hg3]
    show forW (wgName 3) w__law_errors_right_4 _ (needsL x) _ _
    generalize needsL x = ns at on
    refine forW_ind (I := fun ds ρ m => (∀ d ∈ ds, OddN ps d) ∧ ∃ (g : Ms) (v3 : Option Dat), m = ms ++ g ∧ ρ = ⟨[some (.dic (dps ps)), some (.dic (dps wideL)), v2, v3, some (.str x), none], fun _ C fs ms => qx C fs ms, Str.empty, []⟩) ?_ ?_ _ _ _ ⟨on, g3, v3, rfl, rfl⟩
    · rintro d ds _ _ ⟨hd, g, v3, rfl, rfl⟩ F hF
      obtain ⟨hb, t, hr⟩ := hd d (by simp)
      refine er_4 (at_app h0) T hb hr fun g' => ?_
      exact hF _ _ ⟨fun y hy => hd y (List.mem_cons_of_mem _ hy), g ++ g', _, by rw [List.append_assoc], rfl⟩
    · rintro _ _ ⟨_, g, v3, rfl, rfl⟩
      exact k g
  refine seq_of ?_
  simp only [wFor, wiSeq, wFix_eq]
  refine wv (d := .own (ms ++ g2).length) rfl ?_
  have c0 : (ms ++ g2 ++ [Cell.lst xs] ++ [Cell.gone])[(ms ++ g2).length]? = some (.lst xs) := a0 _ _ _
  refine fixK_at c0 (.inr (.inl ⟨xs, rfl, rfl⟩)) ?_
  obtain ⟨g3, hg3⟩ : ∃ g3, (ms ++ g2 ++ [Cell.lst xs] ++ [Cell.gone]).set (ms ++ g2).length .gone = ms ++ g3 := ⟨g2 ++ [Cell.gone] ++ [Cell.gone], by
    rw [List.append_assoc (ms ++ g2), List.set_append_right _ _ (Nat.le_refl _)]
    simp⟩
  rw [hg3]
  generalize hw2 : (ms ++ g2).length = l2
  refine forW_ind (I := fun ds ρ m => (∀ d ∈ ds, OddT d) ∧ ∃ (g : Ms) (v3 : Option Dat), m = ms ++ g ∧ ρ = ⟨[some (.dic (dps ps)), some (.dic (dps wideL)), some (.own l2), v3, none, none], fun _ C fs ms => qx C fs ms, Str.empty, []⟩) ?_ ?_ _ _ _ ⟨o123, g3, none, rfl, rfl⟩
  · rintro d ds _ _ ⟨hd, g, v3, rfl, rfl⟩ F hF
    obtain ⟨hb, t, hr⟩ := hd d (by simp)
    refine er_2 (at_app h0) hb hr fun g' => ?_
    exact hF _ _ ⟨fun y hy => hd y (List.mem_cons_of_mem _ hy), g ++ g', _, by rw [List.append_assoc], rfl⟩
  · rintro _ _ ⟨_, g, v3, rfl, rfl⟩
    exact t7 g _ v3
end K69
namespace Sy
open PySem PySem.Spec PyProof.Rows L2
theorem for_of {wi : WI} {wg : WG} {wb : WS} {E : WEnds} {ρ : Env} {ms : Ms} (h : wi ρ ms fun ds ms1 => forW wg wb E ds ρ ms1) : wFor wi wg wb E ρ ms := h
theorem seqi_of {we : WE} {ρ : Env} {ms : Ms} {k : List Dat → Ms → Prop} (h : we ρ ms fun r ms1 => match r with
  | .lst ds => k ds ms1
  | .tup ds => k ds ms1
  | _ => False) : wiSeq we ρ ms k := h
theorem keys_of {i : Nat} {d : Dat} {kvs : List (Key × Dat)} {ρ : Env} {ms : Ms} {k : List Dat → Ms → Prop} (h : ρ.sl[i]? = some (some d)) (hf : frzOf ms d = some kvs) (hk : k (kvs.map fun p => datK p.1) ms) : wiKeys (wVar i) ρ ms k := by
  simp only [wiKeys]
  refine wv h ?_
  simp only [hf]
  exact hk
theorem tup_of {wa : WA} {ρ : Env} {ms : Ms} {k : KR} (h : wa ρ ms fun rs ms1 => rs.length ≤ sizeLine ∧ k (.tup rs) ms1) : wTup wa ρ ms k := h
theorem step_nm {i : Nat} {we : WE} {ρ : Env} {d : Dat} {ms : Ms} {A : KR} {B : Ms → Prop} (h : we (ρ.put i d) ms A) : wgName i d ρ ms fun ρ1 ms1 => wYes ρ1 ms1 fun b ms2 => if b = true then we ρ1 ms2 A else B ms2 := by
  simp only [wgName, wYes, if_true]
  exact h
theorem step_M {i : Nat} {we : WE} {ρ : Env} {d : Dat} {ms : Ms} {A : KR} (h : we (ρ.put i d) ms A) : wgName i d ρ ms fun ρ1 ms1 => we ρ1 ms1 A := h
theorem lckE_of {i j : Nat} {we : WE} {kvs : List (Key × Dat)} {ρ : Env} {ms : Ms} {k : KR} (h : ρ.sl[i]? = some (some (.own j))) (e : ms[j]? = some (.dic kvs)) (hw : we ρ (ms.set j (.lck (.dic kvs))) fun r ms1 => ms1[j]? = some (.lck (.dic kvs)) ∧ k r (ms1.set j (.dic kvs))) : wLckE i we ρ ms k := by
  simp only [wLckE, h, e]
  exact hw
theorem add_ll {a b : List Dat} {ms : Ms} {k : KR} (hl : a.length + b.length ≤ sizeLine) (h : k (.lst (a ++ b)) ms) : wAdd (.lst a) (.lst b) ms k := by
  simp only [wAdd, look]
  exact ⟨hl, h⟩
theorem add_ii {a b : Int} {ms : Ms} {k : KR} (h : k (.int (a + b)) ms) : wAdd (.int a) (.int b) ms k := by
  simp only [wAdd, look]
  exact h
end Sy
namespace K69
open PySem PySem.Spec PyProof.Rows L2 Sy
theorem rp_bl {b : Bool} {ms : Ms} {k : KR} (h : k (.str (PyData.shown (.bool b))) ms) : wReprF [.bl b] ms k := by
  simp only [wReprF, isCont, Bool.false_eq_true, if_false, wReprA, dicOf]
  refine ⟨.bl b, rfl, rfl, ?_, ?_, ?_, ?_, h⟩
  · cases b <;> decide
  · cases b <;> decide
  · cases b <;> decide
  · refine sz_le ?_
    cases b <;> decide
theorem thd_th {ps : List (PySem.Str × PySem.Str)} {nd : List (PySem.Str × Int)} {t : Dat} (h : ThD t) : ∃ P, Th ps nd t P := by
  rcases h with rfl | ⟨ds, rfl⟩ | ⟨kvs, rfl, H⟩
  · exact ⟨_, .non⟩
  · exact ⟨_, .lst ds⟩
  · exact ⟨_, .dic kvs H⟩
section
variable {ns : List Int} {t : Int} {ex : KX} {E : WEnds} {ps : List (PySem.Str × PySem.Str)} {nd : List (PySem.Str × Int)} (T : TreeOk ps) (N : NeedOk ps nd)
include T N
theorem l_if {M : Ms} {d : Dat} {v1 v2 v5 v6 v7 v9 v10 : Option Dat} (h : ThD d)
    (hE : ∀ g, E.nx ⟨[some (.scr ns), v1, v2, some (.dic (dps ps)), some (.dic (dnd nd)), v5, v6, v7, some d, v9, v10], ex, Str.empty, []⟩ (M ++ g)) :
    wIfS (wBt (wOp wNeS (wCB wReprF (wCons (wCall R_serve (wCons (wVar 3) (wCons (wVar 4) (wCons (wVar 8) wNil)))) wNil)) (wCB wReprF (wCons (wCall R__law_serve (wCons (wVar 3) (wCons (wVar 4) (wCons (wVar 8) wNil)))) wNil)))) (wRet (wC (.bl false))) wNext E ⟨[some (.scr ns), v1, v2, some (.dic (dps ps)), some (.dic (dnd nd)), v5, v6, v7, some d, v9, v10], ex, Str.empty, []⟩ M := by
  obtain ⟨P, th⟩ := thd_th (ps := ps) (nd := nd) h
  refine ifs_of (bt_of (op_of (cb_of (wcons (call_of ?_)))))
  refine wcons (wv rfl (wcons (wv rfl (wcons (wv rfl (wnil ?_))))))
  have go : ∀ b : Bool, (b = true → P) → (b = false → ¬ P) → ∀ g, wNil ⟨[some (.scr ns), v1, v2, some (.dic (dps ps)), some (.dic (dnd nd)), v5, v6, v7, some d, v9, v10], ex, Str.empty, []⟩ (M ++ g) fun rs ms1 => wReprF (.bl b :: rs) ms1 fun a ms2 => wCB wReprF (wCons (wCall R__law_serve (wCons (wVar 3) (wCons (wVar 4) (wCons (wVar 8) wNil)))) wNil) ⟨[some (.scr ns), v1, v2, some (.dic (dps ps)), some (.dic (dnd nd)), v5, v6, v7, some d, v9, v10], ex, Str.empty, []⟩ ms2 fun c ms3 => wNeS a c ms3 fun r ms4 => match r with
      | .bl b => if b = true then wRet (wC (.bl false)) E ⟨[some (.scr ns), v1, v2, some (.dic (dps ps)), some (.dic (dnd nd)), v5, v6, v7, some d, v9, v10], ex, Str.empty, []⟩ ms4 else wNext E ⟨[some (.scr ns), v1, v2, some (.dic (dps ps)), some (.dic (dnd nd)), v5, v6, v7, some d, v9, v10], ex, Str.empty, []⟩ ms4
      | _ => False := by
    intro b h1 h0 g
    refine wnil (rp_bl ?_)
    refine cb_of (wcons (call_of ?_))
    refine wcons (wv rfl (wcons (wv rfl (wcons (wv rfl (wnil ?_))))))
    have fin : wNil ⟨[some (.scr ns), v1, v2, some (.dic (dps ps)), some (.dic (dnd nd)), v5, v6, v7, some d, v9, v10], ex, Str.empty, []⟩ (M ++ g) fun rs ms2 => wReprF (.bl b :: rs) ms2 fun c ms3 => wNeS (.str (PyData.shown (.bool b))) c ms3 fun r ms4 => match r with
      | .bl b => if b = true then wRet (wC (.bl false)) E ⟨[some (.scr ns), v1, v2, some (.dic (dps ps)), some (.dic (dnd nd)), v5, v6, v7, some d, v9, v10], ex, Str.empty, []⟩ ms4 else wNext E ⟨[some (.scr ns), v1, v2, some (.dic (dps ps)), some (.dic (dnd nd)), v5, v6, v7, some d, v9, v10], ex, Str.empty, []⟩ ms4
      | _ => False := by
      refine wnil (rp_bl ?_)
      simp only [wNeS, look, decide_true, Bool.not_true, Bool.false_eq_true, if_false, wNext]
      exact hE g
    refine ⟨ps, nd, d, P, rfl, T, N, th, fun hp => ?_, fun hp => ?_⟩
    · cases b with
      | true => exact fin
      | false => exact absurd hp (h0 rfl)
    · cases b with
      | true => exact absurd (h1 rfl) hp
      | false => exact fin
  exact ⟨_, _, d, rfl, .inl ⟨ps, nd, P, rfl, rfl, T, N, th, fun hp g => go true (fun _ => hp) (fun z => by cases z) g, fun hp g => go false (fun z => by cases z) (fun _ => hp) g⟩⟩
theorem l_1 {M : Ms} {d : Dat} {v1 v2 v5 v6 v7 v9 v10 : Option Dat} (h0 : M[0]? = some tabC) (h : ThD d ∨ ∃ jg al, d = .own jg ∧ M[jg]? = some (.dic (dnd al)) ∧ ThD (.dic (dnd al)))
    (hE : ∀ (d : Dat) (M' : Ms), M'[0]? = some tabC → E.nx ⟨[some (.scr ns), v1, v2, some (.dic (dps ps)), some (.dic (dnd nd)), v5, v6, v7, some d, v9, v10], ex, Str.empty, []⟩ M') :
    w_law_1 E ⟨[some (.scr ns), v1, v2, some (.dic (dps ps)), some (.dic (dnd nd)), v5, v6, v7, some d, v9, v10], ex, Str.empty, []⟩ M := by
  unfold w_law_1
  rcases h with h | ⟨jg, al, rfl, e, h⟩
  · have : ∀ ws : WS, ws E ⟨[some (.scr ns), v1, v2, some (.dic (dps ps)), some (.dic (dnd nd)), v5, v6, v7, some d, v9, v10], ex, Str.empty, []⟩ M → wFzV 8 ws E ⟨[some (.scr ns), v1, v2, some (.dic (dps ps)), some (.dic (dnd nd)), v5, v6, v7, some d, v9, v10], ex, Str.empty, []⟩ M := by
      intro ws hw
      unfold wFzV
      rcases h with rfl | ⟨ds, rfl⟩ | ⟨kvs, rfl, H⟩ <;> exact hw
    refine this _ (l_if T N h fun g => hE _ _ (at_app h0))
  · unfold wFzV
    simp only [List.getElem?_cons_succ, List.getElem?_cons_zero, e]
    refine l_if T N h fun g => hE _ _ (at_app ?_)
    have : jg ≠ 0 := fun z => by
      rw [z, h0] at e; cases e
    rw [List.getElem?_set_ne this]
    exact h0
end
theorem l_9 {ns : List Int} {t : Int} {ex : KX} {E : WEnds} {m : Ms} {v2 v3 v4 v5 v6 v7 v8 v9 v10 : Option Dat} (h0 : 0 ≤ t) (h1 : t < 1000) (tb : m[0]? = some tabC)
    (hE : ∀ v2 v3 v4 v5 v6 v7 v8 v9 v10 (m' : Ms), m'[0]? = some tabC → E.nx ⟨[some (.scr ns), some (.int t), v2, v3, v4, v5, v6, v7, v8, v9, v10], ex, Str.empty, []⟩ m') :
    w_law_9 E ⟨[some (.scr ns), some (.int t), v2, v3, v4, v5, v6, v7, v8, v9, v10], ex, Str.empty, []⟩ m := by
  have hz := size_big
  refine seq_of (asg_of (call_of (wcons (wv rfl (wcons (wv rfl (wnil ?_)))))))
  refine ⟨ns, t, rfl, h0, h1, fun n s so => ?_⟩
  generalize hj : m.length = j
  generalize hB : m ++ [src n s] = B
  have hjB : j < B.length := by rw [← hB, ← hj]; simp
  have eB : B[j]? = some (src n s) := by rw [← hB, ← hj]; simp
  have tB : B[0]? = some tabC := by rw [← hB]; exact at_app tb
  have hj0 : j ≠ 0 := fun z => by
    rw [z, tB] at eB; cases eB
  have tM : ∀ (c : Cell) (g : Ms), (B.set j c ++ g)[0]? = some tabC := fun c g => at_app (by rw [List.getElem?_set_ne hj0]; exact tB)
  have stB : B = B.set j (src n s) ++ [] := by rw [List.append_nil, ms_same eB]
  rw [stB]
  generalize hG : ([] : Ms) = g0
  clear hG
  show w_law_8 E ⟨[some (.scr ns), some (.int t), some (.own j), v3, v4, v5, v6, v7, v8, v9, v10], ex, Str.empty, []⟩ (B.set j (src n s) ++ g0)
  refine seq_of (asg_of (call_of (wcons (wv rfl (wcons (wc (wnil ?_)))))))
  refine ⟨j, n, s, 11, rfl, at_set hjB, so, by decide, by decide, fun ps n1 s1 g1 T hlm so1 => ?_⟩
  rw [set_set hjB, List.append_assoc]
  generalize g0 ++ g1 = g2
  show w_law_7 E ⟨[some (.scr ns), some (.int t), some (.own j), some (.dic (dps ps)), v4, v5, v6, v7, v8, v9, v10], ex, Str.empty, []⟩ (B.set j (src n1 s1) ++ g2)
  have hpl := T.len
  refine seq_of (asg_of (call_of (wcons (wv rfl (wcons (wv rfl (wcons (op_of (lst_of (wcons (wc (wcons (wc (wnil ⟨sz_le (show 2 ≤ 1000 by decide), ?_⟩)))))))))))))) 
  refine call_of (wcons (wv rfl (wcons (wc (wnil ?_)))))
  refine drawS hjB so1 (by decide) (by decide) fun r n2 s2 r0 r1 so2 => ?_
  refine ix_any r0 r1 fun v hv => ?_
  obtain ⟨mn, rfl, mn1, mn2⟩ : ∃ mn : Int, v = .int mn ∧ 1 ≤ mn ∧ mn ≤ 99 := by
    simp only [List.mem_cons, List.mem_nil_iff, or_false] at hv
    rcases hv with rfl | rfl
    · exact ⟨4, rfl, by decide, by decide⟩
    · exact ⟨99, rfl, by decide, by decide⟩
  refine wnil ?_
  refine ⟨j, n2, s2, ps, mn, rfl, at_set hjB, so2, T, mn1, mn2, fun nd n3 s3 g3 N so3 => ?_⟩
  rw [set_set hjB, List.append_assoc]
  generalize g2 ++ g3 = g4
  show w_law_6 E ⟨[some (.scr ns), some (.int t), some (.own j), some (.dic (dps ps)), some (.dic (dnd nd)), v5, v6, v7, v8, v9, v10], ex, Str.empty, []⟩ (B.set j (src n3 s3) ++ g4)
  refine seq_of (asg_of (call_of (wcons (wv rfl (wcons (wv rfl (wnil ?_)))))))
  refine ⟨_, _, rfl, .inl ⟨ps, nd, rfl, rfl, T, N, fun j5 g5 hj5 at5 => ?_⟩⟩
  rw [List.append_assoc] at at5 ⊢
  generalize g4 ++ g5 = g6 at at5
  show w_law_5 E ⟨[some (.scr ns), some (.int t), some (.own j), some (.dic (dps ps)), some (.dic (dnd nd)), some (.own j5), v6, v7, v8, v9, v10], ex, Str.empty, []⟩ (B.set j (src n3 s3) ++ g6)
  have hl5 := lt_of_at at5
  generalize hal : (ks ps).map (fun x => (x, least ps nd x)) = al
  have alk : ks al = ks ps := by rw [← hal]; simp [Function.comp_def]
  have aln : (ks al).Nodup := by rw [alk]; exact T.nd
  have all_ : al.length ≤ 11 := by
    have := congrArg List.length alk
    simp at this; omega
  have hke : (planL ps nd).map (·.1) = ks ps := by simp [planL, Function.comp_def]
  have ix5 : ∀ {M : Ms} {x : PySem.Str} {k : KR}, M[j5]? = some (.lck (.dic (kvD id (planL ps nd)))) → x ∈ ks ps → k (.int (least ps nd x)) M → wOp wIxA (wOp wIxA (wVar 5) (wVar 9)) (wC (.int 0)) ⟨[some (.scr ns), some (.int t), some (.own j), some (.dic (dps ps)), some (.dic (dnd nd)), some (.own j5), v6, v7, v8, some (.str x), v10], neverX, Str.empty, []⟩ M k := by
    intro M x k hM hx hk
    have hv : val .non (planL ps nd) x = planV ps nd x := val_mem (d := Dat.non) (l := planL ps nd) (p := (x, planV ps nd x)) (by rw [hke]; exact T.nd) (List.mem_map.mpr ⟨x, hx, rfl⟩)
    have hg : getK (kvD id (planL ps nd)) (.inr x) = some (planV ps nd x) := by
      rw [getK_kv (d := Dat.non) (by rw [hke]; exact hx), hv]; rfl
    refine op_of (op_of (wv rfl (wv (d := .str x) rfl ?_)))
    simp only [wIxA, dicOf, hM, keyD, hg]
    refine wc ?_
    have t0 : atD [Dat.int (least ps nd x), if least ps nd x < 99 then .str (leastS (barsL ps nd x)) else .non] 0 = some (.int (least ps nd x)) := rfl
    simp only [planV, wIxA, dicOf, wIx, look, t0]
    exact hk
  refine seq_of (asg_of (cb_of (wcons ?_)))
  have hat2 : ((B.set j (src n3 s3) ++ g6).set j5 (.lck (.dic (kvD id (planL ps nd)))))[j5]? = some (.lck (.dic (kvD id (planL ps nd)))) := by
    rw [List.getElem?_set_self hl5]
  refine lckE_of rfl at5 (lc_of (keys_of (d := .own j5) (kvs := kvD id (planL ps nd)) rfl (by simp only [frzOf, hat2]) ?_))
  rw [keys_kv, hke]
  refine lcW_M (f := .str) (g := fun x => .tup [.str x, .int (least ps nd x)]) ?_ (by simp; omega) ?_
  · intro x hx kk hkk
    refine step_M (tup_of (wcons (wv (d := .str x) rfl (wcons ?_))))
    refine ix5 hat2 hx ?_
    exact wnil ⟨sz_le (show 2 ≤ 1000 by decide), hkk⟩
  refine ⟨hat2, ?_⟩
  rw [List.set_set, ms_same at5]
  have el : (ks ps).map (fun x => Dat.tup [.str x, .int (least ps nd x)]) = al.map fun p => .tup [.str p.1, .int p.2] := by
    rw [← hal]; simp [Function.comp_def]
  rw [el]
  refine wnil (dict_kv (f := Dat.int) aln ?_)
  generalize hjg : (B.set j (src n3 s3) ++ g6).length = jg
  have hjgB : B.length ≤ jg := by rw [← hjg]; simp
  have jgj : jg ≠ j := by omega
  have gAt : ∀ (c : Cell) (g : Ms), (B.set j c ++ (g6 ++ [.dic (dnd al)] ++ g))[jg]? = some (.dic (dnd al)) := fun c g => by
    rw [← List.append_assoc, ← List.append_assoc, ← hjg]
    exact at_app (by
      have : (B.set j (src n3 s3) ++ g6).length = (B.set j c ++ g6).length := by simp
      rw [this]; simp)
  rw [List.append_assoc]
  have gAt0 : ∀ c : Cell, (B.set j c ++ (g6 ++ [.dic (dnd al)]))[jg]? = some (.dic (dnd al)) := fun c => by
    have := gAt c []
    rw [List.append_nil] at this; exact this
  generalize g6 ++ [.dic (dnd al)] = g7 at gAt gAt0
  show w_law_4 E ⟨[some (.scr ns), some (.int t), some (.own j), some (.dic (dps ps)), some (.dic (dnd nd)), some (.own j5), some (.own jg), v7, v8, v9, v10], ex, Str.empty, []⟩ (B.set j (src n3 s3) ++ g7)
  refine seq_of (asg_of ?_)
  rw [wFix_eq]
  refine cb_of (wcons (lc_of (keys_of (d := .dic (dps ps)) (kvs := dps ps) rfl rfl ?_)))
  rw [keys_kv]
  refine lcW_ind (I := fun ds acc m => ∃ (suf : List PySem.Str) (L : List (PySem.Str × Dat)) (n s : Int), ds = suf.map Dat.str ∧ acc = L.map (fun p => Dat.tup [.str p.1, p.2]) ∧ (∀ x ∈ suf, x ∈ ks ps) ∧ (∀ p ∈ L, p.1 ∈ nmsX ∧ leafD p.2 = true) ∧ L.length + suf.length ≤ 11 ∧ SrcOk n s ∧ m = B.set j (src n s) ++ g7) ?_ ?_ _ _ _ ⟨ks ps, [], n3, s3, rfl, rfl, fun _ h => h, by simp, by simpa using hpl, so3, rfl⟩
  · rintro d ds acc m ⟨suf, L, n, s, e, rfl, hs, hL, hlen, so, rfl⟩ F hF
    cases suf with
    | nil => cases e
    | cons x suf =>
      injection e with e1 e2
      subst e1 e2
      simp only [List.length_cons] at hlen
      refine step_nm (tup_of (wcons (wv (d := .str x) rfl (wcons (op_of (wc (call_of (wcons (wv (d := .own j) rfl (wcons (wc (wnil ?_)))))))))))) 
      refine drawS hjB so (by decide) (by decide) fun r n' s' r0 r1 so' => ?_
      refine add_ii (wnil ?_)
      refine ⟨sz_le (show 2 ≤ 1000 by decide), sz_lt (by simp; omega), ?_⟩
      refine hF _ _ ⟨suf, L ++ [(x, .int (1 + r))], n', s', rfl, by simp, fun y hy => hs y (List.mem_cons_of_mem _ hy), fun p hp => ?_, by simp; omega, so', rfl⟩
      rcases List.mem_append.mp hp with hp | hp
      · exact hL p hp
      · rw [List.mem_singleton.mp hp]; exact ⟨nms_X (T.mem x (hs x (by simp))), rfl⟩
  rintro _ _ ⟨suf, L, n4, s4, e, rfl, hs, hL, hlen, so4, rfl⟩
  refine wnil (dict_th (by omega) hL fun D hD => ?_)
  rw [List.append_assoc]
  have gAt8 : ∀ (c : Cell) (g : Ms), (B.set j c ++ (g7 ++ [.gone] ++ g))[jg]? = some (.dic (dnd al)) := fun c g => by
    rw [← List.append_assoc, ← List.append_assoc]
    exact at_app (at_app (gAt0 c))
  have gAt80 : ∀ c : Cell, (B.set j c ++ (g7 ++ [Cell.gone]))[jg]? = some (.dic (dnd al)) := fun c => by
    have := gAt8 c []
    rw [List.append_nil] at this; exact this
  generalize g7 ++ [Cell.gone] = g8 at gAt8 gAt80
  show w_law_3 E ⟨[some (.scr ns), some (.int t), some (.own j), some (.dic (dps ps)), some (.dic (dnd nd)), some (.own j5), some (.own jg), some (.dic (kvD id D)), v8, v9, v10], ex, Str.empty, []⟩ (B.set j (src n4 s4) ++ g8)
  have tG : ThD (.dic (dnd al)) := by
    have e : dnd al = kvD id (al.map fun p => (p.1, Dat.int p.2)) := by simp [kvD]
    rw [e]
    have ek : ks (al.map fun p => (p.1, Dat.int p.2)) = ks al := by simp [Function.comp_def]
    refine .inr (.inr ⟨_, rfl, ⟨by simp; omega, by rw [ek]; exact aln, fun x hx => ?_, fun p hp => ?_⟩⟩)
    · rw [ek, alk] at hx
      exact nms_X (T.mem x hx)
    · obtain ⟨r, hr, rfl⟩ := List.mem_map.mp hp
      rfl
  refine seq_of (for_of (seqi_of ?_))
  refine op_of (lst_of (wcons (wv rfl (wcons (wv rfl (wnil ⟨sz_le (show 2 ≤ 1000 by decide), ?_⟩))))))
  refine lc_of ?_
  refine wcons (wc (wnil ?_))
  refine ⟨by decide, by decide, ?_⟩
  have rl : (rngD 0 (10 : Int).toNat).length = 10 := by decide +kernel
  generalize rngD 0 (10 : Int).toNat = rs at rl
  refine lcW_ind (I := fun ds acc m => (∀ v ∈ acc, ThD v) ∧ acc.length + ds.length = 10 ∧ ∃ (n s : Int) (g : Ms), SrcOk n s ∧ m = B.set j (src n s) ++ (g8 ++ g)) ?_ ?_ _ _ _ ⟨by simp, by simpa using rl, n4, s4, [], so4, by simp⟩
  · rintro d ds acc m ⟨ha, hlen, n, s, g, so, rfl⟩ F hF
    refine step_nm ?_
    refine call_of (wcons (wv (d := .own j) rfl (wcons (wv (d := .dic (dps ps)) rfl (wcons (wv (d := .own jg) rfl (wnil ?_)))))))
    refine ⟨j, n, s, ps, jg, al, rfl, at_set hjB, so, T, jgj, gAt8 _ _, alk, fun v n' s' g' hv so' => ?_⟩
    rw [set_set hjB, List.append_assoc, List.append_assoc]
    simp only [List.length_cons] at hlen
    refine ⟨sz_lt (by omega), hF _ _ ⟨fun y hy => ?_, by simp; omega, n', s', g ++ g', so', rfl⟩⟩
    rcases List.mem_append.mp hy with hy | hy
    · exact ha y hy
    · rw [List.mem_singleton.mp hy]; exact hv
  rintro acc _ ⟨ha, hlen, n5, s5, g9, so5, rfl⟩
  simp only [List.length_nil, Nat.add_zero] at hlen
  refine add_ll (by rw [hlen]; exact sz_le (show 2 + 10 ≤ 1000 by decide)) ?_
  have errs : ∀ (v8 v9 v10 : Option Dat) (M : Ms), M[0]? = some tabC → w_law_2 E ⟨[some (.scr ns), some (.int t), some (.own j), some (.dic (dps ps)), some (.dic (dnd nd)), some (.own j5), some (.own jg), some (.dic (kvD id D)), v8, v9, v10], ex, Str.empty, []⟩ M := by
    intro v8 v9 v10 M hM
    unfold w_law_2
    refine ifs_of ?_
    simp only [Sy.wNot]
    refine bt_of (call_of (wcons (wv rfl (wnil ?_))))
    refine ⟨ps, rfl, T, hM, fun g => ?_⟩
    simp only [Bool.not_true, Bool.false_eq_true, if_false, wNext]
    exact hE _ _ _ _ _ _ _ _ _ _ (at_app hM)
  show forW (wgName 8) w_law_1 _ (.own jg :: .dic (kvD id D) :: acc) _ _
  rw [forW]
  refine l_1 T N (tM _ _) (.inr ⟨jg, al, rfl, gAt8 _ _, tG⟩) fun d1 M1 hM1 => ?_
  have hrest : ∀ d ∈ (.dic (kvD id D) :: acc), ThD d := fun d hd => by
    rcases List.mem_cons.mp hd with rfl | hd
    · exact .inr (.inr ⟨D, rfl, hD⟩)
    · exact ha d hd
  refine forW_ind (I := fun ds ρ m => (∀ d ∈ ds, ThD d) ∧ m[0]? = some tabC ∧ ∃ (v8 v9 v10 : Option Dat), ρ = ⟨[some (.scr ns), some (.int t), some (.own j), some (.dic (dps ps)), some (.dic (dnd nd)), some (.own j5), some (.own jg), some (.dic (kvD id D)), v8, v9, v10], ex, Str.empty, []⟩) ?_ ?_ _ _ _ ⟨hrest, hM1, _, _, _, rfl⟩
  · rintro d ds _ m ⟨hd, hm, v8, v9, v10, rfl⟩ F hF
    refine l_1 T N hm (.inl (hd d (by simp))) fun d1 M1 hM1 => ?_
    exact hF _ _ ⟨fun y hy => hd y (List.mem_cons_of_mem _ hy), hM1, _, _, _, rfl⟩
  · rintro _ m ⟨_, hm, v8, v9, v10, rfl⟩
    exact errs _ _ _ m hm
theorem p_law : ∀ rs ms q qx, R_law rs ms q qx → w_law (endsF q) (startE N_law rs qx) ms := by
  rintro rs ms q qx ⟨ns, rfl, rfl, hl, k⟩
  have main : ∀ j : Int, 0 ≤ j → j ≤ 8 → -2 ^ 62 ≤ j ∧ j < 2 ^ 62 ∧ forW (wgName 1) w_law_9 { nx := w_law_10 (endsF q), rt := (endsF q).rt, bk := (endsF q).bk, ct := (endsF q).ct } (rngD 0 j.toNat) ⟨[some (.scr ns), none, none, none, none, none, none, none, none, none, none], fun _ C fs ms => qx C fs ms, Str.empty, []⟩ [tabC] := by
    intro j h0 h8
    refine ⟨by omega, by omega, ?_⟩
    refine forW_inv (I := fun ρ m => m[0]? = some tabC ∧ ∃ x1 x2 x3 x4 x5 x6 x7 x8 x9 x10, ρ = ⟨[some (.scr ns), x1, x2, x3, x4, x5, x6, x7, x8, x9, x10], fun _ C fs ms => qx C fs ms, Str.empty, []⟩) (D := fun x => ∃ i : Int, 0 ≤ i ∧ i < 1000 ∧ x = .int i) ?_ ?_ _ (fun x hx => ?_) _ _ ⟨rfl, _, _, _, _, _, _, _, _, _, _, rfl⟩
    · rintro _ ⟨i, i0, i1, rfl⟩ _ m ⟨hm, x1, x2, x3, x4, x5, x6, x7, x8, x9, x10, rfl⟩ F hF
      exact l_9 i0 i1 hm fun x2 x3 x4 x5 x6 x7 x8 x9 x10 m2 hm2 => hF _ _ ⟨hm2, _, _, _, _, _, _, _, _, _, _, rfl⟩
    · rintro _ m ⟨hm, x1, x2, x3, x4, x5, x6, x7, x8, x9, x10, rfl⟩
      exact k m
    · obtain ⟨i, hi, rfl⟩ := rngD_mem hx
      exact ⟨_, by omega, by omega, rfl⟩
  exact main (if (if (8 : Int) < (ns.length : Nat) then 8 else ((ns.length : Nat) : Int)) > 1 then (if (8 : Int) < (ns.length : Nat) then 8 else ((ns.length : Nat) : Int)) else 1) (by split <;> split <;> omega) (by split <;> split <;> omega)
end K69
namespace K69
open PySem PySem.Spec PyProof.Rows L2 Sy
def top (i : Nat) : Stmt := PySem.Challenge.pw_slackcache_k69_allowances_that_serve.main.body.getD i (.Pass ⟨0, 0, 0, 0⟩)
def inCls : Stmt → Nat → Stmt
  | .ClassDef _ _ _ b _ _ _ _ _ _ _, j => b.getD j (.Pass ⟨0, 0, 0, 0⟩)
  | s, _ => s
abbrev s_is_integer : Stmt := top 9
abbrev s_is_in_range : Stmt := top 10
abbrev s_is_word : Stmt := top 11
abbrev s_path_of : Stmt := top 14
abbrev s_check_tree : Stmt := top 15
abbrev s_check_needs : Stmt := top 16
abbrev s_greatest_allowances : Stmt := top 17
abbrev s_serve : Stmt := top 18
abbrev s__law_source : Stmt := top 20
abbrev s__law_draw : Stmt := top 21
abbrev s__law_tree : Stmt := top 22
abbrev s__law_needs : Stmt := top 23
abbrev s__law_serve : Stmt := top 24
abbrev s__law_said : Stmt := top 25
abbrev s__law_bent : Stmt := top 26
abbrev s__law_errors_right : Stmt := top 27
abbrev s_law : Stmt := top 28
abbrev s_InvalidTree___init__ : Stmt := inCls (top 3) 0
abbrev s_InvalidNeed___init__ : Stmt := inCls (top 2) 0
structure Txt (K : PySem.W.Frag) (mg : PySem.Str → Option Value) : Prop where
  f_all : mg "all" = none
  f_any : mg "any" = none
  f_bool : mg "bool" = none
  f_dict : mg "dict" = none
  f_int : mg "int" = none
  f_isinstance : mg "isinstance" = none
  f_len : mg "len" = none
  f_list : mg "list" = none
  f_max : mg "max" = none
  f_min : mg "min" = none
  f_range : mg "range" = none
  f_repr : mg "repr" = none
  f_sorted : mg "sorted" = none
  f_str : mg "str" = none
  c_LETTERS : ∃ t, mg "LETTERS" = some (.str "abcdefghijklmnopqrstuvwxyz" t)
  c_LONGEST : ∃ t, mg "LONGEST" = some (.int 8 t)
  c_MAX_ALLOWANCE : ∃ t, mg "MAX_ALLOWANCE" = some (.int 99 t)
  c_MOST_NODES : ∃ t, mg "MOST_NODES" = some (.int 11 t)
  c_STORE : ∃ t, mg "STORE" = some (.str "store" t)
  g_CacheError : mg "CacheError" = some (.ref (He.ga K "CacheError"))
  g_InvalidNeed : mg "InvalidNeed" = some (.ref (He.ga K "InvalidNeed"))
  g_InvalidTree : mg "InvalidTree" = some (.ref (He.ga K "InvalidTree"))
  g__law_bent : mg "_law_bent" = some (.ref (He.ga K "_law_bent"))
  g__law_draw : mg "_law_draw" = some (.ref (He.ga K "_law_draw"))
  g__law_errors_right : mg "_law_errors_right" = some (.ref (He.ga K "_law_errors_right"))
  g__law_needs : mg "_law_needs" = some (.ref (He.ga K "_law_needs"))
  g__law_said : mg "_law_said" = some (.ref (He.ga K "_law_said"))
  g__law_serve : mg "_law_serve" = some (.ref (He.ga K "_law_serve"))
  g__law_source : mg "_law_source" = some (.ref (He.ga K "_law_source"))
  g__law_tree : mg "_law_tree" = some (.ref (He.ga K "_law_tree"))
  g_check_needs : mg "check_needs" = some (.ref (He.ga K "check_needs"))
  g_check_tree : mg "check_tree" = some (.ref (He.ga K "check_tree"))
  g_greatest_allowances : mg "greatest_allowances" = some (.ref (He.ga K "greatest_allowances"))
  g_is_in_range : mg "is_in_range" = some (.ref (He.ga K "is_in_range"))
  g_is_integer : mg "is_integer" = some (.ref (He.ga K "is_integer"))
  g_is_word : mg "is_word" = some (.ref (He.ga K "is_word"))
  g_path_of : mg "path_of" = some (.ref (He.ga K "path_of"))
  g_serve : mg "serve" = some (.ref (He.ga K "serve"))
  d_is_integer : DefAt K ("is_integer", none) "is_integer" "is_integer" s_is_integer ["obj"]
  d_is_in_range : DefAt K ("is_in_range", none) "is_in_range" "is_in_range" s_is_in_range ["obj", "low", "high"]
  d_is_word : DefAt K ("is_word", none) "is_word" "is_word" s_is_word ["obj"]
  d_path_of : DefAt K ("path_of", none) "path_of" "path_of" s_path_of ["parents", "name"]
  d_check_tree : DefAt K ("check_tree", none) "check_tree" "check_tree" s_check_tree ["obj"]
  d_check_needs : DefAt K ("check_needs", none) "check_needs" "check_needs" s_check_needs ["obj", "parents"]
  d_greatest_allowances : DefAt K ("greatest_allowances", none) "greatest_allowances" "greatest_allowances" s_greatest_allowances ["parents", "needs"]
  d_serve : DefAt K ("serve", none) "serve" "serve" s_serve ["parents", "needs", "allowances"]
  d__law_source : DefAt K ("_law_source", none) "_law_source" "_law_source" s__law_source ["_law_script", "_law_turn"]
  d__law_draw : DefAt K ("_law_draw", none) "_law_draw" "_law_draw" s__law_draw ["_law_source_here", "_law_amount"]
  d__law_tree : DefAt K ("_law_tree", none) "_law_tree" "_law_tree" s__law_tree ["_law_source_here", "_law_most"]
  d__law_needs : DefAt K ("_law_needs", none) "_law_needs" "_law_needs" s__law_needs ["_law_source_here", "_law_parents", "_law_most"]
  d__law_serve : DefAt K ("_law_serve", none) "_law_serve" "_law_serve" s__law_serve ["_law_parents", "_law_needs_here", "_law_given"]
  d__law_said : DefAt K ("_law_said", none) "_law_said" "_law_said" s__law_said ["_law_call"]
  d__law_bent : DefAt K ("_law_bent", none) "_law_bent" "_law_bent" s__law_bent ["_law_source_here", "_law_parents", "_law_given"]
  d__law_errors_right : DefAt K ("_law_errors_right", none) "_law_errors_right" "_law_errors_right" s__law_errors_right ["_law_parents"]
  d_InvalidTree___init__ : DefAt K ("InvalidTree", some "__init__") "__init__" "InvalidTree.__init__" s_InvalidTree___init__ ["self", "given"]
  d_InvalidNeed___init__ : DefAt K ("InvalidNeed", some "__init__") "__init__" "InvalidNeed.__init__" s_InvalidNeed___init__ ["self", "given"]
  kt : KtOk K kt xsB isB
  sm : sysB K = true
  xt : XtOk K xt
  xc : (∀ C, xsB C = true → XcC K (He.ga K C)) ∧ (∀ C, xsB C = true → ∀ f ∈ (xsL.lookup C).getD [], PySem.W.findIn K (.ref (He.ga K C)) f = some none) ∧ (∀ C, xsB C = true → PySem.W.findIn K (.ref (He.ga K C)) "__init__" = some (some (.ref (fA K (C, some "__init__"))))) ∧ (∀ C, xsB C = true → PySem.W.typeIn K (.ref (fA K (C, some "__init__"))) = some (.type "function"))
  bi : BiC K (He.ga K "CacheError")
def tabL : List (PySem.Str × Option PySem.Str) := [("_law_errors_right", none)]
structure Txb (K : PySem.W.Frag) (mg : PySem.Str → Option Value) (base : Heap) : Prop extends Txt K mg where
  tb : ∀ p ∈ tabL, LamX.TabB base mg (codeP K p) (tabP K p)
section
variable {P : Program} {w : World} {K : PySem.W.Frag} {mg : PySem.Str → Option Value} {base : Heap}
theorem sc_InvalidTree___init__ : FnScope ["self", "given"] ["self", "given"] (defScope s_InvalidTree___init__) := ⟨rfl, rfl, rfl, by decide +kernel, rfl, by decide +kernel, by decide +kernel⟩
theorem ox_InvalidTree (T : Txb K mg base) : ExcOk P w K mg base "InvalidTree" ["given"] := exc_init1 (z := "the object is not a tree") T.d_InvalidTree___init__ sc_InvalidTree___init__ (T.xc.1 "InvalidTree" (by decide)) (T.xc.2.1 "InvalidTree" (by decide) "given" (by decide)) (T.xc.2.2.1 "InvalidTree" (by decide)) (T.xc.2.2.2 "InvalidTree" (by decide)) fun f0 cdv A out s H E => (pss_cons (ps_expr (pe_xinit rfl T.g_CacheError T.bi (pa_cons (pv 0) (pa_cons pe_str pa_nil)))) (pss_one (ps_xst (pv 0) (pv 1))))
theorem sc_InvalidNeed___init__ : FnScope ["self", "given"] ["self", "given"] (defScope s_InvalidNeed___init__) := ⟨rfl, rfl, rfl, by decide +kernel, rfl, by decide +kernel, by decide +kernel⟩
theorem ox_InvalidNeed (T : Txb K mg base) : ExcOk P w K mg base "InvalidNeed" ["given"] := exc_init1 (z := "the object is not a need") T.d_InvalidNeed___init__ sc_InvalidNeed___init__ (T.xc.1 "InvalidNeed" (by decide)) (T.xc.2.1 "InvalidNeed" (by decide) "given" (by decide)) (T.xc.2.2.1 "InvalidNeed" (by decide)) (T.xc.2.2.2 "InvalidNeed" (by decide)) fun f0 cdv A out s H E => (pss_cons (ps_expr (pe_xinit rfl T.g_CacheError T.bi (pa_cons (pv 0) (pa_cons pe_str pa_nil)))) (pss_one (ps_xst (pv 0) (pv 1))))
theorem xf_given_InvalidNeed (T : Txb K mg base) : ∀ C ∈ [("InvalidNeed" : PySem.Str)], XcC K (He.ga K C) ∧ PySem.W.findIn K (.ref (He.ga K C)) "given" = some none := fun C h => ⟨T.xc.1 C (by simp only [List.mem_cons, List.mem_nil_iff, or_false] at h; rcases h with rfl <;> decide), T.xc.2.1 C (by simp only [List.mem_cons, List.mem_nil_iff, or_false] at h; rcases h with rfl <;> decide) "given" (by simp only [List.mem_cons, List.mem_nil_iff, or_false] at h; rcases h with rfl <;> decide)⟩
theorem xf_given_InvalidTree (T : Txb K mg base) : ∀ C ∈ [("InvalidTree" : PySem.Str)], XcC K (He.ga K C) ∧ PySem.W.findIn K (.ref (He.ga K C)) "given" = some none := fun C h => ⟨T.xc.1 C (by simp only [List.mem_cons, List.mem_nil_iff, or_false] at h; rcases h with rfl <;> decide), T.xc.2.1 C (by simp only [List.mem_cons, List.mem_nil_iff, or_false] at h; rcases h with rfl <;> decide) "given" (by simp only [List.mem_cons, List.mem_nil_iff, or_false] at h; rcases h with rfl <;> decide)⟩
theorem len_is_integer : ∀ rs ms q qx, R_is_integer rs ms q qx → rs.length = 1 := by
  rintro rs ms q qx ⟨_, rfl, _⟩; rfl
theorem len_is_in_range : ∀ rs ms q qx, R_is_in_range rs ms q qx → rs.length = 3 := by
  rintro rs ms q qx ⟨_, _, _, rfl, _⟩; rfl
theorem len_is_word : ∀ rs ms q qx, R_is_word rs ms q qx → rs.length = 1 := by
  rintro rs ms q qx ⟨_, rfl, _⟩; rfl
theorem len_path_of : ∀ rs ms q qx, R_path_of rs ms q qx → rs.length = 2 := by
  rintro rs ms q qx ⟨_, _, rfl, _⟩; rfl
theorem len_check_tree : ∀ rs ms q qx, R_check_tree rs ms q qx → rs.length = 1 := by
  rintro rs ms q qx ⟨_, rfl, _⟩; rfl
theorem len_check_needs : ∀ rs ms q qx, R_check_needs rs ms q qx → rs.length = 2 := by
  rintro rs ms q qx ⟨_, _, rfl, _⟩; rfl
theorem len_greatest_allowances : ∀ rs ms q qx, R_greatest_allowances rs ms q qx → rs.length = 2 := by
  rintro rs ms q qx ⟨_, _, rfl, _⟩; rfl
theorem len_serve : ∀ rs ms q qx, R_serve rs ms q qx → rs.length = 3 := by
  rintro rs ms q qx ⟨_, _, _, rfl, _⟩; rfl
theorem len__law_source : ∀ rs ms q qx, R__law_source rs ms q qx → rs.length = 2 := by
  rintro rs ms q qx ⟨_, _, rfl, _⟩; rfl
theorem len__law_draw : ∀ rs ms q qx, R__law_draw rs ms q qx → rs.length = 2 := by
  rintro rs ms q qx ⟨_, _, _, _, rfl, _⟩; rfl
theorem len__law_tree : ∀ rs ms q qx, R__law_tree rs ms q qx → rs.length = 2 := by
  rintro rs ms q qx ⟨_, _, _, _, rfl, _⟩; rfl
theorem len__law_needs : ∀ rs ms q qx, R__law_needs rs ms q qx → rs.length = 3 := by
  rintro rs ms q qx ⟨_, _, _, _, _, rfl, _⟩; rfl
theorem len__law_serve : ∀ rs ms q qx, R__law_serve rs ms q qx → rs.length = 3 := by
  rintro rs ms q qx ⟨_, _, _, _, rfl, _⟩; rfl
theorem len__law_bent : ∀ rs ms q qx, R__law_bent rs ms q qx → rs.length = 3 := by
  rintro rs ms q qx ⟨_, _, _, _, _, _, rfl, _⟩; rfl
theorem len__law_errors_right : ∀ rs ms q qx, R__law_errors_right rs ms q qx → rs.length = 1 := by
  rintro rs ms q qx ⟨_, rfl, _⟩; rfl
theorem len_law : ∀ rs ms q qx, R_law rs ms q qx → rs.length = 1 := by
  rintro rs ms q qx ⟨_, rfl, _⟩; rfl
theorem sc_is_integer : FnScope N_is_integer ["obj"] (defScope s_is_integer) := ⟨rfl, rfl, rfl, by decide +kernel, rfl, by decide +kernel, by decide +kernel⟩
theorem ok_is_integer (T : Txb K mg base) : DefOk P w K mg base ("is_integer", none) ["obj"] 1 R_is_integer :=
  def_ok (N := N_is_integer) (k := 0) (ws := w_is_integer) T.d_is_integer sc_is_integer len_is_integer (fun f cdv A out s H E hg hr =>
  (dss_one (ds_ret (de_and (de_bi (dc_isA T.kt) rfl T.f_isinstance (by decide +kernel) (da_cons (de_var 0) (da_cons (de_bty rfl T.f_int (by decide +kernel)) da_nil))) (de_one (de_not (de_bi (dc_isA T.kt) rfl T.f_isinstance (by decide +kernel) (da_cons (de_var 0) (da_cons (de_bty rfl T.f_bool (by decide +kernel)) da_nil))))))))) p_is_integer
theorem sc_is_in_range : FnScope N_is_in_range ["obj", "low", "high"] (defScope s_is_in_range) := ⟨rfl, rfl, rfl, by decide +kernel, rfl, by decide +kernel, by decide +kernel⟩
theorem ok_is_in_range (T : Txb K mg base) : DefOk P w K mg base ("is_in_range", none) ["obj", "low", "high"] 2 R_is_in_range :=
  def_ok (N := N_is_in_range) (k := 1) (ws := w_is_in_range) T.d_is_in_range sc_is_in_range len_is_in_range (fun f cdv A out s H E hg hr =>
  (dss_one (ds_ret (de_and (de_call (ok_is_integer T) hg (hr.mono (by decide)) rfl T.g_is_integer (da_cons (de_var 0) da_nil)) (de_one (de_chain do_le do_le (de_var 1) (de_var 0) (de_var 2))))))) p_is_in_range
theorem sc_is_word : FnScope N_is_word ["obj"] (defScope s_is_word) := ⟨rfl, rfl, rfl, by decide +kernel, rfl, by decide +kernel, by decide +kernel⟩
theorem ok_is_word (T : Txb K mg base) : DefOk P w K mg base ("is_word", none) ["obj"] 1 R_is_word :=
  def_ok (N := N_is_word) (k := 0) (ws := w_is_word) T.d_is_word sc_is_word len_is_word (fun f cdv A out s H E hg hr =>
  (dss_one (ds_ret (de_and (de_bi (dc_isA T.kt) rfl T.f_isinstance (by decide +kernel) (da_cons (de_var 0) (da_cons (de_bty rfl T.f_str (by decide +kernel)) da_nil))) (de_and (de_chain do_le do_le de_int (de_bi dc_lenA rfl T.f_len (by decide +kernel) (da_cons (de_var 0) da_nil)) (de_globIe rfl T.c_LONGEST)) (de_one (de_bi (dc_all rfl) rfl T.f_all (by decide +kernel) (da_cons (de_lc (own := [("letter", 1)]) rfl sc_is_word.nd (di_str (de_var 0)) (blkOk_by (own := [("letter", 1)]) (N := N_is_word) (sc := defScope s_is_word) (by decide +kernel)) (fun _ _ _ _ _ => (dg_name (i := 1) sc_is_word.nd rfl (Or.inl rfl))) (fun _ _ _ _ _ => dts_nil) (fun _ _ _ _ _ => (de_cmp (do_inA (hu_of hr)) (de_var 1) (de_globSe rfl T.c_LETTERS) rfl))) da_nil)))))))) p_is_word
theorem sc_path_of : FnScope N_path_of ["parents", "name"] (defScope s_path_of) := ⟨rfl, rfl, rfl, by decide +kernel, rfl, by decide +kernel, by decide +kernel⟩
theorem ok_path_of (T : Txb K mg base) : DefOk P w K mg base ("path_of", none) ["parents", "name"] 1 R_path_of :=
  def_ok (N := N_path_of) (k := 0) (ws := w_path_of) T.d_path_of sc_path_of len_path_of (fun f cdv A out s H E hg hr =>
  (dss_cons (ds_set (i := 2) sc_path_of.nd rfl (Or.inl rfl) (de_lstO da_nil))
  (dss_cons (ds_while (passes_of rfl) (dt_cmp (do_ne hr.units) (de_var 1) (de_globSe rfl T.c_STORE) (nomark _)) (dss_cons (ds_if (DW.dt (dw_or (dt_cmp (do_inA (hu_of hr)) (de_var 1) (de_var 2) rfl) (dw_or (dt_not (dt_val (de_bi (dc_isA T.kt) rfl T.f_isinstance (by decide +kernel) (da_cons (de_var 1) (da_cons (de_bty rfl T.f_str (by decide +kernel)) da_nil))))) (dw_or1 (dt_cmp (do_notinA (hu_of hr)) (de_var 1) (de_var 0) rfl))))) (dss_one (ds_ret de_non)) dss_nil)
  (dss_cons (ds_expr (de_append (de_var 2) (de_var 1)))
  (dss_one (ds_set (i := 1) sc_path_of.nd rfl (Or.inl rfl) (de_ixA (hu_of hr) (de_var 0) (de_var 1) (fun _ _ => rfl)))))))
  (dss_one (ds_ret (de_fix (de_var 2))))))) p_path_of
theorem sc_check_tree : FnScope N_check_tree ["obj"] (defScope s_check_tree) := ⟨rfl, rfl, rfl, by decide +kernel, rfl, by decide +kernel, by decide +kernel⟩
theorem ok_check_tree (T : Txb K mg base) : DefOk P w K mg base ("check_tree", none) ["obj"] 3 R_check_tree :=
  def_ok (N := N_check_tree) (k := 2) (ws := w_check_tree) T.d_check_tree sc_check_tree len_check_tree (fun f cdv A out s H E hg hr =>
  (dss_cons (ds_if (DW.dt (dw_or (dt_not (dt_val (de_bi (dc_isA T.kt) rfl T.f_isinstance (by decide +kernel) (da_cons (de_var 0) (da_cons (de_bty rfl T.f_dict (by decide +kernel)) da_nil))))) (dw_or1 (dt_not (dt_chain2 do_le do_le de_int (de_bi dc_lenA rfl T.f_len (by decide +kernel) (da_cons (de_var 0) da_nil)) (de_globIe rfl T.c_MOST_NODES)))))) (dss_one (ds_raise (ox_InvalidTree T) hg (hr.mono (by decide)) rfl rfl T.g_InvalidTree (da_cons (de_var 0) da_nil))) dss_nil)
  (dss_cons (ds_if (dt_not (dt_val (de_bi (dc_all rfl) rfl T.f_all (by decide +kernel) (da_cons (de_lc (own := [("name", 1)]) rfl sc_check_tree.nd (di_keys (de_var 0)) (blkOk_by (own := [("name", 1)]) (N := N_check_tree) (sc := defScope s_check_tree) (by decide +kernel)) (fun _ _ _ _ _ => (dg_name (i := 1) sc_check_tree.nd rfl (Or.inl rfl))) (fun _ _ _ _ _ => dts_nil) (fun _ _ _ _ _ => (de_and (de_call (ok_is_word T) hg (hr.mono (by decide)) rfl T.g_is_word (da_cons (de_var 1) da_nil)) (de_and (de_cmp (do_ne hr.units) (de_var 1) (de_globSe rfl T.c_STORE) (nomark _)) (de_one (de_bi (dc_isA T.kt) rfl T.f_isinstance (by decide +kernel) (da_cons (de_ixA (hu_of hr) (de_var 0) (de_var 1) (fun _ _ => rfl)) (da_cons (de_bty rfl T.f_str (by decide +kernel)) da_nil)))))))) da_nil)))) (dss_one (ds_raise (ox_InvalidTree T) hg (hr.mono (by decide)) rfl rfl T.g_InvalidTree (da_cons (de_var 0) da_nil))) dss_nil)
  (dss_one (ds_if (dt_cmp (do_inDp (room_u hr)) de_non (de_lc (own := [("name", 1)]) rfl sc_check_tree.nd (di_keys (de_var 0)) (blkOk_by (own := [("name", 1)]) (N := N_check_tree) (sc := defScope s_check_tree) (by decide +kernel)) (fun _ _ _ _ _ => (dg_name (i := 1) sc_check_tree.nd rfl (Or.inl rfl))) (fun _ _ _ _ _ => dts_nil) (fun _ _ _ _ _ => (de_call (ok_path_of T) hg (hr.mono (by decide)) rfl T.g_path_of (da_cons (de_var 0) (da_cons (de_var 1) da_nil))))) rfl) (dss_one (ds_raise (ox_InvalidTree T) hg (hr.mono (by decide)) rfl rfl T.g_InvalidTree (da_cons (de_var 0) da_nil))) dss_nil))))) p_check_tree
theorem sc_check_needs : FnScope N_check_needs ["obj", "parents"] (defScope s_check_needs) := ⟨rfl, rfl, rfl, by decide +kernel, rfl, by decide +kernel, by decide +kernel⟩
theorem ok_check_needs (T : Txb K mg base) : DefOk P w K mg base ("check_needs", none) ["obj", "parents"] 3 R_check_needs :=
  def_ok (N := N_check_needs) (k := 2) (ws := w_check_needs) T.d_check_needs sc_check_needs len_check_needs (fun f cdv A out s H E hg hr =>
  (dss_cons (ds_if (DW.dt (dw_or (dt_not (dt_val (de_bi (dc_isA T.kt) rfl T.f_isinstance (by decide +kernel) (da_cons (de_var 0) (da_cons (de_bty rfl T.f_dict (by decide +kernel)) da_nil))))) (dw_or1 (dt_not (dt_val (de_bi (dc_all rfl) rfl T.f_all (by decide +kernel) (da_cons (de_lc (own := [("name", 2)]) rfl sc_check_needs.nd (di_keys (de_var 0)) (blkOk_by (own := [("name", 2)]) (N := N_check_needs) (sc := defScope s_check_needs) (by decide +kernel)) (fun _ _ _ _ _ => (dg_name (i := 2) sc_check_needs.nd rfl (Or.inl rfl))) (fun _ _ _ _ _ => dts_nil) (fun _ _ _ _ _ => (de_and (de_bi (dc_isA T.kt) rfl T.f_isinstance (by decide +kernel) (da_cons (de_var 2) (da_cons (de_bty rfl T.f_str (by decide +kernel)) da_nil))) (de_one (de_cmp (do_inA (hu_of hr)) (de_var 2) (de_var 1) rfl))))) da_nil))))))) (dss_one (ds_raise (ox_InvalidNeed T) hg (hr.mono (by decide)) rfl rfl T.g_InvalidNeed (da_cons (de_var 0) da_nil))) dss_nil)
  (dss_one (ds_if (dt_not (dt_val (de_bi (dc_all rfl) rfl T.f_all (by decide +kernel) (da_cons (de_lc (own := [("name", 2)]) rfl sc_check_needs.nd (di_keys (de_var 0)) (blkOk_by (own := [("name", 2)]) (N := N_check_needs) (sc := defScope s_check_needs) (by decide +kernel)) (fun _ _ _ _ _ => (dg_name (i := 2) sc_check_needs.nd rfl (Or.inl rfl))) (fun _ _ _ _ _ => dts_nil) (fun _ _ _ _ _ => (de_call (ok_is_in_range T) hg (hr.mono (by decide)) rfl T.g_is_in_range (da_cons (de_ixA (hu_of hr) (de_var 0) (de_var 2) (fun _ _ => rfl)) (da_cons de_int (da_cons (de_globIe rfl T.c_MAX_ALLOWANCE) da_nil)))))) da_nil)))) (dss_one (ds_raise (ox_InvalidNeed T) hg (hr.mono (by decide)) rfl rfl T.g_InvalidNeed (da_cons (de_var 0) da_nil))) dss_nil)))) p_check_needs
theorem sc_greatest_allowances : FnScope N_greatest_allowances ["parents", "needs"] (defScope s_greatest_allowances) := ⟨rfl, rfl, rfl, by decide +kernel, rfl, by decide +kernel, by decide +kernel⟩
theorem ok_greatest_allowances (T : Txb K mg base) : DefOk P w K mg base ("greatest_allowances", none) ["parents", "needs"] 4 R_greatest_allowances :=
  def_ok (N := N_greatest_allowances) (k := 3) (ws := w_greatest_allowances) T.d_greatest_allowances sc_greatest_allowances len_greatest_allowances (fun f cdv A out s H E hg hr =>
  (dss_cons (ds_expr (de_call (ok_check_tree T) hg (hr.mono (by decide)) rfl T.g_check_tree (da_cons (de_var 0) da_nil)))
  (dss_cons (ds_expr (de_call (ok_check_needs T) hg (hr.mono (by decide)) rfl T.g_check_needs (da_cons (de_var 1) (da_cons (de_var 0) da_nil))))
  (dss_cons (ds_set (i := 2) sc_greatest_allowances.nd rfl (Or.inl rfl) de_dnew)
  (dss_cons (ds_for (passes_of rfl) rfl (di_keys (de_var 0)) (dg_name (i := 3) sc_greatest_allowances.nd rfl (Or.inr rfl)) (dss_cons (ds_setLc (i := 4) (own := [("other", 7)]) rfl sc_greatest_allowances.nd rfl rfl (sw_true rfl rfl rfl (by decide +kernel)) (di_keys (de_var 0)) (blkOk_by (own := [("other", 7)]) (N := N_greatest_allowances) (sc := defScope s_greatest_allowances) (by decide +kernel)) (fun _ _ _ _ _ => (dg_name (i := 7) sc_greatest_allowances.nd rfl (Or.inl rfl))) (fun _ _ _ _ _ => (dts_one (DW.dt (dw_and (dt_cmp (do_inA (hu_of hr)) (de_var 7) (de_var 1) rfl) (dw_and1 (dt_cmp (do_inA (hu_of hr)) (de_var 3) (de_call (ok_path_of T) hg (hr.mono (by decide)) rfl T.g_path_of (da_cons (de_var 0) (da_cons (de_var 7) da_nil))) rfl)))))) (fun _ _ _ _ _ => (de_var 7)))
  (dss_cons (ds_set (i := 5) sc_greatest_allowances.nd rfl (Or.inr rfl) (de_bi (dc_minL rfl) rfl T.f_min (by decide +kernel) (da_cons (de_op do_add (de_lc (own := [("other", 7)]) rfl sc_greatest_allowances.nd (di_seq (de_var 4)) (blkOk_by (own := [("other", 7)]) (N := N_greatest_allowances) (sc := defScope s_greatest_allowances) (by decide +kernel)) (fun _ _ _ _ _ => (dg_name (i := 7) sc_greatest_allowances.nd rfl (Or.inl rfl))) (fun _ _ _ _ _ => dts_nil) (fun _ _ _ _ _ => (de_ixA (hu_of hr) (de_var 1) (de_var 7) (fun _ _ => rfl)))) (de_lst (da_cons (de_globIe rfl T.c_MAX_ALLOWANCE) da_nil))) da_nil)))
  (dss_cons (ds_set (i := 6) sc_greatest_allowances.nd rfl (Or.inl rfl) (de_bi dc_sortS rfl T.f_sorted (by decide +kernel) (da_cons (de_lc (own := [("other", 7)]) rfl sc_greatest_allowances.nd (di_seq (de_var 4)) (blkOk_by (own := [("other", 7)]) (N := N_greatest_allowances) (sc := defScope s_greatest_allowances) (by decide +kernel)) (fun _ _ _ _ _ => (dg_name (i := 7) sc_greatest_allowances.nd rfl (Or.inl rfl))) (fun _ _ _ _ _ => (dts_one (dt_cmp (do_eq hr.units) (de_ixA (hu_of hr) (de_var 1) (de_var 7) (fun _ _ => rfl)) (de_var 5) (nomark _)))) (fun _ _ _ _ _ => (de_var 7))) da_nil)))
  (dss_one (ds_asg (de_tup (da_cons (de_var 5) (da_cons (de_if (dt_cmp do_lt (de_var 5) (de_globIe rfl T.c_MAX_ALLOWANCE) (nomark _)) (de_ixA (hu_of hr) (de_var 6) de_int (fun _ _ => rfl)) de_non) da_nil))) (dg_sub (hu_of hr) (de_var 2) (de_var 3))))))))
  (dss_one (ds_ret (de_var 2)))))))) p_greatest_allowances
theorem sc_serve : FnScope N_serve ["parents", "needs", "allowances"] (defScope s_serve) := ⟨rfl, rfl, rfl, by decide +kernel, rfl, by decide +kernel, by decide +kernel⟩
theorem ok_serve (T : Txb K mg base) : DefOk P w K mg base ("serve", none) ["parents", "needs", "allowances"] 4 R_serve :=
  def_ok (N := N_serve) (k := 3) (ws := w_serve) T.d_serve sc_serve len_serve (fun f cdv A out s H E hg hr =>
  (dss_cons (ds_expr (de_call (ok_check_tree T) hg (hr.mono (by decide)) rfl T.g_check_tree (da_cons (de_var 0) da_nil)))
  (dss_cons (ds_expr (de_call (ok_check_needs T) hg (hr.mono (by decide)) rfl T.g_check_needs (da_cons (de_var 1) (da_cons (de_var 0) da_nil))))
  (dss_cons (ds_if (DW.dt (dw_or (dt_not (dt_val (de_bi (dc_isA T.kt) rfl T.f_isinstance (by decide +kernel) (da_cons (de_var 2) (da_cons (de_bty rfl T.f_dict (by decide +kernel)) da_nil))))) (dw_or1 (dt_cmp (do_ne hr.units) (de_bi dc_lenA rfl T.f_len (by decide +kernel) (da_cons (de_var 2) da_nil)) (de_bi dc_lenA rfl T.f_len (by decide +kernel) (da_cons (de_var 0) da_nil)) (nomark _))))) (dss_one (ds_ret de_bl)) dss_nil)
  (dss_cons (ds_if (dt_not (dt_val (de_bi (dc_all rfl) rfl T.f_all (by decide +kernel) (da_cons (de_lc (own := [("name", 4)]) rfl sc_serve.nd (di_keys (de_var 0)) (blkOk_by (own := [("name", 4)]) (N := N_serve) (sc := defScope s_serve) (by decide +kernel)) (fun _ _ _ _ _ => (dg_name (i := 4) sc_serve.nd rfl (Or.inl rfl))) (fun _ _ _ _ _ => dts_nil) (fun _ _ _ _ _ => (de_and (de_cmp (do_inA (hu_of hr)) (de_var 4) (de_var 2) rfl) (de_one (de_call (ok_is_in_range T) hg (hr.mono (by decide)) rfl T.g_is_in_range (da_cons (de_ixA (hu_of hr) (de_var 2) (de_var 4) (fun _ _ => rfl)) (da_cons de_int (da_cons (de_globIe rfl T.c_MAX_ALLOWANCE) da_nil)))))))) da_nil)))) (dss_one (ds_ret de_bl)) dss_nil)
  (dss_cons (ds_set (i := 3) sc_serve.nd rfl (Or.inr rfl) (de_fix (de_spr1 (de_var 2) (DPs.cons (de_globSe rfl T.c_STORE) de_int DPs.nil))))
  (dss_cons (ds_if (dt_val (de_bi (dc_any rfl) rfl T.f_any (by decide +kernel) (da_cons (de_lc (own := [("name", 4)]) rfl sc_serve.nd (di_keys (de_var 0)) (blkOk_by (own := [("name", 4)]) (N := N_serve) (sc := defScope s_serve) (by decide +kernel)) (fun _ _ _ _ _ => (dg_name (i := 4) sc_serve.nd rfl (Or.inl rfl))) (fun _ _ _ _ _ => dts_nil) (fun _ _ _ _ _ => (de_cmp do_lt (de_ixA (hu_of hr) (de_var 2) (de_var 4) (fun _ _ => rfl)) (de_ixA (hu_of hr) (de_var 3) (de_ixA (hu_of hr) (de_var 0) (de_var 4) (fun _ _ => rfl)) (fun _ _ => rfl)) (nomark _)))) da_nil))) (dss_one (ds_ret de_bl)) dss_nil)
  (dss_one (ds_ret (de_bi (dc_all rfl) rfl T.f_all (by decide +kernel) (da_cons (de_lc (own := [("name", 4)]) rfl sc_serve.nd (di_keys (de_var 1)) (blkOk_by (own := [("name", 4)]) (N := N_serve) (sc := defScope s_serve) (by decide +kernel)) (fun _ _ _ _ _ => (dg_name (i := 4) sc_serve.nd rfl (Or.inl rfl))) (fun _ _ _ _ _ => dts_nil) (fun _ _ _ _ _ => (de_cmp do_le (de_ixA (hu_of hr) (de_var 2) (de_var 4) (fun _ _ => rfl)) (de_ixA (hu_of hr) (de_var 1) (de_var 4) (fun _ _ => rfl)) (nomark _)))) da_nil))))))))))) p_serve
theorem sc__law_source : FnScope N__law_source ["_law_script", "_law_turn"] (defScope s__law_source) := ⟨rfl, rfl, rfl, by decide +kernel, rfl, by decide +kernel, by decide +kernel⟩
theorem ok__law_source (T : Txb K mg base) : DefOk P w K mg base ("_law_source", none) ["_law_script", "_law_turn"] 1 R__law_source :=
  def_ok (N := N__law_source) (k := 0) (ws := w__law_source) T.d__law_source sc__law_source len__law_source (fun f cdv A out s H E hg hr =>
  (dss_cons (ds_set (i := 2) sc__law_source.nd rfl (Or.inl rfl) de_int)
  (dss_cons (ds_if (dt_cmp do_lt (de_var 1) (de_bi dc_lenA rfl T.f_len (by decide +kernel) (da_cons (de_var 0) da_nil)) (nomark _)) (dss_one (ds_set (i := 2) sc__law_source.nd rfl (Or.inl rfl) (de_ixA (hu_of hr) (de_var 0) (de_var 1) (fun _ _ => rfl)))) dss_nil)
  (dss_cons (ds_set (i := 3) sc__law_source.nd rfl (Or.inl rfl) (de_bi (dc_max2 rfl) rfl T.f_max (by decide +kernel) (da_cons (de_var 2) (da_cons (de_op do_subI (de_neg de_int) (de_var 2)) da_nil))))
  (dss_cons (ds_set (i := 4) sc__law_source.nd rfl (Or.inl rfl) (de_op do_mod (de_op do_add (de_op do_add (de_op do_mulA (de_op do_mod (de_var 3) de_int) de_int) (de_op do_mulA de_int (de_var 1))) de_int) de_int))
  (dss_cons (ds_if (dt_cmp do_lt (de_var 3) (de_op do_pow de_int de_int) (nomark _)) (dss_one (ds_set (i := 3) sc__law_source.nd rfl (Or.inl rfl) de_int)) dss_nil)
  (dss_one (ds_ret (de_lstO (da_cons (de_var 3) (da_cons (de_var 4) da_nil))))))))))) p__law_source
theorem sc__law_draw : FnScope N__law_draw ["_law_source_here", "_law_amount"] (defScope s__law_draw) := ⟨rfl, rfl, rfl, by decide +kernel, rfl, by decide +kernel, by decide +kernel⟩
theorem ok__law_draw (T : Txb K mg base) : DefOk P w K mg base ("_law_draw", none) ["_law_source_here", "_law_amount"] 1 R__law_draw :=
  def_ok (N := N__law_draw) (k := 0) (ws := w__law_draw) T.d__law_draw sc__law_draw len__law_draw (fun f cdv A out s H E hg hr =>
  (dss_cons (ds_if (dt_cmp do_gt (de_ixA (hu_of hr) (de_var 0) de_int (fun _ _ => rfl)) de_int (nomark _)) (dss_cons (ds_set (i := 2) sc__law_draw.nd rfl (Or.inl rfl) (de_op do_mod (de_ixA (hu_of hr) (de_var 0) de_int (fun _ _ => rfl)) (de_var 1)))
  (dss_cons (ds_asg (de_op do_fdivW (de_ixA (hu_of hr) (de_var 0) de_int (fun _ _ => rfl)) (de_var 1)) (dg_sub (hu_of hr) (de_var 0) de_int))
  (dss_one (ds_ret (de_var 2))))) dss_nil)
  (dss_cons (ds_asg (de_op do_mod (de_op do_add (de_op do_mulA (de_ixA (hu_of hr) (de_var 0) de_int (fun _ _ => rfl)) de_int) de_int) de_int) (dg_sub (hu_of hr) (de_var 0) de_int))
  (dss_one (ds_ret (de_op do_mod (de_op do_fdivW (de_op do_mod (de_op do_mulA (de_ixA (hu_of hr) (de_var 0) de_int (fun _ _ => rfl)) (de_ixA (hu_of hr) (de_var 0) de_int (fun _ _ => rfl))) de_int) de_int) (de_var 1))))))) p__law_draw
theorem sc__law_tree : FnScope N__law_tree ["_law_source_here", "_law_most"] (defScope s__law_tree) := ⟨rfl, rfl, rfl, by decide +kernel, rfl, by decide +kernel, by decide +kernel⟩
theorem ok__law_tree (T : Txb K mg base) : DefOk P w K mg base ("_law_tree", none) ["_law_source_here", "_law_most"] 2 R__law_tree :=
  def_ok (N := N__law_tree) (k := 1) (ws := w__law_tree) T.d__law_tree sc__law_tree len__law_tree (fun f cdv A out s H E hg hr =>
  (dss_cons (ds_set (i := 2) sc__law_tree.nd rfl (Or.inl rfl) (de_slice (de_lst (da_cons de_str (da_cons de_str (da_cons de_str (da_cons de_str (da_cons de_str (da_cons de_str (da_cons de_str (da_cons de_str (da_cons de_str (da_cons de_str (da_cons de_str da_nil)))))))))))) dpo_none (dpo_some (de_op do_add de_int (de_call (ok__law_draw T) hg (hr.mono (by decide)) rfl T.g__law_draw (da_cons (de_var 0) (da_cons (de_var 1) da_nil)))))))
  (dss_cons (ds_set (i := 3) sc__law_tree.nd rfl (Or.inl rfl) (de_lstO da_nil))
  (dss_cons (ds_for (passes_of rfl) rfl (di_range1 rfl T.f_range (da_cons (de_bi dc_lenA rfl T.f_len (by decide +kernel) (da_cons (de_var 2) da_nil)) da_nil)) (dg_name (i := 4) sc__law_tree.nd rfl (Or.inl rfl)) (dss_cons (ds_set (i := 6) sc__law_tree.nd rfl (Or.inl rfl) (de_call (ok__law_draw T) hg (hr.mono (by decide)) rfl T.g__law_draw (da_cons (de_var 0) (da_cons (de_op do_add (de_var 4) de_int) da_nil))))
  (dss_one (ds_expr (de_append (de_var 3) (de_tup (da_cons (de_ixA (hu_of hr) (de_var 2) (de_var 4) (fun _ _ => rfl)) (da_cons (de_if (dt_cmp do_gt (de_var 6) de_int (nomark _)) (de_ixA (hu_of hr) (de_var 2) (de_op do_subI (de_var 6) de_int) (fun _ _ => rfl)) de_str) da_nil))))))))
  (dss_cons (ds_for (passes_of rfl) rfl (di_range1 rfl T.f_range (da_cons (de_bi dc_lenA rfl T.f_len (by decide +kernel) (da_cons (de_var 3) da_nil)) da_nil)) (dg_name (i := 5) sc__law_tree.nd rfl (Or.inl rfl)) (dss_cons (ds_set (i := 4) sc__law_tree.nd rfl (Or.inl rfl) (de_call (ok__law_draw T) hg (hr.mono (by decide)) rfl T.g__law_draw (da_cons (de_var 0) (da_cons (de_bi dc_lenA rfl T.f_len (by decide +kernel) (da_cons (de_var 3) da_nil)) da_nil))))
  (dss_one (ds_set (i := 3) sc__law_tree.nd rfl (Or.inl rfl) (de_if (dt_cmp (do_eq hr.units) (de_op do_mod (de_var 5) de_int) de_int (nomark _)) (de_op do_add (de_slice (de_var 3) (dpo_some (de_var 4)) dpo_none) (de_slice (de_var 3) dpo_none (dpo_some (de_var 4)))) (de_op do_add (de_slice (de_var 3) dpo_none (dpo_some (de_var 4))) (de_rev (de_slice (de_var 3) (dpo_some (de_var 4)) dpo_none))))))))
  (dss_one (ds_ret (de_fix (de_bt (dc_dictOf rfl) rfl T.f_dict (by decide +kernel) (da_cons (de_var 3) da_nil)))))))))) p__law_tree
theorem sc__law_needs : FnScope N__law_needs ["_law_source_here", "_law_parents", "_law_most"] (defScope s__law_needs) := ⟨rfl, rfl, rfl, by decide +kernel, rfl, by decide +kernel, by decide +kernel⟩
theorem ok__law_needs (T : Txb K mg base) : DefOk P w K mg base ("_law_needs", none) ["_law_source_here", "_law_parents", "_law_most"] 2 R__law_needs :=
  def_ok (N := N__law_needs) (k := 1) (ws := w__law_needs) T.d__law_needs sc__law_needs len__law_needs (fun f cdv A out s H E hg hr =>
  (dss_cons (ds_set (i := 3) sc__law_needs.nd rfl (Or.inl rfl) de_dnew)
  (dss_cons (ds_for (passes_of rfl) rfl (di_keys (de_var 1)) (dg_name (i := 4) sc__law_needs.nd rfl (Or.inl rfl)) (dss_one (ds_if (dt_cmp (do_eq hr.units) (de_call (ok__law_draw T) hg (hr.mono (by decide)) rfl T.g__law_draw (da_cons (de_var 0) (da_cons de_int da_nil))) de_int (nomark _)) (dss_one (ds_asg (de_op do_add de_int (de_call (ok__law_draw T) hg (hr.mono (by decide)) rfl T.g__law_draw (da_cons (de_var 0) (da_cons (de_var 2) da_nil)))) (dg_sub (hu_of hr) (de_var 3) (de_var 4)))) dss_nil)))
  (dss_one (ds_ret (de_fix (de_var 3))))))) p__law_needs
theorem sc__law_serve : FnScope N__law_serve ["_law_parents", "_law_needs_here", "_law_given"] (defScope s__law_serve) := ⟨rfl, rfl, rfl, by decide +kernel, rfl, by decide +kernel, by decide +kernel⟩
theorem ok__law_serve (T : Txb K mg base) : DefOk P w K mg base ("_law_serve", none) ["_law_parents", "_law_needs_here", "_law_given"] 1 R__law_serve :=
  def_ok (N := N__law_serve) (k := 0) (ws := w__law_serve) T.d__law_serve sc__law_serve len__law_serve (fun f cdv A out s H E hg hr =>
  (dss_cons (ds_if (dt_not (dt_val (de_bi (dc_isA T.kt) rfl T.f_isinstance (by decide +kernel) (da_cons (de_var 2) (da_cons (de_bty rfl T.f_dict (by decide +kernel)) da_nil))))) (dss_one (ds_ret de_bl)) dss_nil)
  (dss_cons (ds_if (dt_cmp (do_ne hr.units) (de_bi dc_sortS rfl T.f_sorted (by decide +kernel) (da_cons (de_lc (own := [("_law_name", 3)]) rfl sc__law_serve.nd (di_keys (de_var 2)) (blkOk_by (own := [("_law_name", 3)]) (N := N__law_serve) (sc := defScope s__law_serve) (by decide +kernel)) (fun _ _ _ _ _ => (dg_name (i := 3) sc__law_serve.nd rfl (Or.inl rfl))) (fun _ _ _ _ _ => dts_nil) (fun _ _ _ _ _ => (de_bi (dc_reprF hg (by have z := room_u hr; exact z) T.sm) rfl T.f_repr (by decide +kernel) (da_cons (de_var 3) da_nil)))) da_nil)) (de_bi dc_sortS rfl T.f_sorted (by decide +kernel) (da_cons (de_lc (own := [("_law_name", 3)]) rfl sc__law_serve.nd (di_keys (de_var 0)) (blkOk_by (own := [("_law_name", 3)]) (N := N__law_serve) (sc := defScope s__law_serve) (by decide +kernel)) (fun _ _ _ _ _ => (dg_name (i := 3) sc__law_serve.nd rfl (Or.inl rfl))) (fun _ _ _ _ _ => dts_nil) (fun _ _ _ _ _ => (de_bi (dc_reprF hg (by have z := room_u hr; exact z) T.sm) rfl T.f_repr (by decide +kernel) (da_cons (de_var 3) da_nil)))) da_nil)) (nomark _)) (dss_one (ds_ret de_bl)) dss_nil)
  (dss_cons (ds_for (passes_of rfl) rfl (di_keys (de_var 0)) (dg_name (i := 3) sc__law_serve.nd rfl (Or.inl rfl)) (dss_cons (ds_set (i := 4) sc__law_serve.nd rfl (Or.inl rfl) (de_ixA (hu_of hr) (de_var 2) (de_var 3) (fun _ _ => rfl)))
  (dss_one (ds_if (DW.dt (dw_or (dt_not (dt_val (de_bi (dc_isA T.kt) rfl T.f_isinstance (by decide +kernel) (da_cons (de_var 4) (da_cons (de_bty rfl T.f_int (by decide +kernel)) da_nil))))) (dw_or (dt_val (de_bi (dc_isA T.kt) rfl T.f_isinstance (by decide +kernel) (da_cons (de_var 4) (da_cons (de_bty rfl T.f_bool (by decide +kernel)) da_nil)))) (dw_or1 (dt_not (dt_chain2 do_le do_le de_int (de_var 4) de_int)))))) (dss_one (ds_ret de_bl)) dss_nil))))
  (dss_cons (ds_for (passes_of rfl) rfl (di_keys (de_var 0)) (dg_name (i := 3) sc__law_serve.nd rfl (Or.inl rfl)) (dss_one (ds_if (DW.dt (dw_and (dt_cmp (do_ne hr.units) (de_ixA (hu_of hr) (de_var 0) (de_var 3) (fun _ _ => rfl)) de_str (nomark _)) (dw_and1 (dt_cmp do_lt (de_ixA (hu_of hr) (de_var 2) (de_var 3) (fun _ _ => rfl)) (de_ixA (hu_of hr) (de_var 2) (de_ixA (hu_of hr) (de_var 0) (de_var 3) (fun _ _ => rfl)) (fun _ _ => rfl)) (nomark _))))) (dss_one (ds_ret de_bl)) dss_nil)))
  (dss_one (ds_ret (de_cmp (do_eq hr.units) (de_lc (own := [("_law_name", 3)]) rfl sc__law_serve.nd (di_keys (de_var 1)) (blkOk_by (own := [("_law_name", 3)]) (N := N__law_serve) (sc := defScope s__law_serve) (by decide +kernel)) (fun _ _ _ _ _ => (dg_name (i := 3) sc__law_serve.nd rfl (Or.inl rfl))) (fun _ _ _ _ _ => (dts_one (dt_cmp do_gt (de_ixA (hu_of hr) (de_var 2) (de_var 3) (fun _ _ => rfl)) (de_ixA (hu_of hr) (de_var 1) (de_var 3) (fun _ _ => rfl)) (nomark _)))) (fun _ _ _ _ _ => (de_var 3))) (de_lst da_nil) (nomark _))))))))) p__law_serve
theorem sc__law_said : FnScope N__law_said ["_law_call"] (defScope s__law_said) := ⟨rfl, rfl, rfl, by decide +kernel, rfl, by decide +kernel, by decide +kernel⟩
theorem tell__law_said (T : Txb K mg base) {k : Nat} : TellOk P w K mg base "_law_said" "_law_call" N__law_said s__law_said k w__law_said :=
  { at_ := T.d__law_said, sc := sc__law_said, n0 := rfl, vis := Or.inl rfl, dbg := by decide, cd := by decide, body := fun cdv A out s H wa hg hr act =>
  (dss_cons (ds_try T.xt rfl rfl (fun Z pn xe tk po => (dss_one (ds_expr (act Z pn xe tk _ _)))) (DCls.as (i := 1) sc__law_said.nd rfl rfl ⟨rfl, by decide, .inl T.g_InvalidTree⟩ (fun a oe cls d pn hz hfv => (dss_one (ds_ret (de_lst (da_cons de_str (da_cons (de_bi (dc_reprF hg (by have z := room_u hr; exact z) T.sm) rfl T.f_repr (by decide +kernel) (da_cons (de_xs (xf_given_InvalidTree T) hz hfv (de_var 1)) da_nil)) (da_cons (de_xis T.kt hz hfv rfl T.f_isinstance (da_cons (de_var 1) (da_cons (de_globR rfl T.g_CacheError) da_nil))) da_nil))))))) (DCls.as (i := 1) sc__law_said.nd rfl rfl ⟨rfl, by decide, .inl T.g_InvalidNeed⟩ (fun a oe cls d pn hz hfv => (dss_one (ds_ret (de_lst (da_cons de_str (da_cons (de_bi (dc_reprF hg (by have z := room_u hr; exact z) T.sm) rfl T.f_repr (by decide +kernel) (da_cons (de_xs (xf_given_InvalidNeed T) hz hfv (de_var 1)) da_nil)) (da_cons (de_xis T.kt hz hfv rfl T.f_isinstance (da_cons (de_var 1) (da_cons (de_globR rfl T.g_CacheError) da_nil))) da_nil))))))) DCls.nil)))
  (dss_one (ds_ret (de_lst (da_cons de_str da_nil))))) }
theorem sc__law_bent : FnScope N__law_bent ["_law_source_here", "_law_parents", "_law_given"] (defScope s__law_bent) := ⟨rfl, rfl, rfl, by decide +kernel, rfl, by decide +kernel, by decide +kernel⟩
theorem ok__law_bent (T : Txb K mg base) : DefOk P w K mg base ("_law_bent", none) ["_law_source_here", "_law_parents", "_law_given"] 2 R__law_bent :=
  def_ok (N := N__law_bent) (k := 1) (ws := w__law_bent) T.d__law_bent sc__law_bent len__law_bent (fun f cdv A out s H E hg hr =>
  (dss_cons (ds_set (i := 3) sc__law_bent.nd rfl (Or.inl rfl) (de_bt (dc_listD rfl) rfl T.f_list (by decide +kernel) (da_cons (de_var 1) da_nil)))
  (dss_cons (ds_set (i := 4) sc__law_bent.nd rfl (Or.inr rfl) (de_ixA (hu_of hr) (de_var 3) (de_call (ok__law_draw T) hg (hr.mono (by decide)) rfl T.g__law_draw (da_cons (de_var 0) (da_cons (de_bi dc_lenA rfl T.f_len (by decide +kernel) (da_cons (de_var 3) da_nil)) da_nil))) (fun _ _ => rfl)))
  (dss_cons (ds_set (i := 5) sc__law_bent.nd rfl (Or.inl rfl) (de_ixA (hu_of hr) (de_lst (da_cons de_int (da_cons de_int (da_cons de_int (da_cons de_int (da_cons de_int (da_cons de_bl (da_cons de_non (da_cons de_str (da_cons (de_neg de_int) (da_cons de_int da_nil))))))))))) (de_call (ok__law_draw T) hg (hr.mono (by decide)) rfl T.g__law_draw (da_cons (de_var 0) (da_cons de_int da_nil))) (fun _ _ => rfl)))
  (dss_cons (ds_set (i := 6) sc__law_bent.nd rfl (Or.inl rfl) (de_lstO (da_cons (de_fix (de_bt (dc_dictOf rfl) rfl T.f_dict (by decide +kernel) (da_cons (de_op do_add (de_litems rfl (de_var 2) rfl T.f_list) (de_lst (da_cons (de_tup (da_cons (de_var 4) (da_cons (de_var 5) da_nil))) da_nil))) da_nil))) (da_cons (de_fix (de_bt (dc_dictOf rfl) rfl T.f_dict (by decide +kernel) (da_cons (de_lock 2 (de_lc (own := [("_law_one", 7)]) rfl sc__law_bent.nd (di_keys (de_var 2)) (blkOk_by (own := [("_law_one", 7)]) (N := N__law_bent) (sc := defScope s__law_bent) (by decide +kernel)) (fun _ _ _ _ _ => (dg_name (i := 7) sc__law_bent.nd rfl (Or.inl rfl))) (fun _ _ _ _ _ => (dts_one (dt_cmp (do_ne hr.units) (de_var 7) (de_var 4) (nomark _)))) (fun _ _ _ _ _ => (de_tup (da_cons (de_var 7) (da_cons (de_ixA (hu_of hr) (de_var 2) (de_var 7) (fun _ _ => rfl)) da_nil)))))) da_nil))) da_nil))))
  (dss_cons (ds_set (i := 6) sc__law_bent.nd rfl (Or.inl rfl) (de_op do_addO (de_var 6) (de_lst (da_cons (de_fix (de_bt (dc_dictOf rfl) rfl T.f_dict (by decide +kernel) (da_cons (de_op do_add (de_litems rfl (de_var 2) rfl T.f_list) (de_lst (da_cons (de_tup (da_cons de_str (da_cons de_int da_nil))) da_nil))) da_nil))) (da_cons (de_fix (de_bt (dc_dictOf rfl) rfl T.f_dict (by decide +kernel) (da_cons (de_op do_add (de_litems rfl (de_var 2) rfl T.f_list) (de_lst (da_cons (de_tup (da_cons de_str (da_cons de_int da_nil))) da_nil))) da_nil))) da_nil)))))
  (dss_cons (ds_set (i := 6) sc__law_bent.nd rfl (Or.inl rfl) (de_op do_addO (de_var 6) (de_lst (da_cons (de_litems rfl (de_var 2) rfl T.f_list) (da_cons de_non (da_cons (de_fix de_dnew) (da_cons (de_fix (de_bt (dc_dictOf rfl) rfl T.f_dict (by decide +kernel) (da_cons (de_lock 2 (de_lc (own := [("_law_one", 7)]) rfl sc__law_bent.nd (di_keys (de_var 2)) (blkOk_by (own := [("_law_one", 7)]) (N := N__law_bent) (sc := defScope s__law_bent) (by decide +kernel)) (fun _ _ _ _ _ => (dg_name (i := 7) sc__law_bent.nd rfl (Or.inl rfl))) (fun _ _ _ _ _ => dts_nil) (fun _ _ _ _ _ => (de_tup (da_cons (de_var 7) (da_cons (de_op do_add (de_ixA (hu_of hr) (de_var 2) (de_var 7) (fun _ _ => rfl)) de_int) da_nil)))))) da_nil))) da_nil)))))))
  (dss_cons (ds_expr (de_append (de_var 6) (de_fix (de_bt (dc_dictOf rfl) rfl T.f_dict (by decide +kernel) (da_cons (de_lc (own := [("_law_one", 7)]) rfl sc__law_bent.nd (di_seq (de_rev (de_bt (dc_listD rfl) rfl T.f_list (by decide +kernel) (da_cons (de_var 2) da_nil)))) (blkOk_by (own := [("_law_one", 7)]) (N := N__law_bent) (sc := defScope s__law_bent) (by decide +kernel)) (fun _ _ _ _ _ => (dg_name (i := 7) sc__law_bent.nd rfl (Or.inl rfl))) (fun _ _ _ _ _ => dts_nil) (fun _ _ _ _ _ => (de_tup (da_cons (de_var 7) (da_cons (de_ixA (hu_of hr) (de_var 2) (de_var 7) (fun _ _ => rfl)) da_nil))))) da_nil)))))
  (dss_one (ds_ret (de_ixA (hu_of hr) (de_var 6) (de_call (ok__law_draw T) hg (hr.mono (by decide)) rfl T.g__law_draw (da_cons (de_var 0) (da_cons de_int da_nil))) (fun _ _ => rfl)))))))))))) p__law_bent
theorem sc__law_errors_right : FnScope N__law_errors_right ["_law_parents"] (defScope s__law_errors_right) := ⟨rfl, rfl, rfl, by decide +kernel, rfl, by decide +kernel, by decide +kernel⟩
theorem ok__law_errors_right (T : Txb K mg base) : DefOk P w K mg base ("_law_errors_right", none) ["_law_parents"] 7 R__law_errors_right :=
  def_okL (N := N__law_errors_right) (k := 6) (ws := w__law_errors_right) T.d__law_errors_right sc__law_errors_right len__law_errors_right (fun f cdv hcd A out s H E hg hr =>
  (dss_cons (ds_set (i := 1) sc__law_errors_right.nd rfl (Or.inl rfl) (de_fix (de_bt (dc_dictOf rfl) rfl T.f_dict (by decide +kernel) (da_cons (de_lc (own := [("_law_letter", 5)]) rfl sc__law_errors_right.nd (di_str de_str) (blkOk_by (own := [("_law_letter", 5)]) (N := N__law_errors_right) (sc := defScope s__law_errors_right) (by decide +kernel)) (fun _ _ _ _ _ => (dg_name (i := 5) sc__law_errors_right.nd rfl (Or.inl rfl))) (fun _ _ _ _ _ => dts_nil) (fun _ _ _ _ _ => (de_tup (da_cons (de_op do_add de_str (de_var 5)) (da_cons de_str da_nil))))) da_nil))))
  (dss_cons (ds_set (i := 2) sc__law_errors_right.nd rfl (Or.inl rfl) (de_lstO (da_cons de_non (da_cons (de_fix de_dnew) (da_cons (de_lst da_nil) (da_cons (de_fix (de_disp (DPs.cons de_str de_str DPs.nil))) (da_cons (de_fix (de_disp (DPs.cons de_str de_str (DPs.cons de_str de_str DPs.nil)))) (da_cons (de_fix (de_disp (DPs.cons de_str de_str DPs.nil))) (da_cons (de_fix (de_disp (DPs.cons de_str de_str DPs.nil))) (da_cons (de_fix (de_disp (DPs.cons de_str de_non DPs.nil))) da_nil))))))))))
  (dss_cons (ds_set (i := 2) sc__law_errors_right.nd rfl (Or.inl rfl) (de_op do_addO (de_var 2) (de_lst (da_cons (de_fix (de_disp (DPs.cons de_str de_str DPs.nil))) (da_cons (de_fix (de_disp (DPs.cons de_int de_str DPs.nil))) (da_cons (de_fix (de_disp (DPs.cons de_str de_str (DPs.cons de_str de_str DPs.nil)))) (da_cons (de_fix (de_disp (DPs.cons de_str (de_lst (da_cons de_str da_nil)) DPs.nil))) (da_cons (de_var 1) da_nil))))))))
  (dss_cons (ds_expr (de_append (de_var 2) (de_fix (de_disp (DPs.cons de_str de_str (DPs.cons de_str de_str (DPs.cons de_str de_str DPs.nil)))))))
  (dss_cons (ds_for (passes_of rfl) rfl (di_seq (de_fix (de_var 2))) (dg_name (i := 3) sc__law_errors_right.nd rfl (Or.inr rfl)) (dss_cons (ds_if (dt_cmp (do_ne hr.units) (de_lam (k := 4) (j := 0) (pm := ("_law_errors_right", none)) (tell__law_said T) hg (hr.mono (by decide)) rfl T.g__law_said (T.tb _ (by simp [tabL])) hcd (by kernel_rfl) (LamX.lamS_by (by kernel_rfl)) rfl (fun _ _ _ _ _ => rfl) (fun E A outer s H f d hg hr => (de_call (ok_greatest_allowances T) hg (hr.mono (by decide)) rfl T.g_greatest_allowances (da_cons (de_var 3) (da_cons de_non da_nil))))) (de_lst (da_cons de_str (da_cons (de_bi (dc_reprF hg (by have z := room_u hr; exact z) T.sm) rfl T.f_repr (by decide +kernel) (da_cons (de_var 3) da_nil)) (da_cons de_bl da_nil)))) (nomark _)) (dss_one (ds_ret de_bl)) dss_nil)
  (dss_one (ds_if (dt_cmp (do_ne hr.units) (de_lam (k := 4) (j := 0) (pm := ("_law_errors_right", none)) (tell__law_said T) hg (hr.mono (by decide)) rfl T.g__law_said (T.tb _ (by simp [tabL])) hcd (by kernel_rfl) (LamX.lamS_by (by kernel_rfl)) rfl (fun _ _ _ _ _ => rfl) (fun E A outer s H f d hg hr => (de_call (ok_serve T) hg (hr.mono (by decide)) rfl T.g_serve (da_cons (de_var 3) (da_cons de_non (da_cons de_non da_nil)))))) (de_lst (da_cons de_str (da_cons (de_bi (dc_reprF hg (by have z := room_u hr; exact z) T.sm) rfl T.f_repr (by decide +kernel) (da_cons (de_var 3) da_nil)) (da_cons de_bl da_nil)))) (nomark _)) (dss_one (ds_ret de_bl)) dss_nil))))
  (dss_cons (ds_set (i := 4) sc__law_errors_right.nd rfl (Or.inl rfl) (de_ixA (hu_of hr) (de_bt (dc_listD rfl) rfl T.f_list (by decide +kernel) (da_cons (de_var 0) da_nil)) de_int (fun _ _ => rfl)))
  (dss_cons (ds_for (passes_of rfl) rfl (di_seq (de_lst (da_cons de_non (da_cons (de_lst da_nil) (da_cons (de_fix (de_disp (DPs.cons de_str de_int DPs.nil))) (da_cons (de_fix (de_disp (DPs.cons (de_var 4) de_int DPs.nil))) (da_cons (de_fix (de_disp (DPs.cons (de_var 4) de_int DPs.nil))) (da_cons (de_fix (de_disp (DPs.cons (de_var 4) de_bl DPs.nil))) (da_cons (de_fix (de_disp (DPs.cons (de_var 4) de_str DPs.nil))) (da_cons (de_fix (de_disp (DPs.cons de_str de_int DPs.nil))) (da_cons (de_fix (de_disp (DPs.cons de_int de_int DPs.nil))) da_nil))))))))))) (dg_name (i := 3) sc__law_errors_right.nd rfl (Or.inr rfl)) (dss_cons (ds_if (dt_cmp (do_ne hr.units) (de_lam (k := 4) (j := 0) (pm := ("_law_errors_right", none)) (tell__law_said T) hg (hr.mono (by decide)) rfl T.g__law_said (T.tb _ (by simp [tabL])) hcd (by kernel_rfl) (LamX.lamS_by (by kernel_rfl)) rfl (fun _ _ _ _ _ => rfl) (fun E A outer s H f d hg hr => (de_call (ok_greatest_allowances T) hg (hr.mono (by decide)) rfl T.g_greatest_allowances (da_cons (de_var 0) (da_cons (de_var 3) da_nil))))) (de_lst (da_cons de_str (da_cons (de_bi (dc_reprF hg (by have z := room_u hr; exact z) T.sm) rfl T.f_repr (by decide +kernel) (da_cons (de_var 3) da_nil)) (da_cons de_bl da_nil)))) (nomark _)) (dss_one (ds_ret de_bl)) dss_nil)
  (dss_one (ds_if (dt_cmp (do_ne hr.units) (de_lam (k := 4) (j := 0) (pm := ("_law_errors_right", none)) (tell__law_said T) hg (hr.mono (by decide)) rfl T.g__law_said (T.tb _ (by simp [tabL])) hcd (by kernel_rfl) (LamX.lamS_by (by kernel_rfl)) rfl (fun _ _ _ _ _ => rfl) (fun E A outer s H f d hg hr => (de_call (ok_serve T) hg (hr.mono (by decide)) rfl T.g_serve (da_cons (de_var 0) (da_cons (de_var 3) (da_cons de_non da_nil)))))) (de_lst (da_cons de_str (da_cons (de_bi (dc_reprF hg (by have z := room_u hr; exact z) T.sm) rfl T.f_repr (by decide +kernel) (da_cons (de_var 3) da_nil)) (da_cons de_bl da_nil)))) (nomark _)) (dss_one (ds_ret de_bl)) dss_nil))))
  (dss_one (ds_ret de_bl)))))))))) p__law_errors_right
theorem sc_law : FnScope N_law ["_law_script"] (defScope s_law) := ⟨rfl, rfl, rfl, by decide +kernel, rfl, by decide +kernel, by decide +kernel⟩
theorem ok_law (T : Txb K mg base) {fx : Addr} {fdx : FuncData} (F : FunD K "law" "law" (defArgs s_law) (defBody s_law) (defScope s_law) [] [] fx fdx) : FnG P w K mg base (L2.CX P w) 8 fx fdx ["_law_script"] (spF K R_law) :=
  fn_okD (N := N_law) (k := 7) (ws := w_law) F sc_law len_law (fun cdv _ A out s H E hg hr =>
  (dss_cons (ds_for (passes_of rfl) rfl (di_range1 rfl T.f_range (da_cons (de_bi (dc_max2 rfl) rfl T.f_max (by decide +kernel) (da_cons de_int (da_cons (de_bi (dc_min2 rfl) rfl T.f_min (by decide +kernel) (da_cons (de_bi dc_lenA rfl T.f_len (by decide +kernel) (da_cons (de_var 0) da_nil)) (da_cons de_int da_nil))) da_nil))) da_nil)) (dg_name (i := 1) sc_law.nd rfl (Or.inl rfl)) (dss_cons (ds_set (i := 2) sc_law.nd rfl (Or.inr rfl) (de_call (ok__law_source T) hg (hr.mono (by decide)) rfl T.g__law_source (da_cons (de_var 0) (da_cons (de_var 1) da_nil))))
  (dss_cons (ds_set (i := 3) sc_law.nd rfl (Or.inr rfl) (de_call (ok__law_tree T) hg (hr.mono (by decide)) rfl T.g__law_tree (da_cons (de_var 2) (da_cons de_int da_nil))))
  (dss_cons (ds_set (i := 4) sc_law.nd rfl (Or.inl rfl) (de_call (ok__law_needs T) hg (hr.mono (by decide)) rfl T.g__law_needs (da_cons (de_var 2) (da_cons (de_var 3) (da_cons (de_ixA (hu_of hr) (de_lst (da_cons de_int (da_cons de_int da_nil))) (de_call (ok__law_draw T) hg (hr.mono (by decide)) rfl T.g__law_draw (da_cons (de_var 2) (da_cons de_int da_nil))) (fun _ _ => rfl)) da_nil)))))
  (dss_cons (ds_set (i := 5) sc_law.nd rfl (Or.inr rfl) (de_call (ok_greatest_allowances T) hg (hr.mono (by decide)) rfl T.g_greatest_allowances (da_cons (de_var 3) (da_cons (de_var 4) da_nil))))
  (dss_cons (ds_set (i := 6) sc_law.nd rfl (Or.inr rfl) (de_bt (dc_dictOf rfl) rfl T.f_dict (by decide +kernel) (da_cons (de_lock 5 (de_lc (own := [("_law_name", 9)]) rfl sc_law.nd (di_keys (de_var 5)) (blkOk_by (own := [("_law_name", 9)]) (N := N_law) (sc := defScope s_law) (by decide +kernel)) (fun _ _ _ _ _ => (dg_name (i := 9) sc_law.nd rfl (Or.inl rfl))) (fun _ _ _ _ _ => dts_nil) (fun _ _ _ _ _ => (de_tup (da_cons (de_var 9) (da_cons (de_ixA (hu_of hr) (de_ixA (hu_of hr) (de_var 5) (de_var 9) (fun _ _ => rfl)) de_int (fun _ _ => rfl)) da_nil)))))) da_nil)))
  (dss_cons (ds_set (i := 7) sc_law.nd rfl (Or.inl rfl) (de_fix (de_bt (dc_dictOf rfl) rfl T.f_dict (by decide +kernel) (da_cons (de_lc (own := [("_law_name", 9)]) rfl sc_law.nd (di_keys (de_var 3)) (blkOk_by (own := [("_law_name", 9)]) (N := N_law) (sc := defScope s_law) (by decide +kernel)) (fun _ _ _ _ _ => (dg_name (i := 9) sc_law.nd rfl (Or.inl rfl))) (fun _ _ _ _ _ => dts_nil) (fun _ _ _ _ _ => (de_tup (da_cons (de_var 9) (da_cons (de_op do_add de_int (de_call (ok__law_draw T) hg (hr.mono (by decide)) rfl T.g__law_draw (da_cons (de_var 2) (da_cons de_int da_nil)))) da_nil))))) da_nil))))
  (dss_cons (ds_for (passes_of rfl) rfl (di_seq (de_op do_add (de_lst (da_cons (de_var 6) (da_cons (de_var 7) da_nil))) (de_lc (own := [("_law_attempt", 10)]) rfl sc_law.nd (di_range1 rfl T.f_range (da_cons de_int da_nil)) (blkOk_by (own := [("_law_attempt", 10)]) (N := N_law) (sc := defScope s_law) (by decide +kernel)) (fun _ _ _ _ _ => (dg_name (i := 10) sc_law.nd rfl (Or.inl rfl))) (fun _ _ _ _ _ => dts_nil) (fun _ _ _ _ _ => (de_call (ok__law_bent T) hg (hr.mono (by decide)) rfl T.g__law_bent (da_cons (de_var 2) (da_cons (de_var 3) (da_cons (de_var 6) da_nil)))))))) (dg_name (i := 8) sc_law.nd rfl (Or.inl rfl)) (dss_one (ds_frz 8 (ds_if (dt_cmp do_neS (de_bi (dc_reprF hg (by have z := room_u hr; exact z) T.sm) rfl T.f_repr (by decide +kernel) (da_cons (de_call (ok_serve T) hg (hr.mono (by decide)) rfl T.g_serve (da_cons (de_var 3) (da_cons (de_var 4) (da_cons (de_var 8) da_nil)))) da_nil)) (de_bi (dc_reprF hg (by have z := room_u hr; exact z) T.sm) rfl T.f_repr (by decide +kernel) (da_cons (de_call (ok__law_serve T) hg (hr.mono (by decide)) rfl T.g__law_serve (da_cons (de_var 3) (da_cons (de_var 4) (da_cons (de_var 8) da_nil)))) da_nil)) (nomark _)) (dss_one (ds_ret de_bl)) dss_nil))))
  (dss_one (ds_if (dt_not (dt_val (de_call (ok__law_errors_right T) hg (hr.mono (by decide)) rfl T.g__law_errors_right (da_cons (de_var 3) da_nil)))) (dss_one (ds_ret de_bl)) dss_nil))))))))))
  (dss_one (ds_ret de_bl)))) p_law
end
end K69
namespace K69
open PySem PySem.Spec PyProof.Rows L2 Sy
def dd_is_integer : He5.DefA := ⟨fun K => fA K ("is_integer", none), "is_integer", "is_integer", defArgs s_is_integer, defBody s_is_integer, defScope s_is_integer, [], []⟩
def dd_is_in_range : He5.DefA := ⟨fun K => fA K ("is_in_range", none), "is_in_range", "is_in_range", defArgs s_is_in_range, defBody s_is_in_range, defScope s_is_in_range, [], []⟩
def dd_is_word : He5.DefA := ⟨fun K => fA K ("is_word", none), "is_word", "is_word", defArgs s_is_word, defBody s_is_word, defScope s_is_word, [], []⟩
def dd_path_of : He5.DefA := ⟨fun K => fA K ("path_of", none), "path_of", "path_of", defArgs s_path_of, defBody s_path_of, defScope s_path_of, [], []⟩
def dd_check_tree : He5.DefA := ⟨fun K => fA K ("check_tree", none), "check_tree", "check_tree", defArgs s_check_tree, defBody s_check_tree, defScope s_check_tree, [], []⟩
def dd_check_needs : He5.DefA := ⟨fun K => fA K ("check_needs", none), "check_needs", "check_needs", defArgs s_check_needs, defBody s_check_needs, defScope s_check_needs, [], []⟩
def dd_greatest_allowances : He5.DefA := ⟨fun K => fA K ("greatest_allowances", none), "greatest_allowances", "greatest_allowances", defArgs s_greatest_allowances, defBody s_greatest_allowances, defScope s_greatest_allowances, [], []⟩
def dd_serve : He5.DefA := ⟨fun K => fA K ("serve", none), "serve", "serve", defArgs s_serve, defBody s_serve, defScope s_serve, [], []⟩
def dd__law_source : He5.DefA := ⟨fun K => fA K ("_law_source", none), "_law_source", "_law_source", defArgs s__law_source, defBody s__law_source, defScope s__law_source, [], []⟩
def dd__law_draw : He5.DefA := ⟨fun K => fA K ("_law_draw", none), "_law_draw", "_law_draw", defArgs s__law_draw, defBody s__law_draw, defScope s__law_draw, [], []⟩
def dd__law_tree : He5.DefA := ⟨fun K => fA K ("_law_tree", none), "_law_tree", "_law_tree", defArgs s__law_tree, defBody s__law_tree, defScope s__law_tree, [], []⟩
def dd__law_needs : He5.DefA := ⟨fun K => fA K ("_law_needs", none), "_law_needs", "_law_needs", defArgs s__law_needs, defBody s__law_needs, defScope s__law_needs, [], []⟩
def dd__law_serve : He5.DefA := ⟨fun K => fA K ("_law_serve", none), "_law_serve", "_law_serve", defArgs s__law_serve, defBody s__law_serve, defScope s__law_serve, [], []⟩
def dd__law_said : He5.DefA := ⟨fun K => fA K ("_law_said", none), "_law_said", "_law_said", defArgs s__law_said, defBody s__law_said, defScope s__law_said, [], []⟩
def dd__law_bent : He5.DefA := ⟨fun K => fA K ("_law_bent", none), "_law_bent", "_law_bent", defArgs s__law_bent, defBody s__law_bent, defScope s__law_bent, [], []⟩
def dd__law_errors_right : He5.DefA := ⟨fun K => fA K ("_law_errors_right", none), "_law_errors_right", "_law_errors_right", defArgs s__law_errors_right, defBody s__law_errors_right, defScope s__law_errors_right, [], []⟩
def dd_law : He5.DefA := ⟨fun K => fA K ("law", none), "law", "law", defArgs s_law, defBody s_law, defScope s_law, [], []⟩
def dd_InvalidTree___init__ : He5.DefA := ⟨fun K => fA K ("InvalidTree", some "__init__"), "__init__", "InvalidTree.__init__", defArgs s_InvalidTree___init__, defBody s_InvalidTree___init__, defScope s_InvalidTree___init__, [], []⟩
def dd_InvalidNeed___init__ : He5.DefA := ⟨fun K => fA K ("InvalidNeed", some "__init__"), "__init__", "InvalidNeed.__init__", defArgs s_InvalidNeed___init__, defBody s_InvalidNeed___init__, defScope s_InvalidNeed___init__, [], []⟩
def fnL : List He5.DefA := [dd_is_integer, dd_is_in_range, dd_is_word, dd_path_of, dd_check_tree, dd_check_needs, dd_greatest_allowances, dd_serve, dd__law_source, dd__law_draw, dd__law_tree, dd__law_needs, dd__law_serve, dd__law_said, dd__law_bent, dd__law_errors_right, dd_law, dd_InvalidTree___init__, dd_InvalidNeed___init__]
def faL : List He.Fa := [.glo "CacheError", .glo "InvalidNeed", .glo "InvalidTree", .glo "_law_bent", .glo "_law_draw", .glo "_law_errors_right", .glo "_law_needs", .glo "_law_said", .glo "_law_serve", .glo "_law_source", .glo "_law_tree", .glo "check_needs", .glo "check_tree", .glo "greatest_allowances", .glo "is_in_range", .glo "is_integer", .glo "is_word", .glo "path_of", .glo "serve", .glo "law", .free "all", .free "any", .free "bool", .free "dict", .free "int", .free "isinstance", .free "len", .free "list", .free "max", .free "min", .free "range", .free "repr", .free "sorted", .free "str", .str "LETTERS" "abcdefghijklmnopqrstuvwxyz", .int "LONGEST" 8, .int "MAX_ALLOWANCE" 99, .int "MOST_NODES" 11, .str "STORE" "store"]
def looseL : List PySem.Str := [("CacheError" : PySem.Str), ("InvalidNeed" : PySem.Str), ("InvalidTree" : PySem.Str), ("STORE" : PySem.Str), ("LETTERS" : PySem.Str), ("LONGEST" : PySem.Str), ("MAX_ALLOWANCE" : PySem.Str), ("is_integer" : PySem.Str), ("is_in_range" : PySem.Str), ("is_word" : PySem.Str), ("MOST_NODES" : PySem.Str), ("path_of" : PySem.Str), ("check_tree" : PySem.Str), ("check_needs" : PySem.Str), ("greatest_allowances" : PySem.Str), ("serve" : PySem.Str), ("_law_source" : PySem.Str), ("_law_draw" : PySem.Str), ("_law_tree" : PySem.Str), ("_law_needs" : PySem.Str), ("_law_serve" : PySem.Str), ("_law_said" : PySem.Str), ("_law_bent" : PySem.Str), ("_law_errors_right" : PySem.Str)]
def exK (K : PySem.W.Frag) : Bool := (ktL.all fun p => (p.2.1.all fun b => decide (PySem.W.kitOne K (p.1.val K) (b.val K) = some true)) && (p.2.2.all fun b => decide (PySem.W.kitOne K (p.1.val K) (b.val K) = some false))) && (isL.all fun C => inB K (He.ga K C)) &&
  (xsL.all fun p => xcB K (He.ga K p.1) && (p.2.all fun f => decide (PySem.W.findIn K (.ref (He.ga K p.1)) f = some none)) && decide (PySem.W.findIn K (.ref (He.ga K p.1)) "__init__" = some (some (.ref (fA K (p.1, some "__init__"))))) && decide (PySem.W.typeIn K (.ref (fA K (p.1, some "__init__"))) = some (.type "function"))) && biB K (He.ga K "CacheError") && (xtL.all fun p => (p.2.1.all fun b => decide (PySem.W.exmOne K (.ref (He.ga K p.1)) (b.val K) = some true)) && (p.2.2.all fun b => decide (PySem.W.exmOne K (.ref (He.ga K p.1)) (b.val K) = some false))) && sysB K
abbrev rowR : PySem.W.OpenRow := PySem.W.OpenLaw.row PySem.Challenge.rw_slackcache_k69_allowances_that_serve
abbrev hkR : PySem.W.Hook := hookZ 4 faL fnL exK tabL
def obR (s : PySem.W.SharedT) : He.AlD × Bool := obsZ 4 faL fnL exK tabL (HandSHeadRun.getT s)
theorem obR_eq (s : PySem.W.SharedT) : obR s = hkR.obs s.abs := obsZ_eq (HandSHeadRun.getT_eq s)
theorem runR (w : World) : HandSHeadRun.RunEq rowR (PySem.W.view rowR.prog [28]) hkR obR 20000 looseL w := by
  intro os
  kernel_rfl
theorem look_mem {α β : Type} [BEq α] [LawfulBEq α] {a : α} {b : β} : ∀ {l : List (α × β)}, l.lookup a = some b → (a, b) ∈ l
  | [], h => by cases h
  | (k, v) :: l, h => by
    cases e : a == k with
    | true => simp only [List.lookup, e] at h; cases h; rw [eq_of_beq e]; exact List.mem_cons_self
    | false => simp only [List.lookup, e] at h; exact List.mem_cons_of_mem _ (look_mem h)
theorem xsL_at {C : PySem.Str} (h : xsB C = true) : ∃ fs, (C, fs) ∈ xsL ∧ (xsL.lookup C).getD [] = fs := by
  obtain ⟨fs, e⟩ := Option.isSome_iff_exists.mp (show (xsL.lookup C).isSome = true from h)
  exact ⟨fs, look_mem e, by rw [e]; rfl⟩
theorem txtR {K : PySem.W.Frag} {h : Heap} {mg : PySem.Str → Option Value} (X : K.In h) (G : h.Ns mainGlobals mg) (c0 : SaysY faL fnL exK K) : Txt K mg := by
  have c : He5.SaysA faL fnL K := c0.d
  have m := c0.more
  unfold exK at m
  simp only [Bool.and_eq_true] at m
  obtain ⟨⟨⟨⟨⟨m1, m2⟩, m3⟩, m4⟩, m5⟩, msys⟩ := m
  have xall : ∀ C fs, (C, fs) ∈ xsL → ((xcB K (He.ga K C) = true ∧ (fs.all fun f => decide (PySem.W.findIn K (.ref (He.ga K C)) f = some none)) = true) ∧ decide (PySem.W.findIn K (.ref (He.ga K C)) "__init__" = some (some (.ref (fA K (C, some "__init__"))))) = true) ∧ decide (PySem.W.typeIn K (.ref (fA K (C, some "__init__"))) = some (.type "function")) = true := fun C fs hm => by
    have := List.all_eq_true.mp m3 (C, fs) hm
    simpa only [Bool.and_eq_true] using this
  have ktok : KtOk K kt xsB isB := ⟨(fun a b r e => by
      unfold kt at e
      split at e
      · rename_i ts fs el
        have h1 := List.all_eq_true.mp m1 _ (look_mem el)
        simp only [Bool.and_eq_true] at h1
        split at e
        · rename_i hb
          cases e
          exact of_decide_eq_true (List.all_eq_true.mp h1.1 b (List.contains_iff_mem.mp hb))
        · split at e
          · rename_i hb
            cases e
            exact of_decide_eq_true (List.all_eq_true.mp h1.2 b (List.contains_iff_mem.mp hb))
          · cases e
      · cases e), fun C hC => let ⟨fs, hm, _⟩ := xsL_at hC; xcB_ok (xall C fs hm).1.1.1, fun C hC => inB_ok (List.all_eq_true.mp m2 C (by simpa [isB] using hC))⟩
  have xtok : XtOk K xt := fun C b r e => by
    unfold xt at e
    split at e
    · rename_i ts fs el
      have h1 := List.all_eq_true.mp m5 _ (look_mem el)
      simp only [Bool.and_eq_true] at h1
      split at e
      · rename_i hb
        cases e
        exact of_decide_eq_true (List.all_eq_true.mp h1.1 b (List.contains_iff_mem.mp hb))
      · split at e
        · rename_i hb
          cases e
          exact of_decide_eq_true (List.all_eq_true.mp h1.2 b (List.contains_iff_mem.mp hb))
        · cases e
    · cases e
  exact {
    g_CacheError := He.glo_ok X G (c.fact 0 (f := .glo "CacheError") rfl)
    g_InvalidNeed := He.glo_ok X G (c.fact 1 (f := .glo "InvalidNeed") rfl)
    g_InvalidTree := He.glo_ok X G (c.fact 2 (f := .glo "InvalidTree") rfl)
    g__law_bent := He.glo_ok X G (c.fact 3 (f := .glo "_law_bent") rfl)
    g__law_draw := He.glo_ok X G (c.fact 4 (f := .glo "_law_draw") rfl)
    g__law_errors_right := He.glo_ok X G (c.fact 5 (f := .glo "_law_errors_right") rfl)
    g__law_needs := He.glo_ok X G (c.fact 6 (f := .glo "_law_needs") rfl)
    g__law_said := He.glo_ok X G (c.fact 7 (f := .glo "_law_said") rfl)
    g__law_serve := He.glo_ok X G (c.fact 8 (f := .glo "_law_serve") rfl)
    g__law_source := He.glo_ok X G (c.fact 9 (f := .glo "_law_source") rfl)
    g__law_tree := He.glo_ok X G (c.fact 10 (f := .glo "_law_tree") rfl)
    g_check_needs := He.glo_ok X G (c.fact 11 (f := .glo "check_needs") rfl)
    g_check_tree := He.glo_ok X G (c.fact 12 (f := .glo "check_tree") rfl)
    g_greatest_allowances := He.glo_ok X G (c.fact 13 (f := .glo "greatest_allowances") rfl)
    g_is_in_range := He.glo_ok X G (c.fact 14 (f := .glo "is_in_range") rfl)
    g_is_integer := He.glo_ok X G (c.fact 15 (f := .glo "is_integer") rfl)
    g_is_word := He.glo_ok X G (c.fact 16 (f := .glo "is_word") rfl)
    g_path_of := He.glo_ok X G (c.fact 17 (f := .glo "path_of") rfl)
    g_serve := He.glo_ok X G (c.fact 18 (f := .glo "serve") rfl)
    f_all := He.free_ok X G (c.fact 20 (f := .free "all") rfl)
    f_any := He.free_ok X G (c.fact 21 (f := .free "any") rfl)
    f_bool := He.free_ok X G (c.fact 22 (f := .free "bool") rfl)
    f_dict := He.free_ok X G (c.fact 23 (f := .free "dict") rfl)
    f_int := He.free_ok X G (c.fact 24 (f := .free "int") rfl)
    f_isinstance := He.free_ok X G (c.fact 25 (f := .free "isinstance") rfl)
    f_len := He.free_ok X G (c.fact 26 (f := .free "len") rfl)
    f_list := He.free_ok X G (c.fact 27 (f := .free "list") rfl)
    f_max := He.free_ok X G (c.fact 28 (f := .free "max") rfl)
    f_min := He.free_ok X G (c.fact 29 (f := .free "min") rfl)
    f_range := He.free_ok X G (c.fact 30 (f := .free "range") rfl)
    f_repr := He.free_ok X G (c.fact 31 (f := .free "repr") rfl)
    f_sorted := He.free_ok X G (c.fact 32 (f := .free "sorted") rfl)
    f_str := He.free_ok X G (c.fact 33 (f := .free "str") rfl)
    c_LETTERS := He.str_ok X G (c.fact 34 (f := .str "LETTERS" "abcdefghijklmnopqrstuvwxyz") rfl)
    c_LONGEST := He.int_ok X G (c.fact 35 (f := .int "LONGEST" 8) rfl)
    c_MAX_ALLOWANCE := He.int_ok X G (c.fact 36 (f := .int "MAX_ALLOWANCE" 99) rfl)
    c_MOST_NODES := He.int_ok X G (c.fact 37 (f := .int "MOST_NODES" 11) rfl)
    c_STORE := He.str_ok X G (c.fact 38 (f := .str "STORE" "store") rfl)
    d_is_integer := ⟨let ⟨fd, F⟩ := c.def_ 0 (d := dd_is_integer) rfl; ⟨fd, F, FunD.bindsN F fun _ _ _ _ _ _ us hl => match us, hl with | [_], _ => rfl, F.kp⟩⟩
    d_is_in_range := ⟨let ⟨fd, F⟩ := c.def_ 1 (d := dd_is_in_range) rfl; ⟨fd, F, FunD.bindsN F fun _ _ _ _ _ _ us hl => match us, hl with | [_, _, _], _ => rfl, F.kp⟩⟩
    d_is_word := ⟨let ⟨fd, F⟩ := c.def_ 2 (d := dd_is_word) rfl; ⟨fd, F, FunD.bindsN F fun _ _ _ _ _ _ us hl => match us, hl with | [_], _ => rfl, F.kp⟩⟩
    d_path_of := ⟨let ⟨fd, F⟩ := c.def_ 3 (d := dd_path_of) rfl; ⟨fd, F, FunD.bindsN F fun _ _ _ _ _ _ us hl => match us, hl with | [_, _], _ => rfl, F.kp⟩⟩
    d_check_tree := ⟨let ⟨fd, F⟩ := c.def_ 4 (d := dd_check_tree) rfl; ⟨fd, F, FunD.bindsN F fun _ _ _ _ _ _ us hl => match us, hl with | [_], _ => rfl, F.kp⟩⟩
    d_check_needs := ⟨let ⟨fd, F⟩ := c.def_ 5 (d := dd_check_needs) rfl; ⟨fd, F, FunD.bindsN F fun _ _ _ _ _ _ us hl => match us, hl with | [_, _], _ => rfl, F.kp⟩⟩
    d_greatest_allowances := ⟨let ⟨fd, F⟩ := c.def_ 6 (d := dd_greatest_allowances) rfl; ⟨fd, F, FunD.bindsN F fun _ _ _ _ _ _ us hl => match us, hl with | [_, _], _ => rfl, F.kp⟩⟩
    d_serve := ⟨let ⟨fd, F⟩ := c.def_ 7 (d := dd_serve) rfl; ⟨fd, F, FunD.bindsN F fun _ _ _ _ _ _ us hl => match us, hl with | [_, _, _], _ => rfl, F.kp⟩⟩
    d__law_source := ⟨let ⟨fd, F⟩ := c.def_ 8 (d := dd__law_source) rfl; ⟨fd, F, FunD.bindsN F fun _ _ _ _ _ _ us hl => match us, hl with | [_, _], _ => rfl, F.kp⟩⟩
    d__law_draw := ⟨let ⟨fd, F⟩ := c.def_ 9 (d := dd__law_draw) rfl; ⟨fd, F, FunD.bindsN F fun _ _ _ _ _ _ us hl => match us, hl with | [_, _], _ => rfl, F.kp⟩⟩
    d__law_tree := ⟨let ⟨fd, F⟩ := c.def_ 10 (d := dd__law_tree) rfl; ⟨fd, F, FunD.bindsN F fun _ _ _ _ _ _ us hl => match us, hl with | [_, _], _ => rfl, F.kp⟩⟩
    d__law_needs := ⟨let ⟨fd, F⟩ := c.def_ 11 (d := dd__law_needs) rfl; ⟨fd, F, FunD.bindsN F fun _ _ _ _ _ _ us hl => match us, hl with | [_, _, _], _ => rfl, F.kp⟩⟩
    d__law_serve := ⟨let ⟨fd, F⟩ := c.def_ 12 (d := dd__law_serve) rfl; ⟨fd, F, FunD.bindsN F fun _ _ _ _ _ _ us hl => match us, hl with | [_, _, _], _ => rfl, F.kp⟩⟩
    d__law_said := ⟨let ⟨fd, F⟩ := c.def_ 13 (d := dd__law_said) rfl; ⟨fd, F, FunD.bindsN F fun _ _ _ _ _ _ us hl => match us, hl with | [_], _ => rfl, F.kp⟩⟩
    d__law_bent := ⟨let ⟨fd, F⟩ := c.def_ 14 (d := dd__law_bent) rfl; ⟨fd, F, FunD.bindsN F fun _ _ _ _ _ _ us hl => match us, hl with | [_, _, _], _ => rfl, F.kp⟩⟩
    d__law_errors_right := ⟨let ⟨fd, F⟩ := c.def_ 15 (d := dd__law_errors_right) rfl; ⟨fd, F, FunD.bindsN F fun _ _ _ _ _ _ us hl => match us, hl with | [_], _ => rfl, F.kp⟩⟩
    d_InvalidTree___init__ := ⟨let ⟨fd, F⟩ := c.def_ 17 (d := dd_InvalidTree___init__) rfl; ⟨fd, F, FunD.bindsN F fun _ _ _ _ _ _ us hl => match us, hl with | [_, _], _ => rfl, F.kp⟩⟩
    d_InvalidNeed___init__ := ⟨let ⟨fd, F⟩ := c.def_ 18 (d := dd_InvalidNeed___init__) rfl; ⟨fd, F, FunD.bindsN F fun _ _ _ _ _ _ us hl => match us, hl with | [_, _], _ => rfl, F.kp⟩⟩
    kt := ktok
    sm := msys
    xt := xtok
    xc := ⟨ktok.xc, fun C hC f hf => by
      obtain ⟨fs, hm, e⟩ := xsL_at hC
      rw [e] at hf
      exact of_decide_eq_true (List.all_eq_true.mp (xall C fs hm).1.1.2 f hf), fun C hC => let ⟨fs, hm, _⟩ := xsL_at hC; of_decide_eq_true (xall C fs hm).1.2, fun C hC => let ⟨fs, hm, _⟩ := xsL_at hC; of_decide_eq_true (xall C fs hm).2⟩
    bi := biB_ok m4 }
def tabQ : List ((PySem.Str × Option PySem.Str) × PySem.Str) := [(("_law_errors_right", none), "_law_errors_right.<locals>.<lambda>")]
theorem endR {K : PySem.W.Frag} {H : Hp} {a : Addr} {ns : List Int} {E : XK} (hl : ns.length ≤ 63) (nd : (tabL.map (tabP K)).Nodup) (hO : OnlyT (tabL.map fun p => (codeP K p, tabP K p)) H) (hS : SqL K H a (ns.map V.int)) : spF K R_law [.ref a] H (fun v _ => v = .bl true) E := by
  have hT : ∀ c ∈ tabQ.map (fun p => tabP K p.1), H c = some (.tbl #[]) := fun c hc => by
    obtain ⟨p, hp, rfl⟩ := List.mem_map.mp hc
    exact hO.1 (codeP K p.1, tabP K p.1) (List.mem_map.mpr ⟨p.1, List.mem_map.mpr ⟨p, hp, rfl⟩, rfl⟩)
  refine ⟨⟨⟨K, never, none⟩, fun c => if c ∈ tabQ.map (fun p => tabP K p.1) then none else H c, H, tabQ.map fun p => tabP K p.1, fun _ => none⟩, [.scr ns], tabQ.map fun p => .tab p.1 p.2, fun r _ => r = .bl true, fun _ _ _ => False, rfl, rfl, own_tabs (K := K) (S := ⟨K, never, none⟩) (ps := tabQ) rfl hO nd, .cons (.scr (sq_tabs hT hS)) .nil, ⟨ns, rfl, rfl, hl, fun _ => rfl⟩, fun W' v r ms' _ _ ok e => ?_, fun _ _ _ _ _ _ _ _ _ _ z => z.elim⟩
  subst e
  cases ok
  rfl
end K69
open PySem PySem.W PySem.Calls PyProof.Rows
theorem PySem.Challenge.cw_slackcache_k69_allowances_that_serve_holds : PySem.Challenge.rw_slackcache_k69_allowances_that_serve.Holds := by
  w_on; o_law
  refine HandSHeadRun.head_any (r := OpenLaw.row PySem.Challenge.rw_slackcache_k69_allowances_that_serve) (q := view (OpenLaw.row PySem.Challenge.rw_slackcache_k69_allowances_that_serve).prog [28]) (H := K69.hkR) (ob := K69.obR) (M := 20000) (loose := K69.looseL) (d := HandSHeadRun.topDef (OpenLaw.row PySem.Challenge.rw_slackcache_k69_allowances_that_serve).prog 28) (kwd := []) K69.obR_eq
    (by kernel_rfl) (fun s => by kernel_rfl) K69.runR (by kernel_rfl) (by kernel_rfl) (by kernel_rfl) (by rfl) (by first | assumption | decide +kernel) (by decide +kernel) ⟨rfl, rfl, rfl, rfl, rfl, by decide +kernel⟩ ?hw ?hc
  case hw => w_witness2
  case hc =>
    refine Sy.walkGT (l := PySem.Challenge.rw_slackcache_k69_allowances_that_serve) (n := 63) (k := 8) (x := "_law_script") (CX := fun w => L2.CX PySem.Challenge.rw_slackcache_k69_allowances_that_serve.prog w) rfl (by decide) (by kernel_rfl) ⟨rfl, by decide, by decide⟩ ?F (fun _ _ _ _ _ z => Sy.cx_none z)
    intro w mg fa h Y G hmg0
    obtain ⟨K, KX, c, th⟩ := Y
    have hmg : mg ("law" : PySem.Str) = some (.ref fa) := by
      have e : (HandSHeadRun.topDef (OpenLaw.row PySem.Challenge.rw_slackcache_k69_allowances_that_serve).prog 28).name = ("law" : PySem.Str) := by kernel_rfl
      rw [← e]
      exact hmg0
    have T := K69.txtR KX G c
    obtain ⟨fd, F⟩ := He5.SaysA.def_ c.d 16 (d := K69.dd_law) rfl
    have m := He.glo_ok KX G (He5.SaysA.fact c.d 19 (f := .glo "law") rfl)
    cases m.symm.trans hmg
    have bA := L2.FunD.bindsA (ps := ["_law_script"]) F fun _ _ _ _ _ _ us hl => match us, hl with | [_], _ => rfl
    exact ⟨K, fd, Sy.spF K K69.R_law, K69.tabL.map (fun p => (Sy.codeP K p, Sy.tabP K p)), KX, fun s u => bA s [u] rfl, fun p hp => by obtain ⟨r, hr, rfl⟩ := List.mem_map.mp hp; exact th.ok r hr, fun H a ns hl hO hS => K69.endR hl th.nd hO hS, fun base hb hN tb => K69.ok_law ⟨T, fun p hp => tb (Sy.codeP K p, Sy.tabP K p) (List.mem_map.mpr ⟨p, hp, rfl⟩)⟩ F⟩
