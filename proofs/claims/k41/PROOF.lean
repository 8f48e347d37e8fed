import PyProof.Rows.All
import Wide.All
import OpenK.AllK
import Wide.FinOn
import HandS.ForMost
import HandS.Walk
import HandS.Evl
import HandS.ForExc
import HandS.HeadHook1
import HandS.ExcInit
import HandS.Flow
import HandS.TupAny
import HandS.Style
import HandS.IsInst
import HandS.SortInts
import HandS.Zip
import HandS.HeadEnd
import HandS.Defaults
import HandS.RaiseMore
import HandS.HeadHook2
import HandS.CallSlots
import KE.GoesNew
import KE.GoesMore
import KE.GoesEnum
import HandS.Strs
import HandS.WordsDict
import HandS.Dict
import HandS.DictComp
import HandS.More
import HandS.Iter
import HandS.Exc
import HandS.ExcIs
import HandS.ExcField
import HandS.ClsMeth
import KE.KExcInit
import KE.KExcIs
import KE.KDictWalk
import HandS.HeadHook4
import HandS.HeadNt
import HandS.MakeKwOnly
import HandS.Wide
import HandS.TryMany
import HandS.Property
import OpenK.KMeth
import HandS.SetFor
import HandS.Comp
import PySem.Challenge.RW_slackcache_k41_whole_spreads_of_cuts
import KE.KStateDown
import HandS.Head0
import HandS.Head1
import HandS.Head2
import HandS.HeadHook3
set_option Elab.async false
set_option linter.all false
set_option maxRecDepth 100000
set_option maxHeartbeats 0
namespace Sy
open PySem L2
/-! ## data -/
/-- a value as a whole: what it is, without addresses -/
inductive Dat where
  | non | bl (b : Bool) | int (i : Int) | str (x : Str) | ty (n : String) | ref (a : Addr) | glo (x : Str)
  | lst (ds : List Dat) | tup (ds : List Dat) | dic (kvs : List (Key × Dat)) | scr (ns : List Int) | own (i : Nat)
  | ins (C : Str) (fs : List (Str × Dat)) | exc (C : Str) (fs : List (Str × Dat))
mutual
/-- the value v, with what stands in G, is the datum d -/
inductive Dt (K : PySem.W.Frag) (G : Hp) (A : List Addr) : V → Dat → Prop
  | non : Dt K G A .non .non
  | bl (b : Bool) : Dt K G A (.bl b) (.bl b)
  | int (i : Int) : Dt K G A (.int i) (.int i)
  | str (x : Str) : Dt K G A (.str x) (.str x)
  | ty (n : String) : Dt K G A (.ty n) (.ty n)
  | ref (a : Addr) : Dt K G A (.ref a) (.ref a)
  | glo (x : Str) : Dt K G A (.ref (He.ga K x)) (.glo x)
  | lst {a : Addr} {xs : List V} {ds : List Dat} : G a = some (.lst xs) → Dts K G A xs ds → Dt K G A (.ref a) (.lst ds)
  | tup {a : Addr} {xs : List V} {ds : List Dat} : G a = some (.tup xs) → Dts K G A xs ds → Dt K G A (.ref a) (.tup ds)
  | dic {a : Addr} {o : Obj} {xs : List (Key × V)} {ds : List (Key × Dat)} : G a = some (.frz o (.dK xs)) → Dtk K G A xs ds → Dt K G A (.ref a) (.dic ds)
  | scr {a : Addr} {ns : List Int} : SqL K G a (ns.map V.int) → Dt K G A (.ref a) (.scr ns)
  | own {a : Addr} {i : Nat} : A[i]? = some a → Dt K G A (.ref a) (.own i)
  | ins {a dx : Addr} {C : Str} {xs : List (Str × V)} {ds : List (Str × Dat)} : G a = some (.ins (He.ga K C) dx xs) → Dtf K G A xs ds → Dt K G A (.ref a) (.ins C ds)
  | exc {a d : Addr} {C : Str} {xs : List (Str × V)} {ds : List (Str × Dat)} : G a = some (exo a (He.ga K C) (some d)) → G d = some (exd d xs) → Dtf K G A xs ds → Dt K G A (.ref a) (.exc C ds)
inductive Dts (K : PySem.W.Frag) (G : Hp) (A : List Addr) : List V → List Dat → Prop
  | nil : Dts K G A [] []
  | cons {v : V} {vs : List V} {d : Dat} {ds : List Dat} : Dt K G A v d → Dts K G A vs ds → Dts K G A (v :: vs) (d :: ds)
inductive Dtk (K : PySem.W.Frag) (G : Hp) (A : List Addr) : List (Key × V) → List (Key × Dat) → Prop
  | nil : Dtk K G A [] []
  | cons {k : Key} {v : V} {vs : List (Key × V)} {d : Dat} {ds : List (Key × Dat)} : Dt K G A v d → Dtk K G A vs ds → Dtk K G A ((k, v) :: vs) ((k, d) :: ds)
inductive Dtf (K : PySem.W.Frag) (G : Hp) (A : List Addr) : List (Str × V) → List (Str × Dat) → Prop
  | nil : Dtf K G A [] []
  | cons {k : Str} {v : V} {vs : List (Str × V)} {d : Dat} {ds : List (Str × Dat)} : Dt K G A v d → Dtf K G A vs ds → Dtf K G A ((k, v) :: vs) ((k, d) :: ds)
end
mutual
theorem Dt.mono {K : PySem.W.Frag} {G G' : Hp} {A A' : List Addr} (e : Same G G') (ea : ∀ (i : Nat) a, A[i]? = some a → A'[i]? = some a) : ∀ {v : V} {d : Dat}, Dt K G A v d → Dt K G' A' v d
  | _, _, .non => .non
  | _, _, .bl b => .bl b
  | _, _, .int i => .int i
  | _, _, .str x => .str x
  | _, _, .ty n => .ty n
  | _, _, .ref a => .ref a
  | _, _, .glo x => .glo x
  | _, _, .lst h r => .lst (e _ _ h) (Dts.mono e ea r)
  | _, _, .tup h r => .tup (e _ _ h) (Dts.mono e ea r)
  | _, _, .dic h r => .dic (e _ _ h) (Dtk.mono e ea r)
  | _, _, .scr h => .scr (e.seq h)
  | _, _, .own h => .own (ea _ _ h)
  | _, _, .ins h r => .ins (e _ _ h) (Dtf.mono e ea r)
  | _, _, .exc h h' r => .exc (e _ _ h) (e _ _ h') (Dtf.mono e ea r)
theorem Dts.mono {K : PySem.W.Frag} {G G' : Hp} {A A' : List Addr} (e : Same G G') (ea : ∀ (i : Nat) a, A[i]? = some a → A'[i]? = some a) : ∀ {v : List V} {d : List Dat}, Dts K G A v d → Dts K G' A' v d
  | _, _, .nil => .nil
  | _, _, .cons h r => .cons (Dt.mono e ea h) (Dts.mono e ea r)
theorem Dtk.mono {K : PySem.W.Frag} {G G' : Hp} {A A' : List Addr} (e : Same G G') (ea : ∀ (i : Nat) a, A[i]? = some a → A'[i]? = some a) : ∀ {v : List (Key × V)} {d : List (Key × Dat)}, Dtk K G A v d → Dtk K G' A' v d
  | _, _, .nil => .nil
  | _, _, .cons h r => .cons (Dt.mono e ea h) (Dtk.mono e ea r)
theorem Dtf.mono {K : PySem.W.Frag} {G G' : Hp} {A A' : List Addr} (e : Same G G') (ea : ∀ (i : Nat) a, A[i]? = some a → A'[i]? = some a) : ∀ {v : List (Str × V)} {d : List (Str × Dat)}, Dtf K G A v d → Dtf K G' A' v d
  | _, _, .nil => .nil
  | _, _, .cons h r => .cons (Dt.mono e ea h) (Dtf.mono e ea r)
end
theorem Dts.length {K : PySem.W.Frag} {G : Hp} {A : List Addr} : ∀ {vs : List V} {ds : List Dat}, Dts K G A vs ds → vs.length = ds.length
  | _, _, .nil => rfl
  | _, _, .cons _ r => by simp [Dts.length r]
theorem Dts.get {K : PySem.W.Frag} {G : Hp} {A : List Addr} : ∀ {vs : List V} {ds : List Dat} {i : Nat} {d : Dat}, Dts K G A vs ds → ds[i]? = some d → ∃ v, vs[i]? = some v ∧ Dt K G A v d
  | _, _, _, _, .nil, e => by simp at e
  | _, _, 0, _, .cons h _, e => by simp at e; subst e; exact ⟨_, rfl, h⟩
  | _, _, i + 1, d, .cons _ r, e => by
    obtain ⟨v, h1, h2⟩ := Dts.get (i := i) (d := d) r (by simpa using e)
    exact ⟨v, by simpa using h1, h2⟩
theorem Dts.get' {K : PySem.W.Frag} {G : Hp} {A : List Addr} : ∀ {vs : List V} {ds : List Dat} {i : Nat} {v : V}, Dts K G A vs ds → vs[i]? = some v → ∃ d, ds[i]? = some d ∧ Dt K G A v d
  | _, _, _, _, .nil, e => by simp at e
  | _, _, 0, _, .cons h _, e => by simp at e; subst e; exact ⟨_, rfl, h⟩
  | _, _, i + 1, v, .cons _ r, e => by
    obtain ⟨d, h1, h2⟩ := Dts.get' (i := i) (v := v) r (by simpa using e)
    exact ⟨d, by simpa using h1, h2⟩
theorem Dts.append {K : PySem.W.Frag} {G : Hp} {A : List Addr} : ∀ {vs ws : List V} {ds es : List Dat}, Dts K G A vs ds → Dts K G A ws es → Dts K G A (vs ++ ws) (ds ++ es)
  | _, _, _, _, .nil, s => s
  | _, _, _, _, .cons h r, s => .cons h (Dts.append r s)
theorem Dts.set {K : PySem.W.Frag} {G : Hp} {A : List Addr} {v : V} {d : Dat} (h : Dt K G A v d) : ∀ {vs : List V} {ds : List Dat} (i : Nat), Dts K G A vs ds → Dts K G A (vs.set i v) (ds.set i d)
  | _, _, _, .nil => .nil
  | _, _, 0, .cons _ r => .cons h r
  | _, _, i + 1, .cons q r => .cons q (Dts.set h i r)
theorem Dts.drop {K : PySem.W.Frag} {G : Hp} {A : List Addr} : ∀ {vs : List V} {ds : List Dat} (i : Nat), Dts K G A vs ds → Dts K G A (vs.drop i) (ds.drop i)
  | _, _, 0, h => h
  | _, _, i + 1, .nil => .nil
  | _, _, i + 1, .cons _ r => Dts.drop i r
theorem Dts.take {K : PySem.W.Frag} {G : Hp} {A : List Addr} : ∀ {vs : List V} {ds : List Dat} (i : Nat), Dts K G A vs ds → Dts K G A (vs.take i) (ds.take i)
  | _, _, 0, _ => .nil
  | _, _, i + 1, .nil => .nil
  | _, _, i + 1, .cons h r => .cons h (Dts.take i r)
theorem Dts.repl {K : PySem.W.Frag} {G : Hp} {A : List Addr} : ∀ {vs : List V} {ds : List Dat} (k : Nat), Dts K G A vs ds → Dts K G A (List.replicate k vs).flatten (List.replicate k ds).flatten
  | _, _, 0, _ => .nil
  | _, _, k + 1, h => by
    rw [List.replicate_succ, List.replicate_succ, List.flatten_cons, List.flatten_cons]
    exact h.append (Dts.repl k h)
/-! ## worlds: G what stays, H the heap, A where the labelled things stand -/
/-- what does not change within a def: the written part, and what is wished of an exception -/
structure Sg where
  K : PySem.W.Frag
  Z : WX
  /-- the exception that is handled: where it stands, its class, its dict -/
  xh : Option (Addr × Value × Option Addr) := none
structure Wd where
  S : Sg
  G : Hp
  H : Hp
  A : List Addr
  /-- what stays for now -/
  P : Hp := fun _ => none
abbrev Wd.K (W : Wd) : PySem.W.Frag := W.S.K
abbrev RvOk (W : Wd) (v : V) (d : Dat) : Prop := Dt W.S.K W.G W.A v d
abbrev RvsOk (W : Wd) (vs : List V) (ds : List Dat) : Prop := Dts W.S.K W.G W.A vs ds
/-- keyed values, key by key -/
inductive RkOk {κ : Type} (W : Wd) : List (κ × V) → List (κ × Dat) → Prop
  | nil : RkOk W [] []
  | cons {k : κ} {v : V} {vs : List (κ × V)} {r : Dat} {rs : List (κ × Dat)} : RvOk W v r → RkOk W vs rs → RkOk W ((k, v) :: vs) ((k, r) :: rs)
inductive Cell where
  | gone
  | lst (rs : List Dat)
  | dic (kvs : List (Key × Dat))
  | tdc (kvs : List (List Key × Dat))
  | ins (C : Str) (fs : List (Str × Dat))
  | xdc (fs : List (Str × Dat))
  | lck (c : Cell)
abbrev Ms := List Cell
def CObj (W : Wd) : Cell → HO → Prop
  | .gone, _ => True
  | .lst rs, o => ∃ xs, o = .lst xs ∧ RvsOk W xs rs
  | .dic kvs, o => ∃ xs, o = .dK xs ∧ RkOk W xs kvs
  | .tdc kvs, o => ∃ xs, o = .dT xs ∧ RkOk W xs kvs
  | .ins C fs, o => ∃ dx xs, o = .ins (He.ga W.K C) dx xs ∧ RkOk W xs fs
  | .xdc fs, o => ∃ xs, o = .xd xs ∧ RkOk W xs fs
  | .lck c, o => ∃ ob u, o = .frz ob u ∧ CObj W c u
structure Own (W : Wd) (ms : Ms) : Prop where
  ex : Same W.G W.H
  len : W.A.length = ms.length
  inj : ∀ (i j : Nat) a, W.A[i]? = some a → W.A[j]? = some a → i = j
  all : ∀ (i : Nat) a, W.A[i]? = some a → ∃ o, W.H a = some o
  px : Same W.P W.H
  pg : ∀ a o, W.P a = some o → W.G a = none
  pl : ∀ (i : Nat) a, W.A[i]? = some a → W.P a = none
  cell : ∀ (i : Nat) (c : Cell), ms[i]? = some c → c ≠ .gone → ∃ a o, W.A[i]? = some a ∧ W.G a = none ∧ W.H a = some o ∧ CObj W c o
structure Ext (W W' : Wd) : Prop where
  s : W'.S = W.S
  ex : Same W.G W'.G
  adr : ∀ (i : Nat) a, W.A[i]? = some a → W'.A[i]? = some a
  frz : ∀ a o u, W.H a = some (.frz o u) → W'.H a = some (.frz o u)
  p : W'.P = W.P
theorem Ext.refl (W : Wd) : Ext W W := ⟨rfl, Same.refl _, fun _ _ h => h, fun _ _ _ h => h, rfl⟩
theorem Ext.trans {W W1 W2 : Wd} (a : Ext W W1) (b : Ext W1 W2) : Ext W W2 := ⟨b.s.trans a.s, a.ex.trans b.ex, fun i x h => b.adr i x (a.adr i x h), fun x o u h => b.frz x o u (a.frz x o u h), b.p.trans a.p⟩
/-- the same, whatever is held for now -/
structure Ext0 (W W' : Wd) : Prop where
  k : W'.K = W.K
  ex : Same W.G W'.G
  adr : ∀ (i : Nat) a, W.A[i]? = some a → W'.A[i]? = some a
  frz : ∀ a o u, W.H a = some (.frz o u) → W'.H a = some (.frz o u)
theorem Ext.e0 {W W' : Wd} (e : Ext W W') : Ext0 W W' := ⟨by show W'.S.K = W.S.K; rw [e.s], e.ex, e.adr, e.frz⟩
theorem Ext0.refl (W : Wd) : Ext0 W W := ⟨rfl, Same.refl _, fun _ _ h => h, fun _ _ _ h => h⟩
theorem Ext0.trans {W W1 W2 : Wd} (a : Ext0 W W1) (b : Ext0 W1 W2) : Ext0 W W2 := ⟨b.k.trans a.k, a.ex.trans b.ex, fun i x h => b.adr i x (a.adr i x h), fun x o u h => b.frz x o u (a.frz x o u h)⟩
theorem Ext0.up {W W' : Wd} (e : Ext0 W W') (hs : W'.S = W.S) (h : W'.P = W.P) : Ext W W' := ⟨hs, e.ex, e.adr, e.frz, h⟩
/-- what values are made of: K, G and the labels -/
structure Low (W W' : Wd) : Prop where
  k : W'.K = W.K
  ex : Same W.G W'.G
  adr : ∀ (i : Nat) a, W.A[i]? = some a → W'.A[i]? = some a
theorem Ext.k {W W' : Wd} (e : Ext W W') : W'.K = W.K := by show W'.S.K = W.S.K; rw [e.s]
theorem Ext.low {W W' : Wd} (e : Ext W W') : Low W W' := ⟨e.k, e.ex, e.adr⟩
theorem Ext0.low {W W' : Wd} (e : Ext0 W W') : Low W W' := ⟨e.k, e.ex, e.adr⟩
theorem Low.refl (W : Wd) : Low W W := ⟨rfl, Same.refl _, fun _ _ h => h⟩
theorem low_v {W W' : Wd} (e : Low W W') {v : V} {r : Dat} (h : RvOk W v r) : RvOk W' v r := by
  show Dt W'.K W'.G W'.A v r
  rw [e.k]; exact Dt.mono e.ex e.adr h
theorem low_vs {W W' : Wd} (e : Low W W') {vs : List V} {rs : List Dat} (h : RvsOk W vs rs) : RvsOk W' vs rs := by
  show Dts W'.K W'.G W'.A vs rs
  rw [e.k]; exact Dts.mono e.ex e.adr h
theorem RkOk.low {κ : Type} {W W' : Wd} (e : Low W W') : ∀ {vs : List (κ × V)} {rs : List (κ × Dat)}, RkOk W vs rs → RkOk W' vs rs
  | _, _, .nil => .nil
  | _, _, .cons h r => .cons (low_v e h) (RkOk.low e r)
theorem CObj.low {W W' : Wd} (e : Low W W') : ∀ {c : Cell} {o : HO}, CObj W c o → CObj W' c o
  | .gone, _, _ => trivial
  | .lst _, _, ⟨xs, h, r⟩ => ⟨xs, h, low_vs e r⟩
  | .dic _, _, ⟨xs, h, r⟩ => ⟨xs, h, r.low e⟩
  | .tdc _, _, ⟨xs, h, r⟩ => ⟨xs, h, r.low e⟩
  | .ins _ _, _, ⟨dx, xs, h, r⟩ => ⟨dx, xs, by rw [e.k]; exact h, r.low e⟩
  | .xdc _, _, ⟨xs, h, r⟩ => ⟨xs, h, r.low e⟩
  | .lck _, _, ⟨ob, u, h, r⟩ => ⟨ob, u, h, r.low e⟩
theorem up_v {W W' : Wd} (e : Ext W W') {v : V} {r : Dat} (h : RvOk W v r) : RvOk W' v r := low_v e.low h
theorem up_vs {W W' : Wd} (e : Ext W W') {vs : List V} {rs : List Dat} (h : RvsOk W vs rs) : RvsOk W' vs rs := low_vs e.low h
theorem RkOk.up {κ : Type} {W W' : Wd} (e : Ext W W') {vs : List (κ × V)} {rs : List (κ × Dat)} (h : RkOk W vs rs) : RkOk W' vs rs := h.low e.low
/-! ## the moves of a world -/
theorem upd_back {H : Hp} {a b : Addr} {o u : HO} (h : b ≠ a) (e : upd H a o b = some u) : H b = some u := by rw [upd_ne h] at e; exact e
theorem same_new {H : Hp} {p : Addr} {o : HO} (h : H p = none) : Same H (upd H p o) := fun a u e => by rw [upd_ne (ne_of_none e h)]; exact e
section
variable {W : Wd} {ms : Ms}
theorem Own.gnone (O : Own W ms) {p : Addr} (h : W.H p = none) : W.G p = none := by
  cases q : W.G p with
  | none => rfl
  | some o => rw [O.ex p o q] at h; cases h
theorem Own.pnone (O : Own W ms) {p : Addr} (h : W.H p = none) : W.P p = none := by
  cases q : W.P p with
  | none => rfl
  | some o => rw [O.px p o q] at h; cases h
theorem Own.fresh (O : Own W ms) {p : Addr} (h : W.H p = none) {i : Nat} {a : Addr} (ha : W.A[i]? = some a) : a ≠ p := fun z => by
  obtain ⟨o, ho⟩ := O.all i a ha
  rw [z, h] at ho; cases ho
/-- a new thing that stays as it is -/
def Wd.lay (W : Wd) (p : Addr) (o : HO) : Wd := { W with G := upd W.G p o, H := upd W.H p o }
theorem Own.lay (O : Own W ms) {p : Addr} {o : HO} (h : W.H p = none) : Own (W.lay p o) ms ∧ Ext W (W.lay p o) := by
  have hg := O.gnone h
  have low : Low W (W.lay p o) := ⟨rfl, same_new hg, fun _ _ e => e⟩
  refine ⟨⟨fun a u e => ?_, O.len, O.inj, fun i a e => ?_, O.px.trans (same_new h), fun a u e => ?_, O.pl, fun i c e n => ?_⟩, ⟨rfl, same_new hg, fun _ _ e => e, fun a u v e => same_new h a _ e, rfl⟩⟩
  · show upd W.H p o a = some u
    by_cases z : a = p
    · subst z; rw [show (W.lay a o).G a = some o from upd_same] at e; cases e; exact upd_same
    · rw [upd_ne z]; exact O.ex a u (upd_back z e)
  · obtain ⟨u, hu⟩ := O.all i a e
    exact ⟨u, same_new h a u hu⟩
  · show upd W.G p o a = none
    rw [upd_ne (ne_of_none e (O.pnone h))]; exact O.pg a u e
  · obtain ⟨a, u, ha, g, hu, k⟩ := O.cell i c e n
    exact ⟨a, u, ha, by show upd W.G p o a = none; rw [upd_ne (O.fresh h ha)]; exact g, same_new h a u hu, k.low low⟩
/-- a new thing with a label -/
def Wd.take (W : Wd) (p : Addr) (o : HO) : Wd := { W with H := upd W.H p o, A := W.A ++ [p] }
theorem take_low {p : Addr} {o : HO} : Low W (W.take p o) := ⟨rfl, Same.refl _, fun i a e => by show (W.A ++ [p])[i]? = some a; rw [List.getElem?_append_left (List.getElem?_eq_some_iff.mp e).1]; exact e⟩
theorem Own.take (O : Own W ms) {p : Addr} {o : HO} {c : Cell} (h : W.H p = none) (hc : CObj (W.take p o) c o) : Own (W.take p o) (ms ++ [c]) ∧ Ext W (W.take p o) := by
  have hg := O.gnone h
  have at_ : ∀ {i : Nat} {a : Addr}, (W.A ++ [p])[i]? = some a → (W.A[i]? = some a) ∨ (i = W.A.length ∧ a = p) := fun {i a} e => by
    by_cases z : i < W.A.length
    · rw [List.getElem?_append_left z] at e; exact .inl e
    · have hi : i = W.A.length := by
        have := (List.getElem?_eq_some_iff.mp e).1
        rw [List.length_append, List.length_singleton] at this; omega
      subst hi
      rw [List.getElem?_append_right (Nat.le_refl _), Nat.sub_self] at e
      cases e
      exact .inr ⟨rfl, rfl⟩
  refine ⟨⟨O.ex.trans (same_new h), by show (W.A ++ [p]).length = _; rw [List.length_append, List.length_append, O.len]; rfl, fun i j a e1 e2 => ?_, fun i a e => ?_, O.px.trans (same_new h), O.pg, fun i a e => ?_, fun i c' e n => ?_⟩, ⟨rfl, Same.refl _, take_low.adr, fun a u v e => same_new h a _ e, rfl⟩⟩
  · rcases at_ e1 with e1 | ⟨rfl, rfl⟩ <;> rcases at_ e2 with e2 | ⟨rfl, q⟩
    · exact O.inj i j a e1 e2
    · exact absurd q (O.fresh h e1)
    · exact absurd rfl (O.fresh h e2)
    · rfl
  · rcases at_ e with e | ⟨_, rfl⟩
    · obtain ⟨u, hu⟩ := O.all i a e
      exact ⟨u, same_new h a u hu⟩
    · exact ⟨o, upd_same⟩
  · rcases at_ e with e | ⟨_, rfl⟩
    · exact O.pl i a e
    · exact O.pnone h
  · by_cases z : i < ms.length
    · rw [List.getElem?_append_left z] at e
      obtain ⟨a, u, ha, g, hu, k⟩ := O.cell i c' e n
      exact ⟨a, u, take_low.adr i a ha, g, same_new h a u hu, k.low take_low⟩
    · have hi : i = ms.length := by
        have := (List.getElem?_eq_some_iff.mp e).1
        rw [List.length_append, List.length_singleton] at this; omega
      subst hi
      rw [List.getElem?_append_right (Nat.le_refl _), Nat.sub_self] at e
      cases e
      refine ⟨p, o, ?_, hg, upd_same, hc⟩
      show (W.A ++ [p])[ms.length]? = _
      rw [List.getElem?_append_right (by rw [O.len]; exact Nat.le_refl _), O.len, Nat.sub_self]; rfl
/-- a labelled thing is written -/
def Wd.put (W : Wd) (a : Addr) (o : HO) : Wd := { W with H := upd W.H a o }
theorem put_low {a : Addr} {o : HO} : Low W (W.put a o) := ⟨rfl, Same.refl _, fun _ _ h => h⟩
theorem Own.put (O : Own W ms) {i : Nat} {a : Addr} {o : HO} {c : Cell} (hA : W.A[i]? = some a) (hg : W.G a = none) (hc : CObj W c o) : Own (W.put a o) (ms.set i c) := by
  refine ⟨fun b v e => ?_, by rw [List.length_set]; exact O.len, O.inj, fun j b e => ?_, fun b v e => (by show upd W.H a o b = some v; rw [upd_ne (ne_of_none e (O.pl i a hA))]; exact O.px b v e), O.pg, O.pl, fun j c' e n => ?_⟩
  · show upd W.H a o b = some v
    rw [upd_ne (ne_of_none e hg)]; exact O.ex b v e
  · by_cases z : b = a
    · exact ⟨o, by rw [z]; exact upd_same⟩
    · obtain ⟨u, hu⟩ := O.all j b e
      exact ⟨u, by show upd W.H a o b = _; rw [upd_ne z]; exact hu⟩
  · by_cases z : i = j
    · subst z
      have hl : i < ms.length := by rw [← O.len]; exact (List.getElem?_eq_some_iff.mp hA).1
      rw [List.getElem?_set_self hl] at e
      cases e
      exact ⟨a, o, hA, hg, upd_same, hc.low put_low⟩
    · rw [List.getElem?_set_ne z] at e
      obtain ⟨b, u, hb, g, hu, k⟩ := O.cell j c' e n
      have zb : b ≠ a := fun q => z (O.inj i j a hA (by rw [← q]; exact hb))
      exact ⟨b, u, hb, g, by show upd W.H a o b = _; rw [upd_ne zb]; exact hu, k.low put_low⟩
theorem Ext.put {a : Addr} {o u : HO} (hu : W.H a = some u) (hn : ∀ ob v, u ≠ .frz ob v) : Ext W (W.put a o) := ⟨rfl, Same.refl _, fun _ _ h => h, fun b ob v e => by
  have z : b ≠ a := fun q => by subst q; rw [hu] at e; cases e; exact hn _ _ rfl
  show upd W.H a o b = _
  rw [upd_ne z]; exact e, rfl⟩
/-- a labelled thing stays as it is from now on, as o -/
def Wd.fix (W : Wd) (a : Addr) (o : HO) : Wd := { W with G := upd W.G a o, H := upd W.H a o }
theorem Own.fix (O : Own W ms) {i : Nat} {a : Addr} {o : HO} (hA : W.A[i]? = some a) (hg : W.G a = none) : Own (W.fix a o) (ms.set i .gone) := by
  have low : Low W (W.fix a o) := ⟨rfl, same_new hg, fun _ _ e => e⟩
  refine ⟨fun b v e => ?_, by rw [List.length_set]; exact O.len, O.inj, fun j b e => ?_, fun b v e => (by show upd W.H a o b = some v; rw [upd_ne (ne_of_none e (O.pl i a hA))]; exact O.px b v e), fun b v e => (by show upd W.G a o b = none; rw [upd_ne (ne_of_none e (O.pl i a hA))]; exact O.pg b v e), O.pl, fun j c' e n => ?_⟩
  · show upd W.H a o b = some v
    by_cases z : b = a
    · subst z; rw [show (W.fix b o).G b = some o from upd_same] at e; cases e; exact upd_same
    · rw [upd_ne z]; exact O.ex b v (upd_back z e)
  · by_cases z : b = a
    · exact ⟨o, by rw [z]; exact upd_same⟩
    · obtain ⟨u, hu⟩ := O.all j b e
      exact ⟨u, by show upd W.H a o b = _; rw [upd_ne z]; exact hu⟩
  · by_cases z : i = j
    · subst z
      have hl : i < ms.length := by rw [← O.len]; exact (List.getElem?_eq_some_iff.mp hA).1
      rw [List.getElem?_set_self hl] at e
      cases e
      exact absurd rfl n
    · rw [List.getElem?_set_ne z] at e
      obtain ⟨b, u, hb, g, hu, k⟩ := O.cell j c' e n
      have zb : b ≠ a := fun q => z (O.inj i j a hA (by rw [← q]; exact hb))
      exact ⟨b, u, hb, by show upd W.G a o b = none; rw [upd_ne zb]; exact g, by show upd W.H a o b = _; rw [upd_ne zb]; exact hu, k.low low⟩
theorem Ext.fix {a : Addr} {o u : HO} (hg : W.G a = none) (hu : W.H a = some u) (hn : (∀ ob v, u ≠ .frz ob v) ∨ u = o) : Ext W (W.fix a o) := ⟨rfl, same_new hg, fun _ _ h => h, fun b ob v e => by
  show upd W.H a o b = _
  by_cases z : b = a
  · subst z
    rw [hu] at e
    cases e
    rcases hn with hn | hn
    · exact absurd rfl (hn _ _)
    · rw [← hn]; exact upd_same
  · rw [upd_ne z]; exact e, rfl⟩
/-- nothing is known of it any more -/
theorem Own.forget (O : Own W ms) (i : Nat) : Own W (ms.set i .gone) := by
  refine ⟨O.ex, by rw [List.length_set]; exact O.len, O.inj, O.all, O.px, O.pg, O.pl, fun j c' e n => ?_⟩
  by_cases z : i = j
  · subst z
    have hl : i < ms.length := by
      have := (List.getElem?_eq_some_iff.mp e).1
      rw [List.length_set] at this; exact this
    rw [List.getElem?_set_self hl] at e
    cases e
    exact absurd rfl n
  · rw [List.getElem?_set_ne z] at e
    exact O.cell j c' e n
/-- a new thing is held for now -/
def Wd.hold (W : Wd) (D : Addr) (o : HO) : Wd := { W with H := upd W.H D o, P := upd W.P D o }
theorem hold_low {D : Addr} {o : HO} : Low W (W.hold D o) := ⟨rfl, Same.refl _, fun _ _ h => h⟩
theorem Own.hold (O : Own W ms) {D : Addr} {o : HO} (hg : W.G D = none) (hl : ∀ (i : Nat) a, W.A[i]? = some a → a ≠ D) : Own (W.hold D o) ms := by
  refine ⟨fun a u e => ?_, O.len, O.inj, fun i a e => ?_, fun a u e => ?_, fun a u e => ?_, fun i a e => ?_, fun i c e n => ?_⟩
  · show upd W.H D o a = some u
    rw [upd_ne (ne_of_none e hg)]; exact O.ex a u e
  · obtain ⟨u, hu⟩ := O.all i a e
    exact ⟨u, by show upd W.H D o a = _; rw [upd_ne (hl i a e)]; exact hu⟩
  · show upd W.H D o a = some u
    by_cases z : a = D
    · subst z; rw [show (W.hold a o).P a = some o from upd_same] at e; cases e; exact upd_same
    · rw [upd_ne z]; exact O.px a u (upd_back z e)
  · by_cases z : a = D
    · rw [z]; exact hg
    · exact O.pg a u (upd_back z e)
  · show upd W.P D o a = none
    rw [upd_ne (hl i a e)]; exact O.pl i a e
  · obtain ⟨a, u, ha, g, hu, k⟩ := O.cell i c e n
    exact ⟨a, u, ha, g, by show upd W.H D o a = _; rw [upd_ne (hl i a ha)]; exact hu, k.low hold_low⟩
end
end Sy
namespace Sy
open PySem L2
/-! ## what must hold ahead, over data -/
abbrev KR := Dat → Ms → Prop
abbrev Sl := List (Option Dat)
/-- what is promised of an exception: the slots, its class, its fields -/
abbrev KX := Sl → Str → List (Str × Dat) → Ms → Prop
/-- the slots, what is promised of an exception, the class and the fields of the one that is handled -/
structure Env where
  sl : Sl
  ex : KX
  xc : Str := Str.empty
  xf : List (Str × Dat) := []
@[simp] def Env.put (ρ : Env) (i : Nat) (r : Dat) : Env := ⟨ρ.sl.set i (some r), ρ.ex, ρ.xc, ρ.xf⟩
@[simp] def Env.del (ρ : Env) (i : Nat) : Env := ⟨ρ.sl.set i none, ρ.ex, ρ.xc, ρ.xf⟩
abbrev WE := Env → Ms → KR → Prop
abbrev WT := Env → Ms → (Bool → Ms → Prop) → Prop
abbrev WA := Env → Ms → (List Dat → Ms → Prop) → Prop
abbrev WI := Env → Ms → (List Dat → Ms → Prop) → Prop
abbrev WG := Dat → Env → Ms → (Env → Ms → Prop) → Prop
structure WEnds where
  nx : Env → Ms → Prop
  rt : KR
  bk : Env → Ms → Prop := fun _ _ => False
  ct : Env → Ms → Prop := fun _ _ => False
abbrev WS := WEnds → Env → Ms → Prop
/-- slots: the values are what the world says of them -/
inductive RelS (W : Wd) : L2.St → Sl → Prop
  | nil : RelS W [] []
  | gap {v : Option V} {vs : L2.St} {rs : Sl} : RelS W vs rs → RelS W (v :: vs) (none :: rs)
  | has {v : V} {r : Dat} {vs : L2.St} {rs : Sl} : RvOk W v r → RelS W vs rs → RelS W (some v :: vs) (some r :: rs)
theorem RelS.low {W W' : Wd} (e : Low W W') : ∀ {σ : L2.St} {ρ : Sl}, RelS W σ ρ → RelS W' σ ρ
  | _, _, .nil => .nil
  | _, _, .gap h => .gap (RelS.low e h)
  | _, _, .has r h => .has (low_v e r) (RelS.low e h)
theorem RelS.get {W : Wd} : ∀ {σ : L2.St} {ρ : Sl} {i : Nat} {r : Dat}, RelS W σ ρ → ρ[i]? = some (some r) → ∃ v, σ[i]? = some (some v) ∧ RvOk W v r
  | _, _, _, _, .nil, e => by simp at e
  | _, _, 0, _, .gap _, e => by simp at e
  | _, _, 0, _, .has h _, e => by simp at e; subst e; exact ⟨_, rfl, h⟩
  | _, _, i + 1, r, .gap h, e => by
    obtain ⟨v, h1, h2⟩ := RelS.get (i := i) (r := r) h (by simpa using e)
    exact ⟨v, by simpa using h1, h2⟩
  | _, _, i + 1, r, .has _ h, e => by
    obtain ⟨v, h1, h2⟩ := RelS.get (i := i) (r := r) h (by simpa using e)
    exact ⟨v, by simpa using h1, h2⟩
theorem RelS.set {W : Wd} {v : V} {r : Dat} (h : RvOk W v r) : ∀ {σ : L2.St} {ρ : Sl} (i : Nat), RelS W σ ρ → RelS W (σ.set i (some v)) (ρ.set i (some r))
  | _, _, _, .nil => .nil
  | _, _, 0, .gap q => .has h q
  | _, _, 0, .has _ q => .has h q
  | _, _, i + 1, .gap q => .gap (RelS.set h i q)
  | _, _, i + 1, .has p q => .has p (RelS.set h i q)
theorem RelS.unset {W : Wd} {v : Option V} : ∀ {σ : L2.St} {ρ : Sl} (i : Nat), RelS W σ ρ → RelS W (σ.set i v) (ρ.set i none)
  | _, _, _, .nil => .nil
  | _, _, 0, .gap q => .gap q
  | _, _, 0, .has _ q => .gap q
  | _, _, i + 1, .gap q => .gap (RelS.unset i q)
  | _, _, i + 1, .has p q => .has p (RelS.unset i q)
theorem RelS.length {W : Wd} : ∀ {σ : L2.St} {ρ : Sl}, RelS W σ ρ → σ.length = ρ.length
  | _, _, .nil => rfl
  | _, _, .gap h => by simp [RelS.length h]
  | _, _, .has _ h => by simp [RelS.length h]
/-- what is promised of an exception tells what is wished of it, now and later -/
def XOk (W : Wd) (ex : KX) : Prop := ∀ W' σ ρ C dd xs fs ms', Ext W W' → Own W' ms' → RelS W' σ ρ → W'.G dd = some (.xd xs) → Dtf W'.S.K W'.G W'.A xs fs → ex ρ C fs ms' → W.S.Z (.ref (He.ga W.K C)) (some dd) σ W'.H
/-- the exception that is handled is of the class C and has the fields fs -/
def HdOk (W : Wd) (C : Str) (fs : List (Str × Dat)) : Prop := ∀ a cls d, W.S.xh = some (a, cls, d) → cls = .ref (He.ga W.K C) ∧ ∃ dd xs fs0, d = some dd ∧ W.G dd = some (.xd xs) ∧ fs = (Str.empty, .ref a) :: fs0 ∧ Dtf W.S.K W.G W.A xs fs0
structure Rel (W : Wd) (σ : L2.St) (ρ : Env) : Prop where
  sl : RelS W σ ρ.sl
  ex : XOk W ρ.ex
  hd : HdOk W ρ.xc ρ.xf
theorem XOk.mono {W W' : Wd} (e : Ext W W') {ex : KX} (h : XOk W ex) : XOk W' ex := fun W2 σ ρ C dd xs fs ms' e2 O R g a x => by
  have := h W2 σ ρ C dd xs fs ms' (e.trans e2) O R g a x
  rw [← e.k] at this
  rw [e.s]; exact this
theorem Dtf.low {W W' : Wd} (e : Low W W') {xs : List (Str × V)} {fs : List (Str × Dat)} (h : Dtf W.S.K W.G W.A xs fs) : Dtf W'.S.K W'.G W'.A xs fs := by
  rw [show W'.S.K = W.S.K from e.k]; exact Dtf.mono e.ex e.adr h
theorem HdOk.low {W W' : Wd} (e : Low W W') (hx : W'.S.xh = W.S.xh) {C : Str} {fs : List (Str × Dat)} (h : HdOk W C fs) : HdOk W' C fs := fun a cls d q => by
  rw [hx] at q
  obtain ⟨h1, dd, xs, fs0, h2, h3, h5, h4⟩ := h a cls d q
  exact ⟨by rw [e.k]; exact h1, dd, xs, fs0, h2, e.ex _ _ h3, h5, h4.low e⟩
theorem Rel.mono {W W' : Wd} (e : Ext W W') {σ : L2.St} {ρ : Env} (h : Rel W σ ρ) : Rel W' σ ρ := ⟨h.sl.low e.low, h.ex.mono e, h.hd.low e.low (by rw [e.s])⟩
theorem Rel.get {W : Wd} {σ : L2.St} {ρ : Env} {i : Nat} {r : Dat} (h : Rel W σ ρ) (e : ρ.sl[i]? = some (some r)) : ∃ v, σ[i]? = some (some v) ∧ RvOk W v r := h.sl.get e
theorem Rel.set {W : Wd} {v : V} {r : Dat} {σ : L2.St} {ρ : Env} (h : RvOk W v r) (i : Nat) (R : Rel W σ ρ) : Rel W (σ.set i (some v)) (ρ.put i r) := ⟨R.sl.set h i, R.ex, R.hd⟩
theorem Rel.unset {W : Wd} {v : Option V} {σ : L2.St} {ρ : Env} (i : Nat) (R : Rel W σ ρ) : Rel W (σ.set i v) (ρ.del i) := ⟨R.sl.unset i, R.ex, R.hd⟩
theorem Rel.length {W : Wd} {σ : L2.St} {ρ : Env} (R : Rel W σ ρ) : σ.length = ρ.sl.length := R.sl.length
/-- a context with its wish -/
structure Cy where
  X : Cx
  Z : WX
  tk : Takes X Z
  xh : Option (Addr × Value × Option Addr) := none
abbrev Cy.S (X : Cy) : Sg := ⟨X.X.K, X.Z, X.xh⟩
def LE (S : Sg) (t : TE) (w : WE) : Prop := ∀ (W : Wd) (σ : L2.St) (ρ : Env) (ms : Ms) (Q : VK) (k : KR), W.S = S → Rel W σ ρ → Own W ms → w ρ ms k →
  (∀ W' v r ms', Ext W W' → Own W' ms' → RvOk W' v r → k r ms' → Q v W'.H) → t σ W.H Q
def LT (S : Sg) (t : TT) (w : WT) : Prop := ∀ (W : Wd) (σ : L2.St) (ρ : Env) (ms : Ms) (Q : Bool → Hp → Prop) (k : Bool → Ms → Prop), W.S = S → Rel W σ ρ → Own W ms → w ρ ms k →
  (∀ W' b ms', Ext W W' → Own W' ms' → k b ms' → Q b W'.H) → t σ W.H Q
def LA (S : Sg) (t : TA) (w : WA) : Prop := ∀ (W : Wd) (σ : L2.St) (ρ : Env) (ms : Ms) (Q : List V → Hp → Prop) (k : List Dat → Ms → Prop), W.S = S → Rel W σ ρ → Own W ms → w ρ ms k →
  (∀ W' vs rs ms', Ext W W' → Own W' ms' → RvsOk W' vs rs → k rs ms' → Q vs W'.H) → t σ W.H Q
structure EndsOk (W : Wd) (E : WEnds) (D : Ends) : Prop where
  nx : ∀ W' σ ρ ms, Ext W W' → Own W' ms → Rel W' σ ρ → E.nx ρ ms → D.nx σ W'.H
  rt : ∀ W' v r ms, Ext W W' → Own W' ms → RvOk W' v r → E.rt r ms → D.rt v W'.H
  bk : ∀ W' σ ρ ms, Ext W W' → Own W' ms → Rel W' σ ρ → E.bk ρ ms → D.bk σ W'.H
  ct : ∀ W' σ ρ ms, Ext W W' → Own W' ms → Rel W' σ ρ → E.ct ρ ms → D.ct σ W'.H
theorem EndsOk.mono {W W' : Wd} {E : WEnds} {D : Ends} (e : Ext W W') (h : EndsOk W E D) : EndsOk W' E D :=
  ⟨fun W2 σ ρ ms x => h.nx W2 σ ρ ms (e.trans x), fun W2 v r ms x => h.rt W2 v r ms (e.trans x), fun W2 σ ρ ms x => h.bk W2 σ ρ ms (e.trans x), fun W2 σ ρ ms x => h.ct W2 σ ρ ms (e.trans x)⟩
def LS (S : Sg) (t : TS) (w : WS) : Prop := ∀ (W : Wd) (σ : L2.St) (ρ : Env) (ms : Ms) (D : Ends) (E : WEnds), W.S = S → Rel W σ ρ → Own W ms → w E ρ ms → EndsOk W E D → t D σ W.H
def LG (S : Sg) (t : TG) (w : WG) (ss : List Nat) : Prop := ∀ (W : Wd) (σ : L2.St) (ρ : Env) (ms : Ms) (v : V) (r : Dat) (Q : L2.St → Hp → Prop) (k : Env → Ms → Prop), W.S = S → Rel W σ ρ → Own W ms → RvOk W v r → w r ρ ms k →
  (∀ W' σ' ρ' ms', Ext W W' → Own W' ms' → Rel W' σ' ρ' → σ'.length = σ.length → (∀ i, i ∉ ss → σ'[i]? = σ[i]?) → k ρ' ms' → Q σ' W'.H) → t v σ W.H Q
/-- an iterable walks ds, while the world only grows from W -/
structure WalkD (W : Wd) (J : It) (ds : List Dat) : Prop where
  goes : ∀ W' ms i, Ext0 W W' → Own W' ms → i < ds.length → J.go i W'.H
  stops : ∀ W' ms, Ext0 W W' → Own W' ms → J.stop ds.length W'.H
  yields : ∀ W' ms i x H' d, Ext0 W W' → Own W' ms → ds[i]? = some d → J.yld i W'.H x H' → ∃ W2, Ext W' W2 ∧ Own W2 ms ∧ W2.H = H' ∧ RvOk W2 x d
def LI (S : Sg) (t : TI) (w : WI) : Prop := ∀ (W : Wd) (σ : L2.St) (ρ : Env) (ms : Ms) (R : It → Hp → Prop) (k : List Dat → Ms → Prop), W.S = S → Rel W σ ρ → Own W ms → w ρ ms k →
  (∀ W' J ds ms', Ext W W' → Own W' ms' → WalkD W' J ds → k ds ms' → R J W'.H) → t σ W.H R
def DE (X : Cy) (e : Expr) (w : WE) : Prop := ∃ t, PE X.X e t ∧ LE X.S t w
def DTt (X : Cy) (e : Expr) (w : WT) : Prop := ∃ t, PT X.X e t ∧ LT X.S t w
def DW (X : Cy) (e : Expr) (w : WT) : Prop := ∃ t, PW X.X e t ∧ LT X.S t w
def DA (X : Cy) (es : List Expr) (w : WA) : Prop := ∃ t, PA X.X es t ∧ LA X.S t w
def DS (X : Cy) (st : Stmt) (w : WS) : Prop := ∃ t, PS X.X st t ∧ LS X.S t w
def DSs (X : Cy) (sts : List Stmt) (w : WS) : Prop := ∃ t, PSs X.X sts t ∧ LS X.S t w
def DG (X : Cy) (e : Expr) (w : WG) (ss : List Nat) : Prop := ∃ t, PG X.X e t ∧ LG X.S t w ss
def DI (X : Cy) (tg iter : Expr) (w : WI) : Prop := ∃ t, PI X.X tg iter t ∧ LI X.S t w
/-! ## expressions -/
@[simp] def wVar (i : Nat) : WE := fun ρ ms k => match ρ.sl[i]? with
  | some (some r) => k r ms
  | _ => False
@[simp] def wC (d : Dat) : WE := fun _ ms k => k d ms
section
variable {X : Cy}
theorem le_var {S : Sg} {i : Nat} : LE S (tVar i) (wVar i) := fun W σ ρ ms Q k _ R O h q => by
  have h' : ∃ r, ρ.sl[i]? = some (some r) ∧ k r ms := by
    unfold wVar at h
    split at h
    · rename_i r e; exact ⟨r, e, h⟩
    · exact h.elim
  obtain ⟨r, e, hk⟩ := h'
  obtain ⟨v, hv, ok⟩ := R.get e
  exact ⟨v, hv, q W v r ms (Ext.refl W) O ok hk⟩
theorem de_var (i : Nat) {x : Str} {pos : Pos} (hN : X.X.N[i]? = some x := by rfl) (hv : Vis X.X.env.scope x := by first | exact Or.inl rfl | exact Or.inr (Or.inl rfl) | exact Or.inr (Or.inr rfl)) (hd : (x == ("__debug__" : Str)) = false := by decide)
    (hcd : (x == ("__classdict__" : Str)) = false := by decide) : DE X (.Name x pos) (wVar i) := ⟨_, pe_var hN hv hd hcd, le_var⟩
theorem le_c {S : Sg} {v : V} {d : Dat} (h : ∀ K G A, Dt K G A v d) : LE S (tC v) (wC d) := fun W σ ρ ms Q k _ R O hk q => q W v d ms (Ext.refl W) O (h _ _ _) hk
theorem de_int {i j pos} : DE X (.Constant (.int i) j pos) (wC (.int i)) := ⟨_, pe_int, le_c fun _ _ _ => .int i⟩
theorem de_bl {b j pos} : DE X (.Constant (.bool b) j pos) (wC (.bl b)) := ⟨_, pe_bl, le_c fun _ _ _ => .bl b⟩
theorem de_non {j pos} : DE X (.Constant .none j pos) (wC .non) := ⟨_, pe_non, le_c fun _ _ _ => .non⟩
theorem de_str {x j pos} : DE X (.Constant (.str x) j pos) (wC (.str x)) := ⟨_, pe_str, le_c fun _ _ _ => .str x⟩
theorem de_globI {x : Str} {i : Int} {t : Tok} {pos : Pos} (hg : Gl X.X x) (hm : X.X.mg x = some (.int i t)) (hd : (x == ("__debug__" : Str)) = false := by decide) : DE X (.Name x pos) (wC (.int i)) := ⟨_, pe_glob (v := .int i) hg hm ⟨_, rfl⟩ hd, le_c fun _ _ _ => .int i⟩
theorem de_globS {x : Str} {i : Str} {t : Tok} {pos : Pos} (hg : Gl X.X x) (hm : X.X.mg x = some (.str i t)) (hd : (x == ("__debug__" : Str)) = false := by decide) : DE X (.Name x pos) (wC (.str i)) := ⟨_, pe_glob (v := .str i) hg hm ⟨_, rfl⟩ hd, le_c fun _ _ _ => .str i⟩
theorem de_globR {x : Str} {pos : Pos} (hg : Gl X.X x) (hm : X.X.mg x = some (.ref (He.ga X.X.K x))) (hd : (x == ("__debug__" : Str)) = false := by decide) : DE X (.Name x pos) (wC (.glo x)) := ⟨_, pe_glob (v := .ref (He.ga X.X.K x)) hg hm rfl hd, fun W σ ρ ms Q k hK R O hk q => q W (.ref (He.ga X.X.K x)) (.glo x) ms (Ext.refl W) O (by rw [show X.X.K = W.S.K from (congrArg Sg.K hK).symm]; exact .glo x) hk⟩
theorem de_bty {x : Str} {n : String} {pos : Pos} (hg : Gl X.X x) (hm : X.X.mg x = none) (hv : bootBuiltins x = some (.type n)) (hn : x ≠ "__name__" := by decide) (hd : (x == ("__debug__" : Str)) = false := by decide) : DE X (.Name x pos) (wC (.ty n)) := ⟨_, pe_bltn (v := .ty n) hg hm hv rfl hn hd, le_c fun _ _ _ => .ty n⟩
/-! ### operators -/
abbrev WR2 := Dat → Dat → Ms → KR → Prop
def LR2 (S : Sg) (r : R2) (w : WR2) : Prop := ∀ (W : Wd) (x y : V) (a b : Dat) (ms : Ms) (Q : VK) (k : KR), W.S = S → RvOk W x a → RvOk W y b → Own W ms → w a b ms k →
  (∀ W' v r ms', Ext W W' → Own W' ms' → RvOk W' v r → k r ms' → Q v W'.H) → r x y W.H Q
@[simp] def wOp (w : WR2) (wa wb : WE) : WE := fun ρ ms k => wa ρ ms fun a ms1 => wb ρ ms1 fun b ms2 => w a b ms2 k
theorem le_op {S : Sg} {r : R2} {w : WR2} {ta tb : TE} {wa wb : WE} (hr : LR2 S r w) (ha : LE S ta wa) (hb : LE S tb wb) : LE S (tOp r ta tb) (wOp w wa wb) := fun W σ ρ ms Q k hK R O h q =>
  ha W σ ρ ms _ _ hK R O h fun W1 x a ms1 e1 O1 ok1 h1 => hb W1 σ ρ ms1 _ _ (e1.s.trans hK) (R.mono e1) O1 h1 fun W2 y b ms2 e2 O2 ok2 h2 =>
    hr W2 x y a b ms2 _ _ (e2.s.trans (e1.s.trans hK)) (up_v e2 ok1) ok2 O2 h2 fun W3 v r ms3 e3 O3 ok3 h3 => q W3 v r ms3 ((e1.trans e2).trans e3) O3 ok3 h3
theorem de_op {op : Operator} {r : R2} {w : WR2} {a b : Expr} {wa wb : WE} {pos : Pos} (ho : OpR X.X (binaryOp op) r ∧ LR2 X.S r w) (ha : DE X a wa) (hb : DE X b wb) : DE X (.BinOp a op b pos) (wOp w wa wb) := by
  obtain ⟨ta, pa, la⟩ := ha
  obtain ⟨tb, pb, lb⟩ := hb
  exact ⟨_, pe_op ho.1 pa pb, le_op ho.2 la lb⟩
theorem de_cmp {op : CmpOp} {r : R2} {w : WR2} {a b : Expr} {wa wb : WE} {pos : Pos} (ho : OpR X.X (compareOp op) r ∧ LR2 X.S r w) (ha : DE X a wa) (hb : DE X b wb) (hm : behindInMarks op b = false) : DE X (.Compare a [op] [b] pos) (wOp w wa wb) := by
  obtain ⟨ta, pa, la⟩ := ha
  obtain ⟨tb, pb, lb⟩ := hb
  exact ⟨_, pe_cmpR ho.1 pa pb hm, le_op ho.2 la lb⟩
/-- from several rules of one operator, the one that fits -/
theorem opr_or {f : Value → Value → Sem Value} {r r' : R2} {w w' : WR2} (h : OpR X.X f r ∧ LR2 X.S r w) (h' : OpR X.X f r' ∧ LR2 X.S r' w') : OpR X.X f (fun x y H Q => r x y H Q ∨ r' x y H Q) ∧ LR2 X.S (fun x y H Q => r x y H Q ∨ r' x y H Q) (fun a b ms k => w a b ms k ∨ w' a b ms k) :=
  ⟨OpR.or h.1 h'.1, fun W x y a b ms Q k hK oa ob O hw q => hw.elim (fun z => .inl (h.2 W x y a b ms Q k hK oa ob O z q)) fun z => .inr (h'.2 W x y a b ms Q k hK oa ob O z q)⟩
theorem opr_imp {f : Value → Value → Sem Value} {r : R2} {w w' : WR2} (h : OpR X.X f r ∧ LR2 X.S r w) (i : ∀ a b ms k, w' a b ms k → w a b ms k) : OpR X.X f r ∧ LR2 X.S r w' :=
  ⟨h.1, fun W x y a b ms Q k hK oa ob O hw q => h.2 W x y a b ms Q k hK oa ob O (i a b ms k hw) q⟩
/-- two ints -/
@[simp] def wII (C : Int → Int → Prop) (g : Int → Int → Dat) : WR2 := fun a b ms k => match a, b with
  | .int i, .int j => C i j ∧ k (g i j) ms
  | _, _ => False
theorem lr_I {S : Sg} {C : Int → Int → Prop} {g : Int → Int → V} {g' : Int → Int → Dat} (hg : ∀ K G A i j, Dt K G A (g i j) (g' i j)) : LR2 S (rI C g) (wII C g') := fun W x y a b ms Q k hK oa ob O h q => by
  unfold wII at h
  split at h
  · rename_i i j
    obtain ⟨hc, hk⟩ := h
    cases oa
    cases ob
    exact ⟨i, j, rfl, rfl, hc, q W _ (g' i j) ms (Ext.refl W) O (hg _ _ _ i j) hk⟩
  · exact h.elim
@[simp] def wI0 (g : Int → Int → Dat) : WR2 := fun a b ms k => match a, b with
  | .int i, .int j => k (g i j) ms
  | _, _ => False
theorem lr_I0 {S : Sg} {g : Int → Int → V} {g' : Int → Int → Dat} (hg : ∀ K G A i j, Dt K G A (g i j) (g' i j)) : LR2 S (rI0 g) (wI0 g') := fun W x y a b ms Q k hK oa ob O h q => by
  unfold wI0 at h
  split at h
  · rename_i i j
    cases oa
    cases ob
    exact ⟨i, j, rfl, rfl, q W _ (g' i j) ms (Ext.refl W) O (hg _ _ _ i j) h⟩
  · exact h.elim
theorem do_subI : OpR X.X (binaryOp .Sub) (rI0 fun i j => .int (i - j)) ∧ LR2 X.S (rI0 fun i j => .int (i - j)) (wI0 fun i j => .int (i - j)) := ⟨op_sub, lr_I0 fun _ _ _ _ _ => .int _⟩
theorem do_addI : OpR X.X (binaryOp .Add) (rI0 fun i j => .int (i + j)) ∧ LR2 X.S (rI0 fun i j => .int (i + j)) (wI0 fun i j => .int (i + j)) := ⟨op_add, lr_I0 fun _ _ _ _ _ => .int _⟩
theorem do_mul : OpR X.X (binaryOp .Mult) (rI CMul fun i j => .int (i * j)) ∧ LR2 X.S (rI CMul fun i j => .int (i * j)) (wII CMul fun i j => .int (i * j)) := ⟨op_mul, lr_I fun _ _ _ _ _ => .int _⟩
theorem do_fdiv : OpR X.X (binaryOp .FloorDiv) (rI CDiv fun i j => .int (i / j)) ∧ LR2 X.S (rI CDiv fun i j => .int (i / j)) (wII CDiv fun i j => .int (i / j)) := ⟨op_fdiv, lr_I fun _ _ _ _ _ => .int _⟩
theorem do_mod : OpR X.X (binaryOp .Mod) (rI (fun _ j => 0 < j) fun i j => .int (i % j)) ∧ LR2 X.S (rI (fun _ j => 0 < j) fun i j => .int (i % j)) (wII (fun _ j => 0 < j) fun i j => .int (i % j)) := ⟨op_mod, lr_I fun _ _ _ _ _ => .int _⟩
theorem do_pow : OpR X.X (binaryOp .Pow) (rI CPow fun i j => .int (i ^ j.toNat)) ∧ LR2 X.S (rI CPow fun i j => .int (i ^ j.toNat)) (wII CPow fun i j => .int (i ^ j.toNat)) := ⟨op_pow, lr_I fun _ _ _ _ _ => .int _⟩
theorem do_ltI : OpR X.X (compareOp .Lt) (rI0 fun i j => .bl (decide (i < j))) ∧ LR2 X.S (rI0 fun i j => .bl (decide (i < j))) (wI0 fun i j => .bl (decide (i < j))) := ⟨op_lt, lr_I0 fun _ _ _ _ _ => .bl _⟩
theorem do_leI : OpR X.X (compareOp .LtE) (rI0 fun i j => .bl (decide (i ≤ j))) ∧ LR2 X.S (rI0 fun i j => .bl (decide (i ≤ j))) (wI0 fun i j => .bl (decide (i ≤ j))) := ⟨op_le, lr_I0 fun _ _ _ _ _ => .bl _⟩
theorem do_gtI : OpR X.X (compareOp .Gt) (rI0 fun i j => .bl (decide (j < i))) ∧ LR2 X.S (rI0 fun i j => .bl (decide (j < i))) (wI0 fun i j => .bl (decide (j < i))) := ⟨op_gt, lr_I0 fun _ _ _ _ _ => .bl _⟩
theorem do_geI : OpR X.X (compareOp .GtE) (rI0 fun i j => .bl (decide (j ≤ i))) ∧ LR2 X.S (rI0 fun i j => .bl (decide (j ≤ i))) (wI0 fun i j => .bl (decide (j ≤ i))) := ⟨op_ge, lr_I0 fun _ _ _ _ _ => .bl _⟩
end
end Sy
namespace Sy
open PySem L2
/-! ## what a value shows -/
@[simp] def cellD : Cell → Option Dat
  | .lst ds => some (.lst ds)
  | .dic kvs => some (.dic kvs)
  | .lck (.dic kvs) => some (.dic kvs)
  | _ => none
@[simp] def look (ms : Ms) : Dat → Option Dat
  | .own i => (ms[i]?).bind cellD
  | x => some x
def isOwn : Dat → Bool
  | .own _ => true
  | _ => false
theorem look_pure {ms : Ms} {x : Dat} (h : isOwn x = false) : look ms x = some x := by cases x <;> first | rfl | cases h
theorem look_cases {ms : Ms} {r x : Dat} (h : look ms r = some x) : (isOwn r = false ∧ r = x) ∨ ∃ i, r = .own i := by
  cases r with
  | own i => exact .inr ⟨i, rfl⟩
  | _ => exact .inl ⟨rfl, Option.some.inj h⟩
theorem Dtk.rks {W : Wd} : ∀ {vs : List (Key × V)} {ds : List (Key × Dat)}, Dtk W.S.K W.G W.A vs ds → RkOk W vs ds
  | _, _, .nil => .nil
  | _, _, .cons h r => .cons h (Dtk.rks r)
theorem RkOk.dtk {W : Wd} : ∀ {vs : List (Key × V)} {ds : List (Key × Dat)}, RkOk W vs ds → Dtk W.S.K W.G W.A vs ds
  | _, _, .nil => .nil
  | _, _, .cons h r => .cons h (RkOk.dtk r)
section
variable {W : Wd} {ms : Ms} {v : V} {r : Dat}
theorem Own.look_own (O : Own W ms) {i : Nat} {x : Dat} (ok : RvOk W v (.own i)) (h : look ms (.own i) = some x) : ∃ a u, v = .ref a ∧ W.H a = some u ∧ ((∃ ds xs, x = .lst ds ∧ u = .lst xs ∧ RvsOk W xs ds) ∨ ∃ ds xs, x = .dic ds ∧ (u = .dK xs ∨ ∃ ob, u = .frz ob (.dK xs)) ∧ RkOk W xs ds) := by
  cases ok with
  | own ha =>
    simp only [look, Option.bind_eq_some_iff] at h
    obtain ⟨c, hc, e⟩ := h
    have hn : c ≠ .gone := fun z => by subst z; cases e
    obtain ⟨b, o, hb, _, ho, k⟩ := O.cell i c hc hn
    rw [ha] at hb; cases hb
    refine ⟨_, o, rfl, ho, ?_⟩
    cases c with
    | lst rs => cases e; obtain ⟨xs, rfl, q⟩ := k; exact .inl ⟨rs, xs, rfl, rfl, q⟩
    | dic kvs => cases e; obtain ⟨xs, rfl, q⟩ := k; exact .inr ⟨kvs, xs, rfl, .inl rfl, q⟩
    | lck c =>
      cases c with
      | dic kvs => cases e; obtain ⟨ob, u, rfl, xs, rfl, q⟩ := k; exact .inr ⟨kvs, xs, rfl, .inr ⟨ob, rfl⟩, q⟩
      | _ => cases e
    | _ => cases e
theorem Own.list (O : Own W ms) (ok : RvOk W v r) {ds : List Dat} (h : look ms r = some (.lst ds)) : ∃ a xs, v = .ref a ∧ W.H a = some (.lst xs) ∧ RvsOk W xs ds := by
  rcases look_cases h with ⟨_, rfl⟩ | ⟨i, rfl⟩
  · cases ok with
    | lst h1 h2 => exact ⟨_, _, rfl, O.ex _ _ h1, h2⟩
  · obtain ⟨a, u, rfl, h1, ⟨ds', xs, e, rfl, q⟩ | ⟨ds', xs, e, _⟩⟩ := O.look_own ok h
    · cases e; exact ⟨a, xs, rfl, h1, q⟩
    · cases e
theorem Own.dict (O : Own W ms) (ok : RvOk W v r) {ds : List (Key × Dat)} (h : look ms r = some (.dic ds)) : ∃ a xs, v = .ref a ∧ Rd W.H a (.dK xs) ∧ RkOk W xs ds := by
  rcases look_cases h with ⟨_, rfl⟩ | ⟨i, rfl⟩
  · cases ok with
    | dic h1 h2 => exact ⟨_, _, rfl, .inr ⟨_, O.ex _ _ h1⟩, h2.rks⟩
  · obtain ⟨a, u, rfl, h1, ⟨ds', xs, e, _⟩ | ⟨ds', xs, e, hu, q⟩⟩ := O.look_own ok h
    · cases e
    · cases e
      rcases hu with rfl | ⟨ob, rfl⟩
      · exact ⟨a, xs, rfl, .inl h1, q⟩
      · exact ⟨a, xs, rfl, .inr ⟨ob, h1⟩, q⟩
theorem look_kind {i : Nat} {x : Dat} (h : look ms (.own i) = some x) : (∃ ds, x = .lst ds) ∨ ∃ ds, x = .dic ds := by
  simp only [look, Option.bind_eq_some_iff] at h
  obtain ⟨c, _, e⟩ := h
  cases c with
  | lst rs => cases e; exact .inl ⟨_, rfl⟩
  | dic kvs => cases e; exact .inr ⟨_, rfl⟩
  | lck c =>
    cases c with
    | dic kvs => cases e; exact .inr ⟨_, rfl⟩
    | _ => cases e
  | _ => cases e
theorem Own.tuple (O : Own W ms) (ok : RvOk W v r) {ds : List Dat} (h : look ms r = some (.tup ds)) : ∃ a xs, v = .ref a ∧ W.G a = some (.tup xs) ∧ W.H a = some (.tup xs) ∧ RvsOk W xs ds := by
  rcases look_cases h with ⟨_, rfl⟩ | ⟨i, rfl⟩
  · cases ok with
    | tup h1 h2 => exact ⟨_, _, rfl, h1, O.ex _ _ h1, h2⟩
  · rcases look_kind h with ⟨_, e⟩ | ⟨_, e⟩ <;> cases e
theorem Own.scr (O : Own W ms) (ok : RvOk W v r) {ns : List Int} (h : look ms r = some (.scr ns)) : ∃ a, v = .ref a ∧ SqL W.K W.H a (ns.map V.int) := by
  rcases look_cases h with ⟨_, rfl⟩ | ⟨i, rfl⟩
  · cases ok with
    | scr h1 => exact ⟨_, rfl, Same.seq O.ex h1⟩
  · rcases look_kind h with ⟨_, e⟩ | ⟨_, e⟩ <;> cases e
theorem Own.strv (O : Own W ms) (ok : RvOk W v r) {x : Str} (h : look ms r = some (.str x)) : v = .str x := by
  rcases look_cases h with ⟨_, rfl⟩ | ⟨i, rfl⟩
  · cases ok; rfl
  · rcases look_kind h with ⟨_, e⟩ | ⟨_, e⟩ <;> cases e
theorem Own.intv (O : Own W ms) (ok : RvOk W v r) {x : Int} (h : look ms r = some (.int x)) : v = .int x := by
  rcases look_cases h with ⟨_, rfl⟩ | ⟨i, rfl⟩
  · cases ok; rfl
  · rcases look_kind h with ⟨_, e⟩ | ⟨_, e⟩ <;> cases e
end
end Sy
namespace Sy
open PySem L2
/-! ## plain data as the library's -/
mutual
@[simp] def toPy : Dat → PyData
  | .bl b => .bool b
  | .int i => .int i
  | .str x => .str x
  | .lst ds => .list (toPys ds)
  | .tup ds => .tuple (toPys ds)
  | _ => .none
@[simp] def toPys : List Dat → List PyData
  | [] => []
  | d :: ds => toPy d :: toPys ds
end
mutual
@[simp] def plain : Dat → Bool
  | .non => true
  | .bl _ => true
  | .int _ => true
  | .str _ => true
  | .lst ds => plains ds
  | .tup ds => plains ds
  | _ => false
@[simp] def plains : List Dat → Bool
  | [] => true
  | d :: ds => plain d && plains ds
end
mutual
theorem Dt.dp {K : PySem.W.Frag} {G H : Hp} {A : List Addr} (e : Same G H) : ∀ {v : V} {d : Dat}, Dt K G A v d → plain d = true → Dp K H v (toPy d)
  | _, _, .non, _ => .non
  | _, _, .bl b, _ => .bl b
  | _, _, .int i, _ => .int i
  | _, _, .str x, _ => .str x
  | _, _, .ty n, h => by simp [plain] at h
  | _, _, .ref a, h => by simp [plain] at h
  | _, _, .glo x, h => by simp [plain] at h
  | _, _, .lst h r, p => by
    rw [plain] at p
    rw [toPy]
    exact .lst (SqL.of (e _ _ h)) (Dts.dp e r p)
  | _, _, .tup h r, p => by
    rw [plain] at p
    rw [toPy]
    exact .tup (SqT.of (e _ _ h)) (Dts.dp e r p)
  | _, _, .dic h r, p => by simp [plain] at p
  | _, _, .scr h, p => by simp [plain] at p
  | _, _, .own h, p => by simp [plain] at p
  | _, _, .ins h r, p => by simp [plain] at p
  | _, _, .exc h h' r, p => by simp [plain] at p
theorem Dts.dp {K : PySem.W.Frag} {G H : Hp} {A : List Addr} (e : Same G H) : ∀ {v : List V} {d : List Dat}, Dts K G A v d → plains d = true → DpAll K H v (toPys d)
  | _, _, .nil, _ => by rw [toPys]; exact .nil
  | _, _, .cons h r, p => by
    rw [plains, Bool.and_eq_true] at p
    rw [toPys]
    exact .cons (Dt.dp e h p.1) (Dts.dp e r p.2)
end
theorem Own.dp {W : Wd} {ms : Ms} {v : V} {r : Dat} {x : Dat} (O : Own W ms) (ok : RvOk W v r) (h : look ms r = some x) (p : plain x = true) : Dp W.K W.H v (toPy x) := by
  rcases look_cases h with ⟨_, rfl⟩ | ⟨i, rfl⟩
  · exact Dt.dp O.ex ok p
  · rcases look_kind h with ⟨ds, rfl⟩ | ⟨_, rfl⟩
    · obtain ⟨a, xs, rfl, h1, h2⟩ := O.list ok h
      rw [plain] at p
      rw [toPy]
      exact .lst (SqL.of h1) (h2.dp O.ex p)
    · simp [plain] at p
/-- a == b -/
@[simp] def wEq : WR2 := fun a b ms k => ∃ x y, look ms a = some x ∧ look ms b = some y ∧ plain x = true ∧ plain y = true ∧ SeqAt.shaped (toPy x) = true ∧ SeqAt.shaped (toPy y) = true ∧ k (.bl (PyData.eqv (toPy x) (toPy y))) ms
@[simp] def wNe : WR2 := fun a b ms k => ∃ x y, look ms a = some x ∧ look ms b = some y ∧ plain x = true ∧ plain y = true ∧ SeqAt.shaped (toPy x) = true ∧ SeqAt.shaped (toPy y) = true ∧ k (.bl (!PyData.eqv (toPy x) (toPy y))) ms
section
variable {X : Cy}
theorem do_eq (hu : X.X.A.units + 64 < cLine) : OpR X.X (compareOp .Eq) (rEqD X.X.K) ∧ LR2 X.S (rEqD X.X.K) wEq := ⟨op_eqD hu, fun W x y a b ms Q k hK oa ob O ⟨p, q, h1, h2, p1, p2, s1, s2, hk⟩ z => by
  rw [show X.X.K = W.K from (congrArg Sg.K hK).symm]
  exact ⟨_, _, O.dp oa h1 p1, O.dp ob h2 p2, s1, s2, z W _ (.bl _) ms (Ext.refl W) O (.bl _) hk⟩⟩
theorem do_ne (hu : X.X.A.units + 64 < cLine) : OpR X.X (compareOp .NotEq) (rNeD X.X.K) ∧ LR2 X.S (rNeD X.X.K) wNe := ⟨op_neD hu, fun W x y a b ms Q k hK oa ob O ⟨p, q, h1, h2, p1, p2, s1, s2, hk⟩ z => by
  rw [show X.X.K = W.K from (congrArg Sg.K hK).symm]
  exact ⟨_, _, O.dp oa h1 p1, O.dp ob h2 p2, s1, s2, z W _ (.bl _) ms (Ext.refl W) O (.bl _) hk⟩⟩
/-! ### in, not in -/
@[simp] def flat : Dat → Bool
  | .non => true
  | .bl _ => true
  | .int _ => true
  | .str _ => true
  | _ => false
@[simp] def eqD : Dat → Dat → Bool
  | .non, .non => true
  | .bl a, .bl b => a == b
  | .bl a, .int b => (if a then 1 else 0) == b
  | .int a, .bl b => a == (if b then 1 else 0)
  | .int a, .int b => a == b
  | .str a, .str b => a == b
  | _, _ => false
def inD (x : Dat) (ds : List Dat) : Bool := ds.any fun y => eqD y x
theorem Dt.flatV {K : PySem.W.Frag} {G : Hp} {A : List Addr} {v : V} {d : Dat} (h : Dt K G A v d) (f : flat d = true) : flatV v = true := by
  cases h <;> first | rfl | cases f
theorem Dt.eqV {K : PySem.W.Frag} {G : Hp} {A : List Addr} {v w : V} {d e : Dat} (h : Dt K G A v d) (h' : Dt K G A w e) (f : flat d = true) (f' : flat e = true) : eqV v w = eqD d e := by
  cases h <;> first | (cases f; done) | (cases h' <;> first | rfl | (cases f'; done))
theorem Dts.inV {K : PySem.W.Frag} {G : Hp} {A : List Addr} {x : V} {d : Dat} (h : Dt K G A x d) (f : flat d = true) : ∀ {vs : List V} {ds : List Dat}, Dts K G A vs ds → ds.all flat = true → vs.all flatV = true ∧ L2.inV x vs = inD d ds
  | _, _, .nil, _ => ⟨rfl, rfl⟩
  | _, _, .cons q r, a => by
    rw [List.all_cons, Bool.and_eq_true] at a
    obtain ⟨h1, h2⟩ := Dts.inV h f r a.2
    refine ⟨by rw [List.all_cons, q.flatV a.1, h1]; rfl, ?_⟩
    show (L2.eqV _ x || L2.inV x _) = (eqD _ d || inD d _)
    rw [q.eqV h a.1 f, h2]
@[simp] def wIn (neg : Bool) : WR2 := fun a b ms k => flat a = true ∧ match look ms b with
  | some (.lst ds) => ds.all flat = true ∧ k (.bl (if neg then !inD a ds else inD a ds)) ms
  | some (.tup ds) => ds.all flat = true ∧ k (.bl (if neg then !inD a ds else inD a ds)) ms
  | _ => False
theorem lr_in {S : Sg} {neg : Bool} : LR2 S (rIn S.K neg) (wIn neg) := fun W x y a b ms Q k hK oa ob O h z => by
  subst hK
  obtain ⟨fd, h⟩ := h
  split at h
  · rename_i ds e
    obtain ⟨fs, hk⟩ := h
    obtain ⟨p, xs, rfl, h1, h2⟩ := O.list ob e
    obtain ⟨i1, i2⟩ := Dts.inV oa fd h2 fs
    exact ⟨p, xs, rfl, .inl (SqL.of h1), Dt.flatV oa fd, i1, by rw [i2]; exact z W _ (.bl _) ms (Ext.refl W) O (.bl _) hk⟩
  · rename_i ds e
    obtain ⟨fs, hk⟩ := h
    obtain ⟨p, xs, rfl, _, h1, h2⟩ := O.tuple ob e
    obtain ⟨i1, i2⟩ := Dts.inV oa fd h2 fs
    exact ⟨p, xs, rfl, .inr (SqT.of h1), Dt.flatV oa fd, i1, by rw [i2]; exact z W _ (.bl _) ms (Ext.refl W) O (.bl _) hk⟩
  · exact h.elim
theorem do_in : OpR X.X (compareOp .In) (rIn X.X.K false) ∧ LR2 X.S (rIn X.X.K false) (wIn false) := ⟨op_in_seq, lr_in⟩
theorem do_notin : OpR X.X (compareOp .NotIn) (rIn X.X.K true) ∧ LR2 X.S (rIn X.X.K true) (wIn true) := ⟨op_notIn_seq, lr_in⟩
/-! ### is None -/
@[simp] def isNon : Dat → Bool
  | .non => true
  | _ => false
theorem isNon_ok {W : Wd} {v : V} {r : Dat} (h : RvOk W v r) : decide (v = .non) = isNon r := by cases h <;> rfl
@[simp] def wIsN (neg : Bool) : WR2 := fun a b ms k => b = .non ∧ k (.bl (if neg then !isNon a else isNon a)) ms
theorem do_isN : OpR X.X (compareOp .Is) (fun x y H Q => y = .non ∧ Q (.bl (decide (x = .non))) H) ∧ LR2 X.S (fun x y H Q => y = .non ∧ Q (.bl (decide (x = .non))) H) (wIsN false) := ⟨op_isN, fun W x y a b ms Q k hK oa ob O ⟨e, hk⟩ z => by
  subst e
  cases ob
  exact ⟨rfl, by rw [isNon_ok oa]; exact z W _ (.bl _) ms (Ext.refl W) O (.bl _) hk⟩⟩
theorem do_notN : OpR X.X (compareOp .IsNot) (fun x y H Q => y = .non ∧ Q (.bl (!decide (x = .non))) H) ∧ LR2 X.S (fun x y H Q => y = .non ∧ Q (.bl (!decide (x = .non))) H) (wIsN true) := ⟨op_notN, fun W x y a b ms Q k hK oa ob O ⟨e, hk⟩ z => by
  subst e
  cases ob
  exact ⟨rfl, by rw [isNon_ok oa]; exact z W _ (.bl _) ms (Ext.refl W) O (.bl _) hk⟩⟩
/-! ### arguments, displays -/
@[simp] def wNil : WA := fun _ ms k => k [] ms
@[simp] def wCons (we : WE) (wr : WA) : WA := fun ρ ms k => we ρ ms fun a ms1 => wr ρ ms1 fun as ms2 => k (a :: as) ms2
theorem da_nil : DA X [] wNil := ⟨_, pa_nil, fun W σ ρ ms Q k hK R O h q => q W [] [] ms (Ext.refl W) O .nil h⟩
theorem da_cons {e : Expr} {es : List Expr} {we : WE} {wr : WA} (ha : DE X e we) (hr : DA X es wr) (hs : starEach (e :: es) X.X.env = (false, eval e X.X.env) :: starEach es X.X.env := by rfl) : DA X (e :: es) (wCons we wr) := by
  obtain ⟨ta, pa, la⟩ := ha
  obtain ⟨tr, pr, lr⟩ := hr
  refine ⟨_, pa_cons pa pr hs, fun W σ ρ ms Q k hK R O h q => ?_⟩
  exact la W σ ρ ms _ _ hK R O h fun W1 x a ms1 e1 O1 ok1 h1 => lr W1 σ ρ ms1 _ _ (e1.s.trans hK) (R.mono e1) O1 h1 fun W2 xs as ms2 e2 O2 ok2 h2 =>
    q W2 (x :: xs) (a :: as) ms2 (e1.trans e2) O2 (.cons (up_v e2 ok1) ok2) h2
@[simp] def wLst (wa : WA) : WE := fun ρ ms k => wa ρ ms fun rs ms1 => rs.length ≤ sizeLine ∧ k (.lst rs) ms1
/-- [..], to be changed later -/
@[simp] def wLstO (wa : WA) : WE := fun ρ ms k => wa ρ ms fun rs ms1 => rs.length ≤ sizeLine ∧ k (.own ms1.length) (ms1 ++ [.lst rs])
@[simp] def wTup (wa : WA) : WE := fun ρ ms k => wa ρ ms fun rs ms1 => rs.length ≤ sizeLine ∧ k (.tup rs) ms1
theorem de_lst {es : List Expr} {wa : WA} {pos : Pos} (h : DA X es wa) : DE X (.List es pos) (wLst wa) := by
  obtain ⟨t, p, l⟩ := h
  refine ⟨_, pe_lst p, fun W σ ρ ms Q k hK R O h q => ?_⟩
  refine l W σ ρ ms _ _ hK R O h fun W1 vs rs ms1 e1 O1 ok1 h1 => ?_
  refine ⟨by rw [ok1.length]; exact h1.1, fun p hp => ?_⟩
  obtain ⟨O2, e2⟩ := O1.lay (o := .lst vs) hp
  exact q (W1.lay p (.lst vs)) (.ref p) (.lst rs) ms1 (e1.trans e2) O2 (.lst upd_same (up_vs e2 ok1)) h1.2
theorem de_tup {es : List Expr} {wa : WA} {x1} {pos : Pos} (h : DA X es wa) : DE X (.Tuple es x1 pos) (wTup wa) := by
  obtain ⟨t, p, l⟩ := h
  refine ⟨_, pe_tup p, fun W σ ρ ms Q k hK R O h q => ?_⟩
  refine l W σ ρ ms _ _ hK R O h fun W1 vs rs ms1 e1 O1 ok1 h1 => ?_
  refine ⟨by rw [ok1.length]; exact h1.1, fun p hp => ?_⟩
  obtain ⟨O2, e2⟩ := O1.lay (o := .tup vs) hp
  exact q (W1.lay p (.tup vs)) (.ref p) (.tup rs) ms1 (e1.trans e2) O2 (.tup upd_same (up_vs e2 ok1)) h1.2
theorem take_own {W : Wd} {ms : Ms} (O : Own W ms) {p : Addr} {o : HO} : RvOk (W.take p o) (.ref p) (.own ms.length) :=
  .own (by show (W.A ++ [p])[ms.length]? = _; rw [← O.len, List.getElem?_append_right (Nat.le_refl _), Nat.sub_self]; rfl)
theorem de_lstO {es : List Expr} {wa : WA} {pos : Pos} (h : DA X es wa) : DE X (.List es pos) (wLstO wa) := by
  obtain ⟨t, p, l⟩ := h
  refine ⟨_, pe_lst p, fun W σ ρ ms Q k hK R O h q => ?_⟩
  refine l W σ ρ ms _ _ hK R O h fun W1 vs rs ms1 e1 O1 ok1 h1 => ?_
  refine ⟨by rw [ok1.length]; exact h1.1, fun p hp => ?_⟩
  obtain ⟨O2, e2⟩ := O1.take (o := .lst vs) (c := .lst rs) hp ⟨vs, rfl, low_vs take_low ok1⟩
  exact q (W1.take p (.lst vs)) (.ref p) (.own ms1.length) _ (e1.trans e2) O2 (take_own O1) h1.2
/-! ### subscripts -/
theorem ixN_lt {n : Nat} {i : Int} {j : Nat} (h : ixN n i = some j) : j < n := (ixN_seq h).2.1
def atD (ds : List Dat) (i : Int) : Option Dat := (ixN ds.length i).bind fun j => ds[j]?
theorem Dts.atI {K : PySem.W.Frag} {G : Hp} {A : List Addr} {vs : List V} {ds : List Dat} {i : Int} {d : Dat} (h : Dts K G A vs ds) (e : atD ds i = some d) : ∃ v, L2.atI vs i = some v ∧ Dt K G A v d := by
  unfold atD at e
  obtain ⟨j, h1, h2⟩ := Option.bind_eq_some_iff.mp e
  obtain ⟨v, h3, h4⟩ := h.get h2
  exact ⟨v, by unfold L2.atI; rw [h.length, h1]; exact h3, h4⟩
@[simp] def wIx : WR2 := fun a b ms k => match look ms a, b with
  | some (.lst ds), (.int i) => (match atD ds i with | some d => k d ms | none => False)
  | some (.tup ds), (.int i) => (match atD ds i with | some d => k d ms | none => False)
  | some (.scr ns), (.int i) => 0 ≤ i ∧ i < (ns.length : Int) ∧ k (.int (ns.getD i.toNat 0)) ms
  | _, _ => False
theorem lr_ix {S : Sg} : LR2 S (fun x y H Q => rIxL S.K x y H Q ∨ rIxT S.K x y H Q) wIx := fun W x y a b ms Q k hK oa ob O h z => by
  subst hK
  unfold wIx at h
  split at h
  · rename_i ds i e
    cases hh : atD ds i with
    | none => rw [hh] at h; exact h.elim
    | some d =>
      rw [hh] at h
      obtain ⟨p, xs, rfl, h1, h2⟩ := O.list oa e
      obtain ⟨v, h3, h4⟩ := h2.atI hh
      cases ob
      exact .inl ⟨p, xs, i, v, rfl, rfl, SqL.of h1, h3, z W v d ms (Ext.refl W) O h4 h⟩
  · rename_i ds i e
    cases hh : atD ds i with
    | none => rw [hh] at h; exact h.elim
    | some d =>
      rw [hh] at h
      obtain ⟨p, xs, rfl, _, h1, h2⟩ := O.tuple oa e
      obtain ⟨v, h3, h4⟩ := h2.atI hh
      cases ob
      exact .inr ⟨p, xs, i, v, rfl, rfl, SqT.of h1, h3, z W v d ms (Ext.refl W) O h4 h⟩
  · rename_i ns i e
    obtain ⟨p, rfl, h1⟩ := O.scr oa e
    cases ob
    obtain ⟨h2, h3, hk⟩ := h
    refine .inl ⟨p, _, i, .int (ns.getD i.toNat 0), rfl, rfl, h1, ?_, z W _ (.int _) ms (Ext.refl W) O (.int _) hk⟩
    have hlt : i.toNat < ns.length := by omega
    unfold L2.atI ixN
    rw [List.length_map, if_pos h2, if_pos h3]
    simp [List.getD, hlt]
  · exact h.elim
theorem de_ix {a b : Expr} {wa wb : WE} {pos : Pos} (ha : DE X a wa) (hb : DE X b wb) (hs : PlainIx b) : DE X (.Subscript a b pos) (wOp wIx wa wb) := by
  obtain ⟨ta, pa, la⟩ := ha
  obtain ⟨tb, pb, lb⟩ := hb
  exact ⟨_, pe_ix (ix_list.or ix_tup) pa pb hs, le_op lr_ix la lb⟩
/-! ### truth, and, or, not, if -/
@[simp] def wBt (we : WE) : WT := fun ρ ms k => we ρ ms fun a ms1 => match a with
  | (.bl b) => k b ms1
  | _ => False
theorem lt_B {S : Sg} {t : TE} {w : WE} (h : LE S t w) : LT S (tB t) (wBt w) := fun W σ ρ ms Q k hK R O hw q =>
  h W σ ρ ms _ _ hK R O hw fun W1 v a ms1 e1 O1 ok1 h1 => by
    split at h1
    · rename_i b
      cases ok1
      exact ⟨b, rfl, q W1 b ms1 e1 O1 h1⟩
    · exact h1.elim
theorem dt_val {e : Expr} {w : WE} (h : DE X e w) (he : ∀ whole, isTrue e X.X.env whole = (do let v ← whole; standAt e.pos; holding [v] (truthy v)) := by intro _; rfl) : DTt X e (wBt w) := by
  obtain ⟨t, p, l⟩ := h
  exact ⟨_, pt_val p he, lt_B l⟩
theorem dt_cmp {op : CmpOp} {r : R2} {w : WR2} {a b : Expr} {wa wb : WE} {pos : Pos} (ho : OpR X.X (compareOp op) r ∧ LR2 X.S r w) (ha : DE X a wa) (hb : DE X b wb) (hm : behindInMarks op b = false) : DTt X (.Compare a [op] [b] pos) (wBt (wOp w wa wb)) := by
  obtain ⟨ta, pa, la⟩ := ha
  obtain ⟨tb, pb, lb⟩ := hb
  exact ⟨_, pt_cmpR ho.1 pa pb hm, lt_B (le_op ho.2 la lb)⟩
@[simp] def wAnd (a b : WT) : WT := fun ρ ms k => a ρ ms fun c ms1 => if c = true then b ρ ms1 k else k false ms1
@[simp] def wOr (a b : WT) : WT := fun ρ ms k => a ρ ms fun c ms1 => if c = true then k true ms1 else b ρ ms1 k
@[simp] def wNot (a : WT) : WT := fun ρ ms k => a ρ ms fun c ms1 => k (!c) ms1
theorem dw_and1 {a : Expr} {w : WT} {pos : Pos} (h : DTt X a w) : DW X (.BoolOp .And [a] pos) w := let ⟨t, p, l⟩ := h; ⟨t, pw_and1 p, l⟩
theorem dw_or1 {a : Expr} {w : WT} {pos : Pos} (h : DTt X a w) : DW X (.BoolOp .Or [a] pos) w := let ⟨t, p, l⟩ := h; ⟨t, pw_or1 p, l⟩
theorem dw_and {a b : Expr} {rest : List Expr} {pos : Pos} {w u : WT} (h : DTt X a w) (h2 : DW X (.BoolOp .And (b :: rest) pos) u) : DW X (.BoolOp .And (a :: b :: rest) pos) (wAnd w u) := by
  obtain ⟨t, p, l⟩ := h
  obtain ⟨t2, p2, l2⟩ := h2
  refine ⟨_, pw_and p p2, fun W σ ρ ms Q k hK R O hw q => ?_⟩
  refine l W σ ρ ms _ _ hK R O hw fun W1 b ms1 e1 O1 h1 => ?_
  cases b with
  | true => exact l2 W1 σ ρ ms1 _ _ (e1.s.trans hK) (R.mono e1) O1 h1 fun W2 b ms2 e2 O2 h2 => q W2 b ms2 (e1.trans e2) O2 h2
  | false => exact q W1 false ms1 e1 O1 h1
theorem dw_or {a b : Expr} {rest : List Expr} {pos : Pos} {w u : WT} (h : DTt X a w) (h2 : DW X (.BoolOp .Or (b :: rest) pos) u) : DW X (.BoolOp .Or (a :: b :: rest) pos) (wOr w u) := by
  obtain ⟨t, p, l⟩ := h
  obtain ⟨t2, p2, l2⟩ := h2
  refine ⟨_, pw_or p p2, fun W σ ρ ms Q k hK R O hw q => ?_⟩
  refine l W σ ρ ms _ _ hK R O hw fun W1 b ms1 e1 O1 h1 => ?_
  cases b with
  | true => exact q W1 true ms1 e1 O1 h1
  | false => exact l2 W1 σ ρ ms1 _ _ (e1.s.trans hK) (R.mono e1) O1 h1 fun W2 b ms2 e2 O2 h2 => q W2 b ms2 (e1.trans e2) O2 h2
theorem DW.dt {e : Expr} {w : WT} (h : DW X e w) : DTt X e w := let ⟨t, p, l⟩ := h; ⟨t, p.pt, l⟩
theorem dt_not {a : Expr} {pos : Pos} {w : WT} (h : DTt X a w) : DTt X (.UnaryOp .Not a pos) (wNot w) := by
  obtain ⟨t, p, l⟩ := h
  exact ⟨_, pt_not p, fun W σ ρ ms Q k hK R O hw q => l W σ ρ ms _ _ hK R O hw fun W1 b ms1 e1 O1 h1 => q W1 (!b) ms1 e1 O1 h1⟩
@[simp] def wAndV (a b : WE) : WE := fun ρ ms k => a ρ ms fun r ms1 => match r with
  | (.bl c) => if c = true then b ρ ms1 k else k (.bl false) ms1
  | _ => False
@[simp] def wOrV (a b : WE) : WE := fun ρ ms k => a ρ ms fun r ms1 => match r with
  | (.bl c) => if c = true then k (.bl true) ms1 else b ρ ms1 k
  | _ => False
@[simp] def wNotV (a : WE) : WE := fun ρ ms k => a ρ ms fun r ms1 => match r with
  | (.bl c) => k (.bl (!c)) ms1
  | _ => False
theorem de_one {op} {a : Expr} {pos : Pos} {w : WE} (h : DE X a w) : DE X (.BoolOp op [a] pos) w := let ⟨t, p, l⟩ := h; ⟨t, pe_one p, l⟩
theorem de_and {a b : Expr} {rest : List Expr} {pos : Pos} {w u : WE} (h : DE X a w) (h2 : DE X (.BoolOp .And (b :: rest) pos) u) : DE X (.BoolOp .And (a :: b :: rest) pos) (wAndV w u) := by
  obtain ⟨t, p, l⟩ := h
  obtain ⟨t2, p2, l2⟩ := h2
  refine ⟨_, pe_and p p2, fun W σ ρ ms Q k hK R O hw q => ?_⟩
  refine l W σ ρ ms _ _ hK R O hw fun W1 v r ms1 e1 O1 ok1 h1 => ?_
  split at h1
  · rename_i c
    cases ok1
    refine ⟨c, rfl, ?_⟩
    cases c with
    | true => exact l2 W1 σ ρ ms1 _ _ (e1.s.trans hK) (R.mono e1) O1 h1 fun W2 v b ms2 e2 O2 ok2 h2 => q W2 v b ms2 (e1.trans e2) O2 ok2 h2
    | false => exact q W1 _ (.bl false) ms1 e1 O1 (.bl _) h1
  · exact h1.elim
theorem de_or {a b : Expr} {rest : List Expr} {pos : Pos} {w u : WE} (h : DE X a w) (h2 : DE X (.BoolOp .Or (b :: rest) pos) u) : DE X (.BoolOp .Or (a :: b :: rest) pos) (wOrV w u) := by
  obtain ⟨t, p, l⟩ := h
  obtain ⟨t2, p2, l2⟩ := h2
  refine ⟨_, pe_or p p2, fun W σ ρ ms Q k hK R O hw q => ?_⟩
  refine l W σ ρ ms _ _ hK R O hw fun W1 v r ms1 e1 O1 ok1 h1 => ?_
  split at h1
  · rename_i c
    cases ok1
    refine ⟨c, rfl, ?_⟩
    cases c with
    | true => exact q W1 _ (.bl true) ms1 e1 O1 (.bl _) h1
    | false => exact l2 W1 σ ρ ms1 _ _ (e1.s.trans hK) (R.mono e1) O1 h1 fun W2 v b ms2 e2 O2 ok2 h2 => q W2 v b ms2 (e1.trans e2) O2 ok2 h2
  · exact h1.elim
theorem de_not {a : Expr} {pos : Pos} {w : WE} (h : DE X a w) : DE X (.UnaryOp .Not a pos) (wNotV w) := by
  obtain ⟨t, p, l⟩ := h
  refine ⟨_, pe_not p, fun W σ ρ ms Q k hK R O hw q => l W σ ρ ms _ _ hK R O hw fun W1 v r ms1 e1 O1 ok1 h1 => ?_⟩
  split at h1
  · rename_i c
    cases ok1
    exact ⟨c, rfl, q W1 _ (.bl (!c)) ms1 e1 O1 (.bl _) h1⟩
  · exact h1.elim
@[simp] def wIf (c : WT) (a b : WE) : WE := fun ρ ms k => c ρ ms fun t ms1 => if t = true then a ρ ms1 k else b ρ ms1 k
theorem de_if {c a b : Expr} {pos : Pos} {wc : WT} {wa wb : WE} (hc : DTt X c wc) (ha : DE X a wa) (hb : DE X b wb) : DE X (.IfExp c a b pos) (wIf wc wa wb) := by
  obtain ⟨t, p, l⟩ := hc
  obtain ⟨ta, pa, la⟩ := ha
  obtain ⟨tb, pb, lb⟩ := hb
  refine ⟨_, pe_ifExp p pa pb, fun W σ ρ ms Q k hK R O hw q => ?_⟩
  refine l W σ ρ ms _ _ hK R O hw fun W1 b ms1 e1 O1 h1 => ?_
  cases b with
  | true => exact la W1 σ ρ ms1 _ _ (e1.s.trans hK) (R.mono e1) O1 h1 fun W2 v b ms2 e2 O2 ok2 h2 => q W2 v b ms2 (e1.trans e2) O2 ok2 h2
  | false => exact lb W1 σ ρ ms1 _ _ (e1.s.trans hK) (R.mono e1) O1 h1 fun W2 v b ms2 e2 O2 ok2 h2 => q W2 v b ms2 (e1.trans e2) O2 ok2 h2
/-- a < b < c -/
@[simp] def wChain (w w' : WR2) (wa wb wc : WE) : WE := fun ρ ms k => wa ρ ms fun a ms1 => wb ρ ms1 fun b ms2 => w a b ms2 fun r ms3 => match r with
  | (.bl c) => if c = true then wc ρ ms3 fun z ms4 => w' b z ms4 k else k (.bl false) ms3
  | _ => False
theorem de_chain {op op' : CmpOp} {r r' : R2} {w w' : WR2} {a b c : Expr} {wa wb wc : WE} {pos : Pos} (ho : OpR X.X (compareOp op) r ∧ LR2 X.S r w) (ho' : OpR X.X (compareOp op') r' ∧ LR2 X.S r' w') (ha : DE X a wa) (hb : DE X b wb) (hc : DE X c wc) (hm : lastMarks [op, op'] [b, c] = false := by with_unfolding_all rfl) : DE X (.Compare a [op, op'] [b, c] pos) (wChain w w' wa wb wc) := by
  obtain ⟨ta, pa, la⟩ := ha
  obtain ⟨tb, pb, lb⟩ := hb
  obtain ⟨tc, pc, lc⟩ := hc
  refine ⟨_, pe_chain ho.1 ho'.1 pa pb pc hm, fun W σ ρ ms Q k hK R O hw q => ?_⟩
  refine la W σ ρ ms _ _ hK R O hw fun W1 x a ms1 e1 O1 ok1 h1 => lb W1 σ ρ ms1 _ _ (e1.s.trans hK) (R.mono e1) O1 h1 fun W2 y b ms2 e2 O2 ok2 h2 => ?_
  refine ho.2 W2 x y a b ms2 _ _ (e2.s.trans (e1.s.trans hK)) (up_v e2 ok1) ok2 O2 h2 fun W3 v r ms3 e3 O3 ok3 h3 => ?_
  have hK3 := e3.s.trans (e2.s.trans (e1.s.trans hK))
  split at h3
  · rename_i cc
    cases ok3
    refine ⟨cc, rfl, ?_⟩
    cases cc with
    | true => exact lc W3 σ ρ ms3 _ _ hK3 (((R.mono e1).mono e2).mono e3) O3 h3 fun W4 z zr ms4 e4 O4 ok4 h4 => ho'.2 W4 y z b zr ms4 _ _ (e4.s.trans hK3) (up_v e4 (up_v e3 ok2)) ok4 O4 h4 fun W5 v r ms5 e5 O5 ok5 h5 => q W5 v r ms5 ((((e1.trans e2).trans e3).trans e4).trans e5) O5 ok5 h5
    | false => exact q W3 _ (.bl false) ms3 ((e1.trans e2).trans e3) O3 (.bl _) h3
  · exact h3.elim
end
end Sy
namespace Sy
open PySem L2
section
variable {X : Cy} {pos : Pos}
/-! ## statements -/
@[simp] def wNext : WS := fun E ρ ms => E.nx ρ ms
@[simp] def wSeq (a b : WS) : WS := fun E ρ ms => a { E with nx := b E } ρ ms
theorem ls_seq {S : Sg} {t u : TS} {a b : WS} (h : LS S t a) (h' : LS S u b) : LS S (tSeq t u) (wSeq a b) := fun W σ ρ ms D E hK R O hw ok =>
  h W σ ρ ms _ _ hK R O hw ⟨fun W' σ' ρ' ms' e O' R' h1 => h' W' σ' ρ' ms' D E (e.s.trans hK) R' O' h1 (ok.mono e), ok.rt, ok.bk, ok.ct⟩
theorem dss_nil : DSs X [] wNext := ⟨_, pss_nil, fun W σ ρ ms D E hK R O hw ok => ok.nx W σ ρ ms (Ext.refl W) O R hw⟩
theorem dss_cons {st : Stmt} {rest : List Stmt} {a b : WS} (h : DS X st a) (h' : DSs X rest b) : DSs X (st :: rest) (wSeq a b) := by
  obtain ⟨t, p, l⟩ := h
  obtain ⟨t', p', l'⟩ := h'
  exact ⟨_, pss_cons p p', ls_seq l l'⟩
theorem dss_one {st : Stmt} {a : WS} (h : DS X st a) : DSs X [st] a := let ⟨t, p, l⟩ := h; ⟨t, pss_one p, l⟩
@[simp] def wNever : WS := fun _ _ _ => False
theorem ds_never {st : Stmt} : DS X st wNever := ⟨_, ps_never, fun W σ ρ ms D E hK R O hw ok => hw.elim⟩
theorem dss_never {sts : List Stmt} : DSs X sts wNever := ⟨_, pss_never, fun W σ ρ ms D E hK R O hw ok => hw.elim⟩
theorem ds_pass : DS X (.Pass pos) wNext := ⟨_, ps_pass, fun W σ ρ ms D E hK R O hw ok => ok.nx W σ ρ ms (Ext.refl W) O R hw⟩
@[simp] def wBreak : WS := fun E ρ ms => E.bk ρ ms
@[simp] def wCont : WS := fun E ρ ms => E.ct ρ ms
theorem ds_break : DS X (.Break pos) wBreak := ⟨_, ps_break, fun W σ ρ ms D E hK R O hw ok => ok.bk W σ ρ ms (Ext.refl W) O R hw⟩
theorem ds_cont : DS X (.Continue pos) wCont := ⟨_, ps_continue, fun W σ ρ ms D E hK R O hw ok => ok.ct W σ ρ ms (Ext.refl W) O R hw⟩
@[simp] def wDrop (we : WE) : WS := fun E ρ ms => we ρ ms fun _ ms1 => E.nx ρ ms1
theorem ds_expr {e : Expr} {we : WE} (h : DE X e we) (hs : swapsWith e none pos.line X.X.env = pure false := by rfl) : DS X (.Expr e pos) (wDrop we) := by
  obtain ⟨t, p, l⟩ := h
  exact ⟨_, ps_expr p hs, fun W σ ρ ms D E hK R O hw ok => l W σ ρ ms _ _ hK R O hw fun W1 v r ms1 e1 O1 ok1 h1 => ok.nx W1 σ ρ ms1 e1 O1 (R.mono e1) h1⟩
@[simp] def wRet (we : WE) : WS := fun E ρ ms => we ρ ms E.rt
theorem ds_ret {e : Expr} {we : WE} (h : DE X e we) : DS X (.Return (some e) pos) (wRet we) := by
  obtain ⟨t, p, l⟩ := h
  exact ⟨_, ps_ret p, fun W σ ρ ms D E hK R O hw ok => l W σ ρ ms _ _ hK R O hw fun W1 v r ms1 e1 O1 ok1 h1 => ok.rt W1 v r ms1 e1 O1 ok1 h1⟩
@[simp] def wRetN : WS := fun E _ ms => E.rt .non ms
theorem ds_retN : DS X (.Return none pos) wRetN := ⟨_, ps_retN, fun W σ ρ ms D E hK R O hw ok => ok.rt W .non .non ms (Ext.refl W) O .non hw⟩
@[simp] def wIfS (c : WT) (a b : WS) : WS := fun E ρ ms => c ρ ms fun t ms1 => if t = true then a E ρ ms1 else b E ρ ms1
theorem ds_if {c : Expr} {a b : List Stmt} {wc : WT} {wa wb : WS} (hc : DTt X c wc) (ha : DSs X a wa) (hb : DSs X b wb) : DS X (.If c a b pos) (wIfS wc wa wb) := by
  obtain ⟨t, p, l⟩ := hc
  obtain ⟨ta, pa, la⟩ := ha
  obtain ⟨tb, pb, lb⟩ := hb
  refine ⟨_, ps_if p pa pb, fun W σ ρ ms D E hK R O hw ok => l W σ ρ ms _ _ hK R O hw fun W1 b ms1 e1 O1 h1 => ?_⟩
  cases b with
  | true => exact la W1 σ ρ ms1 D E (e1.s.trans hK) (R.mono e1) O1 h1 (ok.mono e1)
  | false => exact lb W1 σ ρ ms1 D E (e1.s.trans hK) (R.mono e1) O1 h1 (ok.mono e1)
/-! ### targets, assignments -/
@[simp] def wgName (i : Nat) : WG := fun r ρ ms k => k (ρ.put i r) ms
theorem dg_name {i : Nat} {x : Str} (hN : X.X.N.Nodup) (hi : X.X.N[i]? = some x) (hx : Loc X.X.env.scope x) (hf : X.X.fn x = true ∨ X.X.env.scope.names.lookup x = some .local := by first | exact .inl rfl | exact .inr rfl | assumption) : DG X (.Name x pos) (wgName i) [i] :=
  ⟨_, pg_name hN hi hx hf, fun W σ ρ ms v r Q k hK R O ok h q => q W _ _ ms (Ext.refl W) O (R.set ok i) (by rw [List.length_set]) (fun j hj => by rw [List.getElem?_set_ne (fun e => hj (by simp [e]))]) h⟩
def WGs := List Dat → Env → Ms → (Env → Ms → Prop) → Prop
def LGs (S : Sg) (t : TGs) (w : WGs) (ss : List Nat) : Prop := ∀ (W : Wd) (σ : L2.St) (ρ : Env) (ms : Ms) (vs : List V) (ds : List Dat) (Q : L2.St → Hp → Prop) (k : Env → Ms → Prop), W.S = S → Rel W σ ρ → Own W ms → RvsOk W vs ds → w ds ρ ms k →
  (∀ W' σ' ρ' ms', Ext W W' → Own W' ms' → Rel W' σ' ρ' → σ'.length = σ.length → (∀ i, i ∉ ss → σ'[i]? = σ[i]?) → k ρ' ms' → Q σ' W'.H) → t vs σ W.H Q
def DGs (X : Cy) (es : List Expr) (w : WGs) (ss : List Nat) : Prop := ∃ t, PGs X.X es t ∧ LGs X.S t w ss
@[simp] def wgNil : WGs := fun ds ρ ms k => ds = [] ∧ k ρ ms
@[simp] def wgCons (w : WG) (u : WGs) : WGs := fun ds ρ ms k => match ds with
  | d :: r => w d ρ ms fun ρ' ms' => u r ρ' ms' k
  | [] => False
theorem dgs_nil : DGs X [] wgNil [] := ⟨_, pgs_nil, fun W σ ρ ms vs ds Q k hK R O h ⟨e, hk⟩ q => by
  subst e
  cases h
  exact ⟨rfl, q W σ ρ ms (Ext.refl W) O R rfl (fun _ _ => rfl) hk⟩⟩
theorem dgs_cons {e : Expr} {es : List Expr} {w : WG} {u : WGs} {ss ts : List Nat} (h : DG X e w ss) (h' : DGs X es u ts) (hs : (assignEach (e :: es) X.X.env).map (·.2) = assign e X.X.env :: (assignEach es X.X.env).map (·.2) := by rfl) : DGs X (e :: es) (wgCons w u) (ss ++ ts) := by
  obtain ⟨t, p, l⟩ := h
  obtain ⟨t', p', l'⟩ := h'
  refine ⟨_, pgs_cons p p' hs, fun W σ ρ ms vs ds Q k hK R O hd hw q => ?_⟩
  cases hd with
  | nil => exact hw.elim
  | cons hd hr =>
    refine ⟨_, _, rfl, l W σ ρ ms _ _ _ _ hK R O hd hw fun W1 σ1 ρ1 ms1 e1 O1 R1 n1 f1 h1 => ?_⟩
    refine l' W1 σ1 ρ1 ms1 _ _ _ _ (e1.s.trans hK) R1 O1 (up_vs e1 hr) h1 fun W2 σ2 ρ2 ms2 e2 O2 R2 n2 f2 h2 => ?_
    exact q W2 σ2 ρ2 ms2 (e1.trans e2) O2 R2 (n2.trans n1) (fun i hi => (f2 i fun z => hi (List.mem_append_right _ z)).trans (f1 i fun z => hi (List.mem_append_left _ z))) h2
@[simp] def wgTup (n : Nat) (u : WGs) : WG := fun r ρ ms k => match r with
  | .tup ds => ds.length = n ∧ u ds ρ ms k
  | _ => False
theorem dg_tup {es : List Expr} {kk : Nat} {u : WGs} {n : Nat} {ss : List Nat} (hc : X.X.calm = true) (h : DGs X es u ss) (hn : (assignEach es X.X.env).length = n := by rfl) (hst : (assignEach es X.X.env).findIdx? (·.1) = none := by rfl) : DG X (.Tuple es kk pos) (wgTup n u) ss := by
  obtain ⟨t, p, l⟩ := h
  refine ⟨_, pg_tup hc p hn hst, fun W σ ρ ms v r Q k hK R O ok hw q => ?_⟩
  unfold wgTup at hw
  split at hw
  · rename_i ds
    cases ok with
    | tup h1 h2 =>
      rw [show X.X.K = W.K from (congrArg Sg.K hK).symm]
      exact ⟨_, _, rfl, SqT.of (O.ex _ _ h1), by rw [h2.length]; exact hw.1, l W σ ρ ms _ _ _ _ hK R O h2 hw.2 q⟩
  · exact hw.elim
@[simp] def wAsg (we : WE) (wg : WG) : WS := fun E ρ ms => we ρ ms fun r ms1 => wg r ρ ms1 E.nx
theorem ls_asg {S : Sg} {te : TE} {g : TG} {we : WE} {wg : WG} {ss : List Nat} (l : LE S te we) (l' : LG S g wg ss) : LS S (tAsg te g) (wAsg we wg) := fun W σ ρ ms D E hK R O hw ok =>
  l W σ ρ ms _ _ hK R O hw fun W1 v r ms1 e1 O1 ok1 h1 => l' W1 σ ρ ms1 v r _ _ (e1.s.trans hK) (R.mono e1) O1 ok1 h1 fun W2 σ2 ρ2 ms2 e2 O2 R2 _ _ h2 => ok.nx W2 σ2 ρ2 ms2 (e1.trans e2) O2 R2 h2
theorem ds_asg {tg e : Expr} {we : WE} {wg : WG} {ss : List Nat} (h : DE X e we) (h' : DG X tg wg ss) (hs : swapsWithSole [tg] e pos.line X.X.env = pure false := by rfl) (hw : swappedStores [tg] e X.X.env = pure none := by rfl) (h1 : (assignEach [tg] X.X.env).map (·.2) = [assign tg X.X.env] := by rfl) : DS X (.Assign [tg] e pos) (wAsg we wg) := by
  obtain ⟨t, p, l⟩ := h
  obtain ⟨t', p', l'⟩ := h'
  exact ⟨_, ps_asg p p' hs hw h1, ls_asg l l'⟩
theorem ds_set {i : Nat} {x : Str} {e : Expr} {we : WE} {pos' : Pos} (hN : X.X.N.Nodup) (hi : X.X.N[i]? = some x) (hx : Loc X.X.env.scope x) (h : DE X e we) (hs : swapsWith e (some (.Name x pos')) pos.line X.X.env = pure false := by rfl) (hf : X.X.fn x = true ∨ X.X.env.scope.names.lookup x = some .local := by first | exact .inl rfl | exact .inr rfl | assumption) : DS X (.Assign [.Name x pos'] e pos) (wAsg we (wgName i)) := by
  obtain ⟨t, p, l⟩ := h
  exact ⟨_, ps_set hN hi hx p hs hf, ls_asg l (ss := [i]) fun W σ ρ ms v r Q k hK R O ok h q => q W _ _ ms (Ext.refl W) O (R.set ok i) (by rw [List.length_set]) (fun j hj => by rw [List.getElem?_set_ne (fun e => hj (by simp [e]))]) h⟩
@[simp] def wPar (i j : Nat) (wa : WA) : WS := fun E ρ ms => wa ρ ms fun rs ms1 => match rs with
  | [a, b] => E.nx ((ρ.put i a).put j b) ms1
  | _ => False
theorem ls_par {S : Sg} {i j : Nat} {ta : TA} {wa : WA} (l : LA S ta wa) : LS S (tPar i j ta) (wPar i j wa) := fun W σ ρ ms D E hK R O hw ok =>
  l W σ ρ ms _ _ hK R O hw fun W1 vs rs ms1 e1 O1 ok1 h1 => by
    split at h1
    · rename_i a b
      cases ok1 with
      | cons oa o2 =>
        cases o2 with
        | cons ob o3 =>
          cases o3
          exact ⟨_, _, rfl, ok.nx W1 _ _ ms1 e1 O1 (((R.mono e1).set oa i).set ob j) h1⟩
    · exact h1.elim
/-! ### loops -/
@[simp] def forW (wg : WG) (wb : WS) (E : WEnds) : List Dat → Env → Ms → Prop
  | [], ρ, ms => E.nx ρ ms
  | d :: ds, ρ, ms => wg d ρ ms fun ρ1 ms1 => wb { nx := forW wg wb E ds, ct := forW wg wb E ds, bk := E.nx, rt := E.rt } ρ1 ms1
@[simp] def wFor (wi : WI) (wg : WG) (wb : WS) : WS := fun E ρ ms => wi ρ ms fun ds ms1 => forW wg wb E ds ρ ms1
theorem ls_for {S : Sg} {ti : TI} {g : TG} {tb : TS} {wi : WI} {wg : WG} {wb : WS} {ss : List Nat} (li : LI S ti wi) (lg : LG S g wg ss) (lb : LS S tb wb) : LS S (tFor ti g tb) (wFor wi wg wb) := fun W σ ρ ms D E hK R O hw ok =>
  li W σ ρ ms _ _ hK R O hw fun W1 J ds ms1 e1 O1 wk h1 => by
    refine ⟨fun i m σ H => m = ds.length - i ∧ i ≤ ds.length ∧ ∃ W' ρ ms', H = W'.H ∧ Ext W1 W' ∧ Own W' ms' ∧ Rel W' σ ρ ∧ forW wg wb E (ds.drop i) ρ ms', ⟨ds.length, by simp, Nat.zero_le _, W1, ρ, ms1, rfl, Ext.refl _, O1, R.mono e1, h1⟩, ?_⟩
    rintro i m σ' H' ⟨rfl, hi, W', ρ', ms', rfl, e', O', R', hf⟩
    by_cases hlt : i < ds.length
    · have hdrop : ds.drop i = ds[i] :: ds.drop (i + 1) := List.drop_eq_getElem_cons hlt
      rw [hdrop] at hf
      have hget : ds[i]? = some ds[i] := List.getElem?_eq_getElem hlt
      refine .inr ⟨wk.goes W' ms' i e'.e0 O' hlt, fun σ H => ∃ W' ρ ms', H = W'.H ∧ Ext W1 W' ∧ Own W' ms' ∧ Rel W' σ ρ ∧ forW wg wb E (ds.drop (i + 1)) ρ ms', fun σ2 H2 h2 => ⟨ds.length - (i + 1), by omega, rfl, hlt, h2⟩, fun x H2 y => ?_⟩
      obtain ⟨W2, e2, O2, rfl, hd⟩ := wk.yields W' ms' i x H2 _ e'.e0 O' hget y
      refine lg W2 σ' ρ' ms' x ds[i] _ _ (e2.s.trans (e'.s.trans (e1.s.trans hK))) (R'.mono e2) O2 hd hf fun W3 σ3 ρ3 ms3 e3 O3 R3 _ _ h3 => ?_
      have e13 : Ext W1 W3 := (e'.trans e2).trans e3
      have again : ∀ W4 σ4 ρ4 ms4, Ext W3 W4 → Own W4 ms4 → Rel W4 σ4 ρ4 → forW wg wb E (ds.drop (i + 1)) ρ4 ms4 → ∃ W' ρ ms', W4.H = W'.H ∧ Ext W1 W' ∧ Own W' ms' ∧ Rel W' σ4 ρ ∧ forW wg wb E (ds.drop (i + 1)) ρ ms' := fun W4 σ4 ρ4 ms4 e4 O4 R4 h4 =>
        ⟨W4, _, _, rfl, e13.trans e4, O4, R4, h4⟩
      exact lb W3 σ3 ρ3 ms3 _ _ (e13.s.trans (e1.s.trans hK)) R3 O3 h3 ⟨again, fun W4 v r ms4 e4 O4 ok4 h4 => ok.rt W4 v r ms4 ((e1.trans e13).trans e4) O4 ok4 h4, fun W4 σ4 ρ4 ms4 e4 O4 R4 h4 => ok.nx W4 σ4 ρ4 ms4 ((e1.trans e13).trans e4) O4 R4 h4, again⟩
    · have hi' : i = ds.length := by omega
      subst hi'
      rw [List.drop_length] at hf
      exact .inl ⟨wk.stops W' ms' e'.e0 O', ok.nx W' σ' ρ' ms' (e1.trans e') O' R' hf⟩
theorem ds_for {tg iter : Expr} {body : List Stmt} {wi : WI} {wg : WG} {wb : WS} {ss : List Nat} (hp : PassesOwn (model X.X.prog X.X.w) X.X.A X.X.env X.X.xe) (hc : X.X.calm = true) (hi : DI X tg iter wi) (hg : DG X tg wg ss) (hb : DSs X body wb)
    (hs : ∀ x, foldedSetIterable iter X.X.env x = pure x := by intro _; rfl) : DS X (.For tg iter body [] pos) (wFor wi wg wb) := by
  obtain ⟨ti, pi, li⟩ := hi
  obtain ⟨tg', pg, lg⟩ := hg
  obtain ⟨tb, pb, lb⟩ := hb
  exact ⟨_, ps_for hp hc pi pg pb hs, ls_for li lg lb⟩
def whileW (wc : WT) (wb : WS) (E : WEnds) : Nat → Env → Ms → Prop
  | 0, _, _ => False
  | f + 1, ρ, ms => wc ρ ms fun b ms1 => if b = true then wb { nx := whileW wc wb E f, ct := whileW wc wb E f, bk := E.nx, rt := E.rt } ρ ms1 else E.nx ρ ms1
@[simp] def wWhile (wc : WT) (wb : WS) : WS := fun E ρ ms => ∃ f, whileW wc wb E f ρ ms
theorem ds_while {c : Expr} {body : List Stmt} {wc : WT} {wb : WS} (hp : PassesOwn (model X.X.prog X.X.w) X.X.A X.X.env X.X.xe) (hc : DTt X c wc) (hb : DSs X body wb) : DS X (.While c body [] pos) (wWhile wc wb) := by
  obtain ⟨tc, pc, lc⟩ := hc
  obtain ⟨tb, pb, lb⟩ := hb
  refine ⟨_, ps_while hp pc pb, fun W σ ρ ms D E hK R O ⟨f0, hw⟩ ok => ?_⟩
  refine ⟨fun m σ H => ∃ W' ρ ms', H = W'.H ∧ Ext W W' ∧ Own W' ms' ∧ Rel W' σ ρ ∧ whileW wc wb E m ρ ms', ⟨f0, W, ρ, ms, rfl, Ext.refl _, O, R, hw⟩, ?_⟩
  rintro m σ' H' ⟨W', ρ', ms', rfl, e', O', R', hf⟩
  cases m with
  | zero => exact hf.elim
  | succ f =>
    refine lc W' σ' ρ' ms' _ _ (e'.s.trans hK) R' O' hf fun W1 b ms1 e1 O1 h1 => ?_
    cases b with
    | true =>
      refine ⟨fun σ H => ∃ W' ρ ms', H = W'.H ∧ Ext W W' ∧ Own W' ms' ∧ Rel W' σ ρ ∧ whileW wc wb E f ρ ms', fun σ2 H2 h2 => ⟨f, Nat.lt_succ_self _, h2⟩, ?_⟩
      have e01 : Ext W W1 := e'.trans e1
      have again : ∀ W4 σ4 ρ4 ms4, Ext W1 W4 → Own W4 ms4 → Rel W4 σ4 ρ4 → whileW wc wb E f ρ4 ms4 → ∃ W' ρ ms', W4.H = W'.H ∧ Ext W W' ∧ Own W' ms' ∧ Rel W' σ4 ρ ∧ whileW wc wb E f ρ ms' := fun W4 σ4 ρ4 ms4 e4 O4 R4 h4 =>
        ⟨W4, _, _, rfl, e01.trans e4, O4, R4, h4⟩
      exact lb W1 σ' ρ' ms1 _ _ (e01.s.trans hK) (R'.mono e1) O1 h1 ⟨again, fun W4 v r ms4 e4 O4 ok4 h4 => ok.rt W4 v r ms4 (e01.trans e4) O4 ok4 h4, fun W4 σ4 ρ4 ms4 e4 O4 R4 h4 => ok.nx W4 σ4 ρ4 ms4 (e01.trans e4) O4 R4 h4, again⟩
    | false => exact ok.nx W1 σ' ρ' ms1 (e'.trans e1) O1 (R'.mono e1) h1
/-! ### what is walked -/
theorem walk_lst {W : Wd} {ms : Ms} {K : PySem.W.Frag} (O : Own W ms) {a : Addr} {xs : List V} {ds : List Dat} (h : W.G a = some (.lst xs)) (hd : RvsOk W xs ds) : WalkD W (Itl K a) ds := by
  have hH : ∀ W' ms', Ext0 W W' → Own W' ms' → W'.H a = some (.lst xs) := fun W' ms' e O' => O'.ex _ _ (e.ex _ _ h)
  refine ⟨fun W' ms' i e O' hi => ?_, fun W' ms' e O' => ⟨xs, SqL.of (hH W' ms' e O'), by rw [hd.length]; exact Nat.le_refl _⟩, fun W' ms' i x H' d e O' hget y => ?_⟩
  · obtain ⟨v, hv, _⟩ := hd.get (List.getElem?_eq_getElem hi)
    exact ⟨xs, v, SqL.of (hH W' ms' e O'), hv⟩
  · obtain ⟨rfl, y⟩ := y
    have hx := y xs (SqL.of (hH W' ms' e O'))
    obtain ⟨v, hv, ok⟩ := hd.get hget
    rw [hx] at hv; cases hv
    exact ⟨W', Ext.refl _, O', rfl, low_v e.low ok⟩
theorem walk_tp {W : Wd} {ms : Ms} {K : PySem.W.Frag} (O : Own W ms) {a : Addr} {xs : List V} {ds : List Dat} (h : W.G a = some (.tup xs)) (hd : RvsOk W xs ds) : WalkD W (Itt K a) ds := by
  have hH : ∀ W' ms', Ext0 W W' → Own W' ms' → W'.H a = some (.tup xs) := fun W' ms' e O' => O'.ex _ _ (e.ex _ _ h)
  refine ⟨fun W' ms' i e O' hi => ?_, fun W' ms' e O' => ⟨xs, SqT.of (hH W' ms' e O'), by rw [hd.length]; exact Nat.le_refl _⟩, fun W' ms' i x H' d e O' hget y => ?_⟩
  · obtain ⟨v, hv, _⟩ := hd.get (List.getElem?_eq_getElem hi)
    exact ⟨xs, v, SqT.of (hH W' ms' e O'), hv⟩
  · obtain ⟨rfl, y⟩ := y
    have hx := y xs (SqT.of (hH W' ms' e O'))
    obtain ⟨v, hv, ok⟩ := hd.get hget
    rw [hx] at hv; cases hv
    exact ⟨W', Ext.refl _, O', rfl, low_v e.low ok⟩
/-- a list, a tuple -/
@[simp] def wiSeq (we : WE) : WI := fun ρ ms k => we ρ ms fun r ms1 => match r with
  | .lst ds => k ds ms1
  | .tup ds => k ds ms1
  | _ => False
def iSeqA (K : PySem.W.Frag) (tl : TE) : TI := fun σ H R => tl σ H fun x H1 => ∃ a, x = .ref a ∧ (((∃ xs, SqL K H1 a xs) ∧ R (Itl K a) H1) ∨ ((∃ xs, SqT K H1 a xs) ∧ R (Itt K a) H1))
theorem pi_seqA {tg l : Expr} {tl : TE} (hl : PE X.X l tl) : PI X.X tg l (iSeqA X.X.K tl) := by
  refine ⟨fun pins s σ H R I h => ?_⟩
  refine thn (hl.run pins s σ H _ I h) fun v s1 ⟨x, H1, I1, r1, q1⟩ => ?_
  obtain ⟨a, e, q1⟩ := q1
  subst e
  cases r1
  rcases q1 with ⟨⟨xs, hq⟩, q⟩ | ⟨⟨xs, hq⟩, q⟩
  · obtain ⟨its, rv, p, hz⟩ := I1.list hq
    refine wpAny_pyIter_list p.isList ?_
    refine ⟨s1.heap.objs.size, [s1.heap.objs.size], _, _, H1, rfl, I1.kept (t' := s1.toks) fun b o e => Heap.get?_push_of_some _ e, turn_list a _, ⟨_, Heap.get?_push_size _ rfl, rfl, rfl⟩, fun b hb => ?_, q⟩
    have e : b = s1.heap.objs.size := by simpa using hb
    subst e
    exact I1.fpOk (Nat.le_refl _) (I1.hok.fresh (Nat.le_refl _))
  · obtain ⟨its, rv, p, hz⟩ := I1.tuple hq
    refine wpAny_pyIter_tuple (show s1.heap.IsTuple a its.toArray from p) ?_
    refine ⟨s1.heap.objs.size, [s1.heap.objs.size], _, _, H1, rfl, I1.kept (t' := s1.toks) fun b o e => Heap.get?_push_of_some _ e, turn_tuple a _, ⟨_, Heap.get?_push_size _ rfl, rfl, rfl⟩, fun b hb => ?_, q⟩
    have e : b = s1.heap.objs.size := by simpa using hb
    subst e
    exact I1.fpOk (Nat.le_refl _) (I1.hok.fresh (Nat.le_refl _))
theorem di_seq {tg l : Expr} {we : WE} (h : DE X l we) : DI X tg l (wiSeq we) := by
  obtain ⟨t, p, le⟩ := h
  refine ⟨_, pi_seqA p, fun W σ ρ ms R k hK Rl O hw q => ?_⟩
  refine le W σ ρ ms _ _ hK Rl O hw fun W1 v r ms1 e1 O1 ok1 h1 => ?_
  split at h1
  · rename_i ds
    cases ok1 with
    | lst h2 h3 => exact ⟨_, rfl, .inl ⟨⟨_, SqL.of (O1.ex _ _ h2)⟩, q W1 _ ds ms1 e1 O1 (walk_lst O1 h2 h3) h1⟩⟩
  · rename_i ds
    cases ok1 with
    | tup h2 h3 => exact ⟨_, rfl, .inr ⟨⟨_, SqT.of (O1.ex _ _ h2)⟩, q W1 _ ds ms1 e1 O1 (walk_tp O1 h2 h3) h1⟩⟩
  · exact h1.elim
/-- range(n) -/
def rngD (lo : Int) (n : Nat) : List Dat := (List.range n).map fun (i : Nat) => .int (lo + (i : Int))
theorem walk_rng {W : Wd} {lo : Int} {n : Nat} : WalkD W (Itr lo n) (rngD lo n) := by
  have hl : (rngD lo n).length = n := by unfold rngD; rw [List.length_map, List.length_range]
  refine ⟨fun W' ms' i e O' hi => by rw [hl] at hi; exact hi, fun W' ms' e O' => by rw [hl]; exact Nat.le_refl _, fun W' ms' i x H' d e O' hget y => ?_⟩
  obtain ⟨rfl, rfl⟩ := y
  have hi : i < n := by
    have := (List.getElem?_eq_some_iff.mp hget).1
    rw [hl] at this; exact this
  have hd : d = .int (lo + (i : Int)) := by
    unfold rngD at hget
    rw [List.getElem?_map, List.getElem?_range hi] at hget
    exact (Option.some.inj hget).symm
  subst hd
  exact ⟨W', Ext.refl _, O', rfl, .int _⟩
@[simp] def wiRng1 (wa : WA) : WI := fun ρ ms k => wa ρ ms fun rs ms1 => match rs with
  | [.int j] => -(2 ^ 62) ≤ j ∧ j < 2 ^ 62 ∧ k (rngD 0 j.toNat) ms1
  | _ => False
theorem di_range1 {tg a : Expr} {wa : WA} {p : Pos} (hg : Gl X.X "range") (hm : X.X.mg "range" = none) (ha : DA X [a] wa) (hs : starEach [a] X.X.env = [(false, eval a X.X.env)] := by rfl) : DI X tg (.Call (.Name "range" p) [a] [] pos) (wiRng1 wa) := by
  obtain ⟨t, pp, l⟩ := ha
  refine ⟨_, pi_range1 hg hm pp hs, fun W σ ρ ms R k hK Rl O hw q => l W σ ρ ms _ _ hK Rl O hw fun W1 vs rs ms1 e1 O1 ok1 h1 => ?_⟩
  split at h1
  · rename_i j
    cases ok1 with
    | cons o1 o2 =>
      cases o2
      cases o1
      exact ⟨j, rfl, h1.1, h1.2.1, q W1 _ _ ms1 e1 O1 walk_rng h1.2.2⟩
  · exact h1.elim
@[simp] def wiRng2 (wa : WA) : WI := fun ρ ms k => wa ρ ms fun rs ms1 => match rs with
  | [.int i, .int j] => (-(2 ^ 62) ≤ i ∧ i < 2 ^ 62 ∧ -(2 ^ 62) ≤ j ∧ j < 2 ^ 62) ∧ k (rngD i (j - i).toNat) ms1
  | _ => False
end
end Sy
namespace Sy
open PySem L2
/-! ## within a comprehension nothing is let out -/
def never : WX := fun _ _ _ _ => False
def neverX : KX := fun _ _ _ _ => False
/-- the same world with another wish -/
def Wd.wish (W : Wd) (Z : WX) : Wd := { W with S := { W.S with Z := Z } }
theorem wish_low {W : Wd} {Z : WX} : Low W (W.wish Z) := ⟨rfl, Same.refl _, fun _ _ h => h⟩
theorem wish_e0 {W : Wd} {Z : WX} : Ext0 W (W.wish Z) := ⟨rfl, Same.refl _, fun _ _ h => h, fun _ _ _ h => h⟩
theorem Own.wish {W : Wd} {ms : Ms} (O : Own W ms) {Z : WX} : Own (W.wish Z) ms :=
  ⟨O.ex, O.len, O.inj, O.all, O.px, O.pg, O.pl, fun i c e n => let ⟨a, o, h1, h2, h3, h4⟩ := O.cell i c e n; ⟨a, o, h1, h2, h3, h4.low wish_low⟩⟩
theorem never_x {W : Wd} : XOk W neverX := fun _ _ _ _ _ _ _ _ _ _ _ _ _ z => z.elim
def Sg.nv (S : Sg) : Sg := { S with Z := never }
@[simp] def wipeE (ρ : Env) (vs : List Nat) : Env := ⟨vs.foldr (fun v sl => sl.set v none) ρ.sl, neverX, ρ.xc, ρ.xf⟩
theorem RelS.wipe {W : Wd} {σ : L2.St} {ρ : Sl} (R : RelS W σ ρ) : ∀ vs : List Nat, RelS W (L2.wipe σ vs) (vs.foldr (fun v sl => sl.set v none) ρ)
  | [] => R
  | v :: vs => RelS.unset v (RelS.wipe R vs)
theorem wipe_get {σ : L2.St} {i : Nat} : ∀ {vs : List Nat}, (L2.wipe σ vs)[i]? = if i ∈ vs then (if i < σ.length then some none else none) else σ[i]?
  | [] => by simp [L2.wipe]
  | v :: vs => by
    unfold L2.wipe
    by_cases h : v = i
    · subst h
      rw [if_pos List.mem_cons_self]
      by_cases hl : v < σ.length
      · rw [if_pos hl, List.getElem?_set_self (by rw [wipe_length]; exact hl)]
      · rw [if_neg hl, List.getElem?_eq_none (by rw [List.length_set, wipe_length]; omega)]
    · rw [List.getElem?_set_ne h, wipe_get]
      by_cases h2 : i ∈ vs
      · rw [if_pos h2, if_pos (List.mem_cons_of_mem _ h2)]
      · rw [if_neg h2, if_neg (by intro q; rcases List.mem_cons.mp q with z | z; exact h z.symm; exact h2 z)]
theorem wipe_same {σ σ' : L2.St} {vs ss : List Nat} (hs : ∀ i ∈ ss, i ∈ vs) (hl : σ'.length = (L2.wipe σ vs).length) (h : ∀ i, i ∉ ss → σ'[i]? = (L2.wipe σ vs)[i]?) : L2.wipe σ' vs = L2.wipe σ vs := by
  rw [wipe_length] at hl
  apply List.ext_getElem?
  intro i
  rw [wipe_get, wipe_get, hl]
  by_cases hi : i ∈ vs
  · rw [if_pos hi, if_pos hi]
  · rw [if_neg hi, if_neg hi, h i fun z => hi (hs i z), wipe_get, if_neg hi]
theorem upd_upd' {H : Hp} {D : Addr} {o u : HO} : upd (upd H D o) D u = upd H D u := upd_upd
/-- a thing D that is held from W1 on -/
structure Held (W1 W' : Wd) (D : Addr) (o : HO) : Prop where
  new : W1.H D = none
  gn : W1.G D = none
  pn : W1.P D = none
  e0 : Ext0 W1 W'
  p : W'.P = upd W1.P D o
theorem Held.at {W1 W' : Wd} {D : Addr} {o : HO} {ms : Ms} (h : Held W1 W' D o) (O : Own W' ms) : W'.H D = some o := O.px _ _ (by rw [h.p]; exact upd_same)
theorem Held.g {W1 W' : Wd} {D : Addr} {o : HO} {ms : Ms} (h : Held W1 W' D o) (O : Own W' ms) : W'.G D = none := O.pg _ o (by rw [h.p]; exact upd_same)
theorem Held.l {W1 W' : Wd} {D : Addr} {o : HO} {ms : Ms} (h : Held W1 W' D o) (O : Own W' ms) : ∀ (i : Nat) a, W'.A[i]? = some a → a ≠ D := fun i a ha z => by
  have := O.pl i a ha
  rw [h.p, z, upd_same] at this; cases this
theorem Held.on {W1 W' W2 : Wd} {D : Addr} {o : HO} (h : Held W1 W' D o) (e : Ext W' W2) : Held W1 W2 D o := ⟨h.new, h.gn, h.pn, h.e0.trans e.e0, e.p.trans h.p⟩
/-- D is written -/
theorem Held.put {W1 W' : Wd} {D : Addr} {o u : HO} {ms : Ms} (h : Held W1 W' D o) (O : Own W' ms) : Held W1 (W'.hold D u) D u ∧ Own (W'.hold D u) ms := by
  refine ⟨⟨h.new, h.gn, h.pn, ⟨h.e0.k, h.e0.ex, h.e0.adr, fun a ob v e => ?_⟩, ?_⟩, O.hold (h.g O) (h.l O)⟩
  · show upd W'.H D u a = _
    rw [upd_ne (ne_of_none e h.new)]; exact h.e0.frz a ob v e
  · show upd W'.P D u = _
    rw [h.p, upd_upd]
theorem Held.start {W1 W0 : Wd} {D : Addr} {o : HO} {ms : Ms} (O1 : Own W1 ms) (hD : W1.H D = none) : Held W1 (W1.hold D o) D o ∧ Own (W1.hold D o) ms := by
  refine ⟨⟨hD, O1.gnone hD, O1.pnone hD, ⟨rfl, Same.refl _, fun _ _ x => x, fun a ob v e => ?_⟩, rfl⟩, O1.hold (O1.gnone hD) fun i a ha => O1.fresh hD ha⟩
  show upd W1.H D o a = _
  rw [upd_ne (ne_of_none e hD)]; exact e
/-- behind: it stays as it is -/
def Wd.laid (W' : Wd) (S : Sg) (P : Hp) (D : Addr) (o : HO) : Wd := { W' with S := S, P := P, G := upd W'.G D o, H := upd W'.H D o }
theorem Held.lay {W1 W' : Wd} {D : Addr} {o u : HO} {ms : Ms} (h : Held W1 W' D o) (O : Own W' ms) (hk : W'.K = W1.K) : Ext W1 (W'.laid W1.S W1.P D u) ∧ Own (W'.laid W1.S W1.P D u) ms ∧ Low W' (W'.laid W1.S W1.P D u) := by
  have g := h.g O
  have low : Low W' (W'.laid W1.S W1.P D u) := ⟨hk.symm, same_new g, fun _ _ x => x⟩
  have pD : ∀ a v, W1.P a = some v → a ≠ D := fun a v e => ne_of_none e h.pn
  have pW : ∀ a v, W1.P a = some v → W'.P a = some v := fun a v e => by rw [h.p, upd_ne (pD a v e)]; exact e
  refine ⟨⟨rfl, h.e0.ex.trans (same_new g), h.e0.adr, fun a ob v e => ?_, rfl⟩, ⟨fun a v e => ?_, O.len, O.inj, fun i a e => ?_, fun a v e => ?_, fun a v e => ?_, fun i a e => ?_, fun i c e n => ?_⟩, low⟩
  · show upd W'.H D u a = _
    rw [upd_ne (ne_of_none e h.new)]; exact h.e0.frz a ob v e
  · show upd W'.H D u a = some v
    by_cases z : a = D
    · subst z; rw [show (W'.laid W1.S W1.P a u).G a = some u from upd_same] at e; cases e; exact upd_same
    · rw [upd_ne z]; exact O.ex a v (upd_back z e)
  · obtain ⟨v, hv⟩ := O.all i a e
    exact ⟨v, by show upd W'.H D u a = _; rw [upd_ne (h.l O i a e)]; exact hv⟩
  · show upd W'.H D u a = some v
    rw [upd_ne (pD a v e)]; exact O.px a v (pW a v e)
  · show upd W'.G D u a = none
    rw [upd_ne (pD a v e)]; exact O.pg a v (pW a v e)
  · have := O.pl i a e
    rw [h.p, upd_ne (h.l O i a e)] at this; exact this
  · obtain ⟨a, v, ha, hg, hv, k⟩ := O.cell i c e n
    have z := h.l O i a ha
    exact ⟨a, v, ha, by show upd W'.G D u a = none; rw [upd_ne z]; exact hg, by show upd W'.H D u a = _; rw [upd_ne z]; exact hv, k.low low⟩
/-- behind: it has a label -/
def Wd.labl (W' : Wd) (S : Sg) (P : Hp) (D : Addr) (o : HO) : Wd := { W' with S := S, P := P, A := W'.A ++ [D], H := upd W'.H D o }
theorem Held.take {W1 W' : Wd} {D : Addr} {o u : HO} {ms : Ms} {c : Cell} (h : Held W1 W' D o) (O : Own W' ms) (hk : W'.K = W1.K) (hc : CObj (W'.labl W1.S W1.P D u) c u) : Ext W1 (W'.labl W1.S W1.P D u) ∧ Own (W'.labl W1.S W1.P D u) (ms ++ [c]) ∧ RvOk (W'.labl W1.S W1.P D u) (.ref D) (.own ms.length) := by
  have g := h.g O
  have adr : ∀ (i : Nat) a, W'.A[i]? = some a → (W'.A ++ [D])[i]? = some a := fun i a e => by rw [List.getElem?_append_left (List.getElem?_eq_some_iff.mp e).1]; exact e
  have low : Low W' (W'.labl W1.S W1.P D u) := ⟨hk.symm, Same.refl _, adr⟩
  have pD : ∀ a v, W1.P a = some v → a ≠ D := fun a v e => ne_of_none e h.pn
  have pW : ∀ a v, W1.P a = some v → W'.P a = some v := fun a v e => by rw [h.p, upd_ne (pD a v e)]; exact e
  have at_ : ∀ {i : Nat} {a : Addr}, (W'.A ++ [D])[i]? = some a → (W'.A[i]? = some a) ∨ (i = W'.A.length ∧ a = D) := fun {i a} e => by
    by_cases z : i < W'.A.length
    · rw [List.getElem?_append_left z] at e; exact .inl e
    · have hi : i = W'.A.length := by
        have := (List.getElem?_eq_some_iff.mp e).1
        rw [List.length_append, List.length_singleton] at this; omega
      subst hi
      rw [List.getElem?_append_right (Nat.le_refl _), Nat.sub_self] at e
      cases e
      exact .inr ⟨rfl, rfl⟩
  refine ⟨⟨rfl, h.e0.ex, fun i a e => adr i a (h.e0.adr i a e), fun a ob v e => ?_, rfl⟩, ⟨fun a v e => ?_, by show (W'.A ++ [D]).length = _; rw [List.length_append, List.length_append, O.len]; rfl, fun i j a e1 e2 => ?_, fun i a e => ?_, fun a v e => ?_, fun a v e => O.pg a v (pW a v e), fun i a e => ?_, fun i c' e n => ?_⟩, ?_⟩
  · show upd W'.H D u a = _
    rw [upd_ne (ne_of_none e h.new)]; exact h.e0.frz a ob v e
  · show upd W'.H D u a = some v
    rw [upd_ne (ne_of_none e g)]; exact O.ex a v e
  · rcases at_ e1 with e1 | ⟨rfl, rfl⟩ <;> rcases at_ e2 with e2 | ⟨rfl, q⟩
    · exact O.inj i j a e1 e2
    · exact absurd q (h.l O i a e1)
    · exact absurd rfl (h.l O _ _ e2)
    · rfl
  · rcases at_ e with e | ⟨_, rfl⟩
    · obtain ⟨v, hv⟩ := O.all i a e
      exact ⟨v, by show upd W'.H D u a = _; rw [upd_ne (h.l O i a e)]; exact hv⟩
    · exact ⟨u, upd_same⟩
  · show upd W'.H D u a = some v
    rw [upd_ne (pD a v e)]; exact O.px a v (pW a v e)
  · rcases at_ e with e | ⟨_, rfl⟩
    · have := O.pl i a e
      rw [h.p, upd_ne (h.l O i a e)] at this; exact this
    · exact h.pn
  · by_cases z : i < ms.length
    · rw [List.getElem?_append_left z] at e
      obtain ⟨a, v, ha, hg, hv, k⟩ := O.cell i c' e n
      exact ⟨a, v, adr i a ha, hg, by show upd W'.H D u a = _; rw [upd_ne (h.l O i a ha)]; exact hv, k.low low⟩
    · have hi : i = ms.length := by
        have := (List.getElem?_eq_some_iff.mp e).1
        rw [List.length_append, List.length_singleton] at this; omega
      subst hi
      rw [List.getElem?_append_right (Nat.le_refl _), Nat.sub_self] at e
      cases e
      refine ⟨D, u, ?_, g, upd_same, hc⟩
      show (W'.A ++ [D])[ms.length]? = _
      rw [List.getElem?_append_right (by rw [O.len]; exact Nat.le_refl _), O.len, Nat.sub_self]; rfl
  · exact .own (by show (W'.A ++ [D])[ms.length]? = _; rw [← O.len, List.getElem?_append_right (Nat.le_refl _), Nat.sub_self]; rfl)
/-! ## comprehensions -/
@[simp] def lcW (wg : WG) (wt : WT) (we : WE) (ρ : Env) (k : List Dat → Ms → Prop) : List Dat → List Dat → Ms → Prop
  | [], acc, ms => k acc ms
  | d :: ds, acc, ms => wg d ρ ms fun ρ1 ms1 => wt ρ1 ms1 fun b ms2 => if b = true then we ρ1 ms2 fun y ms3 => acc.length < sizeLine ∧ lcW wg wt we ρ k ds (acc ++ [y]) ms3 else lcW wg wt we ρ k ds acc ms2
@[simp] def wLc (wi : WI) (wg : WG) (wt : WT) (we : WE) (vs : List Nat) : WE := fun ρ ms k => wi ρ ms fun ds ms1 => lcW wg wt we (wipeE ρ vs) (fun acc ms2 => k (.lst acc) ms2) ds [] ms1
@[simp] def wLcO (wi : WI) (wg : WG) (wt : WT) (we : WE) (vs : List Nat) : WE := fun ρ ms k => wi ρ ms fun ds ms1 => lcW wg wt we (wipeE ρ vs) (fun acc ms2 => k (.own ms2.length) (ms2 ++ [.lst acc])) ds [] ms1
theorem lc_go {S : Sg} {ti : TI} {g : TG} {tt : TT} {te : TE} {wi : WI} {wg : WG} {wt : WT} {we : WE} {vs ss : List Nat} (hss : ∀ i ∈ ss, i ∈ vs) (li : LI S ti wi) (lg : LG (S.nv) g wg ss) (lt : LT (S.nv) tt wt) (le : LE (S.nv) te we)
    (W : Wd) (σ : L2.St) (ρ : Env) (ms : Ms) (Q : VK) (kf : List Dat → Ms → Prop) (hK : W.S = S) (R : Rel W σ ρ) (O : Own W ms) (hw : wi ρ ms fun ds ms1 => lcW wg wt we (wipeE ρ vs) kf ds [] ms1)
    (q : ∀ W1 W' ms' D xs acc, Ext W W1 → Held W1 W' D (.lst xs) → W'.K = W1.K → Own W' ms' → RvsOk W' xs acc → kf acc ms' → Q (.ref D) W'.H) : tLc ti g tt te vs σ W.H Q := by
  refine li W σ ρ ms _ _ hK R O hw fun W1 J ds ms1 e1 O1 wk h1 => ?_
  intro D hD
  have hS1 : W1.S = S := e1.s.trans hK
  obtain ⟨hd0, Oh0⟩ := Held.start (W0 := W1) (o := .lst []) O1 hD
  refine ⟨fun i m H => m = ds.length - i ∧ i ≤ ds.length ∧ ∃ W' ms' xs acc, H = W'.H ∧ W'.S = (S.nv) ∧ Held W1 W' D (.lst xs) ∧ Own W' ms' ∧ RvsOk W' xs acc ∧ lcW wg wt we (wipeE ρ vs) kf (ds.drop i) acc ms',
    ⟨ds.length, by simp, Nat.zero_le _, (W1.hold D (.lst [])).wish never, ms1, [], [], rfl, by show ({ W1.S with Z := never } : Sg) = _; rw [hS1]; rfl, ⟨hd0.new, hd0.gn, hd0.pn, hd0.e0.trans wish_e0, hd0.p⟩, Oh0.wish, .nil, h1⟩, ?_⟩
  rintro i m H' ⟨rfl, hi, W', ms', xs, acc, rfl, hS, hh, O', hacc, hf⟩
  have hk' : W'.K = W1.K := by show W'.S.K = W1.S.K; rw [hS, hS1]; rfl
  by_cases hlt : i < ds.length
  · rw [List.drop_eq_getElem_cons hlt] at hf
    refine .inr ⟨wk.goes W' ms' i hh.e0 O' hlt, fun H => ∃ W' ms' xs acc, H = W'.H ∧ W'.S = (S.nv) ∧ Held W1 W' D (.lst xs) ∧ Own W' ms' ∧ RvsOk W' xs acc ∧ lcW wg wt we (wipeE ρ vs) kf (ds.drop (i + 1)) acc ms', fun H2 h2 => ⟨ds.length - (i + 1), by omega, rfl, hlt, h2⟩, fun x H2 y => ?_⟩
    obtain ⟨W2, e2, O2, rfl, hd⟩ := wk.yields W' ms' i x H2 _ hh.e0 O' (List.getElem?_eq_getElem hlt) y
    have RS : RelS W2 (L2.wipe σ vs) (wipeE ρ vs).sl := (((R.sl.low e1.low).low hh.e0.low).low e2.low).wipe vs
    refine lg W2 (L2.wipe σ vs) (wipeE ρ vs) ms' x ds[i] _ _ (e2.s.trans hS) ⟨RS, never_x, ((R.hd.low e1.low (by rw [e1.s])).low (hh.e0.low) (by rw [hS, hS1]; rfl)).low e2.low (by rw [e2.s])⟩ O2 hd hf fun W3 σ3 ρ3 ms3 e3 O3 R3 n3 f3 h3 => ?_
    refine ⟨wipe_same hss n3 f3, ?_⟩
    refine lt W3 σ3 ρ3 ms3 _ _ (e3.s.trans (e2.s.trans hS)) R3 O3 h3 fun W4 b ms4 e4 O4 h4 => ?_
    have e24 : Ext W' W4 := (e2.trans e3).trans e4
    cases b with
    | false =>
      rw [if_neg Bool.false_ne_true] at h4 ⊢
      exact ⟨W4, ms4, xs, acc, rfl, e24.s.trans hS, hh.on e24, O4, up_vs e24 hacc, h4⟩
    | true =>
      rw [if_pos rfl] at h4 ⊢
      refine le W4 σ3 ρ3 ms4 _ _ (e24.s.trans hS) (R3.mono e4) O4 h4 fun W5 v r ms5 e5 O5 ok5 h5 => ?_
      have e25 : Ext W' W5 := e24.trans e5
      have hh5 := hh.on e25
      have ha5 := up_vs e25 hacc
      obtain ⟨hh6, O6⟩ := hh5.put (u := .lst (xs ++ [v])) O5
      refine ⟨xs, hh5.at O5, by rw [ha5.length]; exact h5.1, W5.hold D (.lst (xs ++ [v])), ms5, xs ++ [v], acc ++ [r], rfl, e25.s.trans hS, hh6, O6, ?_, h5.2⟩
      exact low_vs hold_low (Dts.append ha5 (.cons ok5 .nil))
  · have hi' : i = ds.length := by omega
    subst hi'
    rw [List.drop_length] at hf
    exact .inl ⟨wk.stops W' ms' hh.e0 O', q W1 W' ms' D xs acc e1 hh hk' O' hacc hf⟩
theorem upd_id {H : Hp} {D : Addr} {o : HO} (h : H D = some o) : upd H D o = H := by
  funext b; unfold upd; split
  · rename_i e; rw [e, h]
  · rfl
theorem le_lc {S : Sg} {ti : TI} {g : TG} {tt : TT} {te : TE} {wi : WI} {wg : WG} {wt : WT} {we : WE} {vs ss : List Nat} (hss : ∀ i ∈ ss, i ∈ vs) (li : LI S ti wi) (lg : LG (S.nv) g wg ss) (lt : LT (S.nv) tt wt) (le : LE (S.nv) te we) : LE S (tLc ti g tt te vs) (wLc wi wg wt we vs) :=
  fun W σ ρ ms Q k hK R O hw q => lc_go hss li lg lt le W σ ρ ms Q _ hK R O hw fun W1 W' ms' D xs acc e1 hh hk O' ha hkf => by
    obtain ⟨e, O2, low⟩ := hh.lay (u := .lst xs) O' hk
    have := q (W'.laid W1.S W1.P D (.lst xs)) (.ref D) (.lst acc) ms' (e1.trans e) O2 (.lst upd_same (low_vs low ha)) hkf
    have z : (W'.laid W1.S W1.P D (.lst xs)).H = W'.H := upd_id (hh.at O')
    rw [z] at this; exact this
theorem le_lcO {S : Sg} {ti : TI} {g : TG} {tt : TT} {te : TE} {wi : WI} {wg : WG} {wt : WT} {we : WE} {vs ss : List Nat} (hss : ∀ i ∈ ss, i ∈ vs) (li : LI S ti wi) (lg : LG (S.nv) g wg ss) (lt : LT (S.nv) tt wt) (le : LE (S.nv) te we) : LE S (tLc ti g tt te vs) (wLcO wi wg wt we vs) :=
  fun W σ ρ ms Q k hK R O hw q => lc_go hss li lg lt le W σ ρ ms Q _ hK R O hw fun W1 W' ms' D xs acc e1 hh hk O' ha hkf => by
    have low : Low W' (W'.labl W1.S W1.P D (.lst xs)) := ⟨hk.symm, Same.refl _, fun i a e => by show (W'.A ++ [D])[i]? = some a; rw [List.getElem?_append_left (List.getElem?_eq_some_iff.mp e).1]; exact e⟩
    obtain ⟨e, O2, ok⟩ := hh.take (u := .lst xs) (c := .lst acc) O' hk ⟨xs, rfl, low_vs low ha⟩
    have := q (W'.labl W1.S W1.P D (.lst xs)) (.ref D) (.own ms'.length) _ (e1.trans e) O2 ok hkf
    have z : (W'.labl W1.S W1.P D (.lst xs)).H = W'.H := upd_id (hh.at O')
    rw [z] at this; exact this
/-! ## one reading for each -/
def teOf (S : Sg) (w : WE) : TE := fun σ H Q => ∃ (W : Wd) (ρ : Env) (ms : Ms) (k : KR), W.H = H ∧ W.S = S ∧ Rel W σ ρ ∧ Own W ms ∧ w ρ ms k ∧ ∀ W' v r ms', Ext W W' → Own W' ms' → RvOk W' v r → k r ms' → Q v W'.H
def ttOf (S : Sg) (w : WT) : TT := fun σ H Q => ∃ (W : Wd) (ρ : Env) (ms : Ms) (k : Bool → Ms → Prop), W.H = H ∧ W.S = S ∧ Rel W σ ρ ∧ Own W ms ∧ w ρ ms k ∧ ∀ W' b ms', Ext W W' → Own W' ms' → k b ms' → Q b W'.H
def tgOf (S : Sg) (w : WG) (ss : List Nat) : TG := fun v σ H Q => ∃ (W : Wd) (ρ : Env) (ms : Ms) (r : Dat) (k : Env → Ms → Prop), W.H = H ∧ W.S = S ∧ Rel W σ ρ ∧ Own W ms ∧ RvOk W v r ∧ w r ρ ms k ∧
  ∀ W' σ' ρ' ms', Ext W W' → Own W' ms' → Rel W' σ' ρ' → σ'.length = σ.length → (∀ i, i ∉ ss → σ'[i]? = σ[i]?) → k ρ' ms' → Q σ' W'.H
def DTs (X : Cy) (es : List Expr) (w : WT) : Prop := ∃ t, PTs X.X es t ∧ LT X.S t w
section
variable {X : Cy} {pos : Pos}
theorem DE.pe {e : Expr} {w : WE} (h : DE X e w) : PE X.X e (teOf X.S w) := by
  obtain ⟨t, p, l⟩ := h
  exact ⟨fun pins s σ H Q I ⟨W, ρ, ms, k, hH, hK, R, O, hw, q⟩ => p.run pins s σ H Q I (by rw [← hH]; exact l W σ ρ ms Q k hK R O hw q)⟩
theorem DTs.pts {es : List Expr} {w : WT} (h : DTs X es w) : PTs X.X es (ttOf X.S w) := by
  obtain ⟨t, p, l⟩ := h
  exact ⟨fun pins s σ H Q I ⟨W, ρ, ms, k, hH, hK, R, O, hw, q⟩ => p.run pins s σ H Q I (by rw [← hH]; exact l W σ ρ ms Q k hK R O hw q)⟩
theorem DG.pg {e : Expr} {w : WG} {ss : List Nat} (h : DG X e w ss) : PG X.X e (tgOf X.S w ss) := by
  obtain ⟨t, p, l⟩ := h
  exact ⟨fun pins s σ H v u Q I r ⟨W, ρ, ms, rv, k, hH, hK, R, O, ok, hw, q⟩ => p.run pins s σ H v u Q I r (by rw [← hH]; exact l W σ ρ ms v rv Q k hK R O ok hw q)⟩
theorem le_of {S : Sg} {w : WE} : LE S (teOf S w) w := fun W σ ρ ms Q k hK R O hw q => ⟨W, ρ, ms, k, rfl, hK, R, O, hw, q⟩
theorem lt_of {S : Sg} {w : WT} : LT S (ttOf S w) w := fun W σ ρ ms Q k hK R O hw q => ⟨W, ρ, ms, k, rfl, hK, R, O, hw, q⟩
theorem lg_of {S : Sg} {w : WG} {ss : List Nat} : LG S (tgOf S w ss) w ss := fun W σ ρ ms v r Q k hK R O ok hw q => ⟨W, ρ, ms, r, k, rfl, hK, R, O, ok, hw, q⟩
@[simp] def wYes : WT := fun _ ms k => k true ms
theorem dts_nil : DTs X [] wYes := ⟨_, pts_nil, fun W σ ρ ms Q k hK R O h q => q W true ms (Ext.refl W) O h⟩
theorem dts_one {c : Expr} {w : WT} (h : DTt X c w) : DTs X [c] w := let ⟨t, p, l⟩ := h; ⟨t, pts_one p, l⟩
/-- the context of a comprehension's block -/
def Cy.blk (X : Cy) (s : Shared) (H : Hp) (scope : Scope) (cl : List (Str × Addr)) (C : Addr) (fp : List Addr) : Cy :=
  ⟨X.X.blk s H scope (compEnvC scope cl C X.X.env) fp, never, fun u s' ⟨_, _, _, _, _, _, _, _, _, _, _, _, _, _, _, _, w⟩ => w.elim, X.xh⟩
theorem lg_name {S : Sg} {i : Nat} : LG S (gName i) (wgName i) [i] := fun W σ ρ ms v r Q k hK R O ok h q => q W _ _ ms (Ext.refl W) O (R.set ok i) (by rw [List.length_set]) (fun j hj => by rw [List.getElem?_set_ne (fun e => hj (by simp [e]))]) h
/-- [e for x in xs if ..] -/
theorem de_lc {elt tg iter : Expr} {ifs : List Expr} {scope : Scope} {own : List (Str × Nat)} {wi : WI} {wg : WG} {wt : WT} {we : WE} {ss : List Nat} (hc : X.X.calm = true) (hN : X.X.N.Nodup) (hi : DI X tg iter wi) (ok : BlkOk X.X.N X.X.env.scope scope own)
    (hg : ∀ s H C cl fp, DG (X.blk s H scope cl C fp) tg wg ss) (ht : ∀ s H C cl fp, DTs (X.blk s H scope cl C fp) ifs wt)
    (he : ∀ s H C cl fp, DE (X.blk s H scope cl C fp) elt we) (hss : ∀ i ∈ ss, i ∈ own.map (·.2) := by decide) (hs : ∀ x, foldedSetIterable iter X.X.env x = pure x := by intro _; rfl) :
    DE X (.ListComp elt [⟨tg, iter, ifs, 0⟩] scope pos) (wLc wi wg wt we (own.map (·.2))) := by
  obtain ⟨ti, pi, li⟩ := hi
  exact ⟨_, pe_lc (g := tgOf (X.S.nv) wg ss) (tt := ttOf (X.S.nv) wt) (te := teOf (X.S.nv) we) hc hN pi ok (fun s H C cl fp => (hg s H C cl fp).pg) (fun s H C cl fp => (ht s H C cl fp).pts) (fun s H C cl fp => (he s H C cl fp).pe) hs, le_lc hss li lg_of lt_of le_of⟩
theorem de_lcO {elt tg iter : Expr} {ifs : List Expr} {scope : Scope} {own : List (Str × Nat)} {wi : WI} {wg : WG} {wt : WT} {we : WE} {ss : List Nat} (hc : X.X.calm = true) (hN : X.X.N.Nodup) (hi : DI X tg iter wi) (ok : BlkOk X.X.N X.X.env.scope scope own)
    (hg : ∀ s H C cl fp, DG (X.blk s H scope cl C fp) tg wg ss) (ht : ∀ s H C cl fp, DTs (X.blk s H scope cl C fp) ifs wt)
    (he : ∀ s H C cl fp, DE (X.blk s H scope cl C fp) elt we) (hss : ∀ i ∈ ss, i ∈ own.map (·.2) := by decide) (hs : ∀ x, foldedSetIterable iter X.X.env x = pure x := by intro _; rfl) :
    DE X (.ListComp elt [⟨tg, iter, ifs, 0⟩] scope pos) (wLcO wi wg wt we (own.map (·.2))) := by
  obtain ⟨ti, pi, li⟩ := hi
  exact ⟨_, pe_lc (g := tgOf (X.S.nv) wg ss) (tt := ttOf (X.S.nv) wt) (te := teOf (X.S.nv) we) hc hN pi ok (fun s H C cl fp => (hg s H C cl fp).pg) (fun s H C cl fp => (ht s H C cl fp).pts) (fun s H C cl fp => (he s H C cl fp).pe) hs, le_lcO hss li lg_of lt_of le_of⟩
/-- y = [e for x in xs if ..] -/
theorem ds_setLc {i : Nat} {y : Str} {py : Pos} {elt tg iter : Expr} {ifs : List Expr} {scope : Scope} {own : List (Str × Nat)} {pos spos : Pos} {wi : WI} {wg : WG} {wt : WT} {we : WE} {ss : List Nat} (hc : X.X.calm = true) (hN : X.X.N.Nodup) (hy : X.X.N[i]? = some y) (hyl : X.X.env.scope.names.lookup y = some .local)
    (hsw : swapsWith (.ListComp elt [⟨tg, iter, ifs, 0⟩] scope pos) (some (.Name y py)) spos.line X.X.env = pure true) (hi : DI X tg iter wi) (ok : BlkOk X.X.N X.X.env.scope scope own)
    (hg : ∀ s H C cl fp, DG (X.blk s H scope cl C fp) tg wg ss) (ht : ∀ s H C cl fp, DTs (X.blk s H scope cl C fp) ifs wt)
    (he : ∀ s H C cl fp, DE (X.blk s H scope cl C fp) elt we) (hss : ∀ i ∈ ss, i ∈ own.map (·.2) := by decide) (hs : ∀ x, foldedSetIterable iter X.X.env x = pure x := by intro _; rfl) :
    DS X (.Assign [.Name y py] (.ListComp elt [⟨tg, iter, ifs, 0⟩] scope pos) spos) (wAsg (wLc wi wg wt we (own.map (·.2))) (wgName i)) := by
  obtain ⟨ti, pi, li⟩ := hi
  exact ⟨_, L2.ps_setLc (g := tgOf (X.S.nv) wg ss) (tt := ttOf (X.S.nv) wt) (te := teOf (X.S.nv) we) hc hN hy hyl hsw pi ok (fun s H C cl fp => (hg s H C cl fp).pg) (fun s H C cl fp => (ht s H C cl fp).pts) (fun s H C cl fp => (he s H C cl fp).pe) hs, ls_asg (le_lc hss li lg_of lt_of le_of) lg_name⟩
theorem ds_setLcO {i : Nat} {y : Str} {py : Pos} {elt tg iter : Expr} {ifs : List Expr} {scope : Scope} {own : List (Str × Nat)} {pos spos : Pos} {wi : WI} {wg : WG} {wt : WT} {we : WE} {ss : List Nat} (hc : X.X.calm = true) (hN : X.X.N.Nodup) (hy : X.X.N[i]? = some y) (hyl : X.X.env.scope.names.lookup y = some .local)
    (hsw : swapsWith (.ListComp elt [⟨tg, iter, ifs, 0⟩] scope pos) (some (.Name y py)) spos.line X.X.env = pure true) (hi : DI X tg iter wi) (ok : BlkOk X.X.N X.X.env.scope scope own)
    (hg : ∀ s H C cl fp, DG (X.blk s H scope cl C fp) tg wg ss) (ht : ∀ s H C cl fp, DTs (X.blk s H scope cl C fp) ifs wt)
    (he : ∀ s H C cl fp, DE (X.blk s H scope cl C fp) elt we) (hss : ∀ i ∈ ss, i ∈ own.map (·.2) := by decide) (hs : ∀ x, foldedSetIterable iter X.X.env x = pure x := by intro _; rfl) :
    DS X (.Assign [.Name y py] (.ListComp elt [⟨tg, iter, ifs, 0⟩] scope pos) spos) (wAsg (wLcO wi wg wt we (own.map (·.2))) (wgName i)) := by
  obtain ⟨ti, pi, li⟩ := hi
  exact ⟨_, L2.ps_setLc (g := tgOf (X.S.nv) wg ss) (tt := ttOf (X.S.nv) wt) (te := teOf (X.S.nv) we) hc hN hy hyl hsw pi ok (fun s H C cl fp => (hg s H C cl fp).pg) (fun s H C cl fp => (ht s H C cl fp).pts) (fun s H C cl fp => (he s H C cl fp).pe) hs, ls_asg (le_lcO hss li lg_of lt_of le_of) lg_name⟩
end
end Sy
namespace Sy
open PySem PySem.Spec PyProof.Rows L2
/-! ## a def's promise over data -/
abbrev KXF := Str → List (Str × Dat) → Ms → Prop
/-- where a def lies: a global's, a class's method's, a property's getter, a classmethod's function -/
def fA (K : PySem.W.Frag) (p : Str × Option Str) : Addr := match p.2 with
  | none => He.ga K p.1
  | some m => (match PySem.W.recIn K (He.ma K (He.ga K p.1) m) "property" with
    | some (.ref g :: _) => g
    | _ => (match PySem.W.recIn K (He.ma K (He.ga K p.1) m) "classmethod" with
      | some (.ref g :: _) => g
      | _ => He.ma K (He.ga K p.1) m))
abbrev FSpec := List Dat → Ms → KR → KXF → Prop
def spF (K : PySem.W.Frag) (R : FSpec) : Sp := fun vs H Q E => ∃ (W : Wd) (rs : List Dat) (ms : Ms) (k : KR) (kx : KXF), W.H = H ∧ W.K = K ∧ Own W ms ∧ RvsOk W vs rs ∧ R rs ms k kx ∧
  (∀ W' v r ms', Ext W W' → Own W' ms' → RvOk W' v r → k r ms' → Q v W'.H) ∧
  (∀ W' C dd xs fs ms', Ext W W' → Own W' ms' → W'.G dd = some (.xd xs) → Dtf W'.S.K W'.G W'.A xs fs → kx C fs ms' → E (.ref (He.ga K C)) (some dd) W'.H)
/-- the ends of a def's body for what is wanted of the call -/
def endsF (k : KR) : WEnds := { nx := fun _ ms => k .non ms, rt := k }
@[simp] theorem endsF_nx {k : KR} {ρ : Env} {ms : Ms} : (endsF k).nx ρ ms = k .non ms := rfl
@[simp] theorem endsF_rt {k : KR} {r : Dat} {ms : Ms} : (endsF k).rt r ms = k r ms := rfl
theorem rel_start {W : Wd} : ∀ {vs : List V} {rs : List Dat} (n : Nat), RvsOk W vs rs → RelS W (vs.map some ++ List.replicate n none) (rs.map some ++ List.replicate n none)
  | _, _, 0, .nil => .nil
  | _, _, n + 1, .nil => .gap (rel_start n .nil)
  | _, _, n, .cons h r => .has h (rel_start n r)
@[simp] def startE (N : List Str) (rs : List Dat) (kx : KXF) : Env := ⟨rs.map some ++ List.replicate (N.length - rs.length) none, fun _ C fs ms => kx C fs ms, Str.empty, []⟩
/-- the promise of a def wherever no guard stands -/
structure FnG (P : Program) (w : World) (K : PySem.W.Frag) (mg : Str → Option Value) (base : Heap) (CX : CXT) (k : Nat) (f : Addr) (fd : FuncData) (ps : List Str) (sp : Sp) : Prop where
  len : ∀ vs H Q E, sp vs H Q E → vs.length = ps.length
  go : ∀ (A : Around) (out : List PySem.Env) (s : Shared) (H : Hp) (args : Args) (us : List Value) (vs : List V) (Q : VK) (E : XK), A.guards = some [] → Room k A → Env0 P w K mg base A out s H → BindsTo s fd args (ps.zip us) → Vals vs us → sp vs H Q E →
    codeAny (model P w) A (.call (.ref f) args) (CR CX out P w H s Q E) s
section
variable {P : Program} {w : World} {K : PySem.W.Frag} {mg : Str → Option Value} {base : Heap} {CX : CXT}
theorem FnG.mono {j k : Nat} {f : Addr} {fd : FuncData} {ps : List Str} {sp : Sp} (F : FnG P w K mg base CX j f fd ps sp) (h : j ≤ k) : FnG P w K mg base CX k f fd ps sp :=
  ⟨F.len, fun A out s H args us vs Q E hg room => F.go A out s H args us vs Q E hg (room.mono h)⟩
theorem FnG.of_funD {x qual : Str} {params : Arguments} {body : List Stmt} {scope : Scope} {dvs : List V} {kws : List (Str × V)} {f : Addr} {fd : FuncData} {N ps : List Str} {k : Nat} {sp : Sp}
    (F : FunD K x qual params body scope dvs kws f fd) (S : FnScope N ps scope) (len : ∀ vs H Q E, sp vs H Q E → vs.length = ps.length)
    (body_ok : ∀ (cdv : Value) (A : Around) (out : List PySem.Env) (s : Shared) (H : Hp) (vs : List V) (Q : VK) (E : XK), A.guards = some [] → Room k (A.deeper (envOfC qual scope s.heap.objs.size f cdv)) → sp vs H Q E →
      ∃ t, PSs (cxOf CX P w K mg base N qual scope f cdv A out s H E) body t ∧ t { nx := fun _ H' => Q .non H', rt := Q } (L2.start N vs) H) : FnG P w K mg base CX (k + 1) f fd ps sp := by
  obtain ⟨oc, od, dV, kV, doc, pm, an, cdv, ct, osl, rfl, look_f, code_f, _, _⟩ := F.ex
  refine ⟨len, fun A out s H args us vs Q E hg room en bnd rel want => ?_⟩
  have kin : K.In s.heap := en.mod.kin.keeps fun c u z => (en.bs c u z).1
  have nolim : s.heap.NoLimit := en.mod.nolimit.keeps fun c u z => (en.bs c u z).1
  refine codeAny_call_function room.depth (kin _ _ look_f) rfl S.co S.gen rfl (PySem.W.codeRec_of kin code_f) (bnd _ _ _ _ ?_)
  refine wpAny_newFunctionEnv_cells S.kind (fun ⟨n, v⟩ hy => ?_) fun env he s1 laid => ?_
  · rcases S.par n (List.of_mem_zip hy).1 with z | z
    · exact Or.inl z
    · exact Or.inr ⟨z, PySem.W.cellsFrom_some _ _ _ (Or.inl z)⟩
  · subst he
    refine ⟨nolim.keeps laid.toInCall.keep, codeAny_func ?_⟩
    obtain ⟨t, ht, hq⟩ := body_ok cdv A out s H vs Q E hg (room.deeper _) want
    have J : Inv (cxOf CX P w K mg base N qual scope f cdv A out s H E) [] (L2.start N vs) H s1 := inv_start S room.hd en (len _ _ _ _ want) rel laid
    refine wpAny_mono (ht.run [] s1 (L2.start N vs) H _ J hq) (fun fl s2 hs => ?_) fun _ _ z => z
    cases fl with
    | ret u => obtain ⟨v, σ2, H2, J2, rv, q2⟩ := hs; exact ⟨v, H2, J2.os, J2.bare, J2.base, J2.hok, rv, q2⟩
    | next => obtain ⟨σ2, H2, J2, q2⟩ := hs; exact ⟨.non, H2, J2.os, J2.bare, J2.base, J2.hok, rfl, q2⟩
    | brk => obtain ⟨_, _, _, q2⟩ := hs; exact q2.elim
    | cont => obtain ⟨_, _, _, q2⟩ := hs; exact q2.elim
/-- the context of a def's body -/
def cyOf (P : Program) (w : World) (K : PySem.W.Frag) (mg : Str → Option Value) (base : Heap) (N : List Str) (qual : Str) (scope : Scope) (f : Addr) (cdv : Value) (A : Around) (out : List PySem.Env) (s : Shared) (H : Hp) (E : XK) : Cy :=
  ⟨cxOf (L2.CX P w) P w K mg base N qual scope f cdv A out s H E, fun cls d _ H => E cls d H, takes_of rfl rfl rfl rfl, none⟩
theorem wish_back {W W' : Wd} {Z : WX} (h : W'.S = (W.wish Z).S) (e : Ext (W.wish Z) W') : Ext W { W' with S := W.S } := ⟨rfl, e.ex, e.adr, e.frz, e.p⟩
theorem sg_low {W : Wd} {S : Sg} (h : S.K = W.S.K) : Low W { W with S := S } := ⟨h, Same.refl _, fun _ _ x => x⟩
theorem Own.sg {W : Wd} {ms : Ms} (O : Own W ms) {S : Sg} (h : S.K = W.S.K) : Own { W with S := S } ms :=
  ⟨O.ex, O.len, O.inj, O.all, O.px, O.pg, O.pl, fun i c e n => let ⟨a, o, h1, h2, h3, h4⟩ := O.cell i c e n; ⟨a, o, h1, h2, h3, CObj.low (W' := { W with S := S }) (sg_low h) h4⟩⟩
/-- THE RULE for a def -/
theorem fn_okD {x qual : Str} {params : Arguments} {body : List Stmt} {scope : Scope} {dvs : List V} {kws : List (Str × V)} {f : Addr} {fd : FuncData} {N ps : List Str} {k : Nat} {R : FSpec} {ws : WS}
    (F : FunD K x qual params body scope dvs kws f fd) (S : FnScope N ps scope) (len : ∀ rs ms q qx, R rs ms q qx → rs.length = ps.length)
    (hbody : ∀ (cdv : Value) (A : Around) (out : List PySem.Env) (s : Shared) (H : Hp) (E : XK), A.guards = some [] → Room k (A.deeper (envOfC qual scope s.heap.objs.size f cdv)) → DSs (cyOf P w K mg base N qual scope f cdv A out s H E) body ws)
    (hR : ∀ rs ms q qx, R rs ms q qx → ws (endsF q) (startE N rs qx) ms) : FnG P w K mg base (L2.CX P w) (k + 1) f fd ps (spF K R) := by
  refine FnG.of_funD F S (fun vs H Q E ⟨W, rs, ms, q, qx, _, _, _, ok, hr, _⟩ => by rw [ok.length]; exact len rs ms q qx hr) fun cdv A out s H vs Q E hg hr ⟨W, rs, ms, q, qx, hH, hK, O, ok, hRr, hq, hqx⟩ => ?_
  obtain ⟨t, p, l⟩ := hbody cdv A out s H E hg hr
  refine ⟨t, p, ?_⟩
  rw [← hH]
  let S0 : Sg := ⟨K, fun cls d _ H => E cls d H, none⟩
  have hk0 : S0.K = W.S.K := hK.symm
  have back : ∀ W', Ext { W with S := S0 } W' → Ext W { W' with S := W.S } := fun W' e => ⟨rfl, e.ex, e.adr, e.frz, e.p⟩
  have hk' : ∀ W', Ext { W with S := S0 } W' → W.S.K = W'.S.K := fun W' e => by rw [e.s]; exact hK
  refine l { W with S := S0 } (L2.start N vs) (startE N rs qx) ms _ (endsF q) rfl ⟨?_, fun W' σ ρ C dd xs fs ms' e O' _ g d h => ?_, fun a cls d z => by cases z⟩ (O.sg hk0) (hR rs ms q qx hRr)
    ⟨fun W' σ' ρ' ms' e O' R' h1 => ?_, fun W' v r ms' e O' ok' h1 => ?_, fun _ _ _ _ _ _ _ h1 => h1.elim, fun _ _ _ _ _ _ _ h1 => h1.elim⟩
  · show RelS _ (L2.start N vs) (rs.map some ++ List.replicate (N.length - rs.length) none)
    unfold L2.start
    rw [ok.length]
    exact (rel_start _ ok).low (sg_low hk0)
  · exact hqx { W' with S := W.S } C dd xs fs ms' (back W' e) (O'.sg (hk' W' e)) g (Dtf.low (W := W') (W' := { W' with S := W.S }) (sg_low (hk' W' e)) d) h
  · exact hq { W' with S := W.S } .non .non ms' (back W' e) (O'.sg (hk' W' e)) .non h1
  · exact hq { W' with S := W.S } v r ms' (back W' e) (O'.sg (hk' W' e)) (low_v (sg_low (hk' W' e)) ok') h1
/-- a def of the text: where it stands -/
structure DefAt (K : PySem.W.Frag) (p : Str × Option Str) (name qual : Str) (st : Stmt) (ps : List Str) : Prop where
  ex : ∃ fd, FunD K name qual (defArgs st) (defBody st) (defScope st) [] [] (fA K p) fd ∧ Binds K fd ps [] ∧ PySem.W.keepIn K (.ref (fA K p)) = true
/-- a def keeps its promise -/
structure DefOk (P : Program) (w : World) (K : PySem.W.Frag) (mg : Str → Option Value) (base : Heap) (p : Str × Option Str) (ps : List Str) (k : Nat) (R : FSpec) : Prop where
  ex : ∃ fd, FnG P w K mg base (L2.CX P w) k (fA K p) fd ps (spF K R) ∧ Binds K fd ps [] ∧ PySem.W.keepIn K (.ref (fA K p)) = true
theorem DefOk.mono {p : Str × Option Str} {ps : List Str} {j k : Nat} {R : FSpec} (D : DefOk P w K mg base p ps j R) (h : j ≤ k) : DefOk P w K mg base p ps k R :=
  let ⟨fd, F, b, kp⟩ := D.ex; ⟨fd, F.mono h, b, kp⟩
theorem def_ok {p : Str × Option Str} {name qual : Str} {st : Stmt} {N ps : List Str} {k : Nat} {R : FSpec} {ws : WS} (D : DefAt K p name qual st ps) (S : FnScope N ps (defScope st)) (len : ∀ rs ms q qx, R rs ms q qx → rs.length = ps.length)
    (hbody : ∀ (f : Addr) (cdv : Value) (A : Around) (out : List PySem.Env) (s : Shared) (H : Hp) (E : XK), A.guards = some [] → Room k (A.deeper (envOfC qual (defScope st) s.heap.objs.size f cdv)) → DSs (cyOf P w K mg base N qual (defScope st) f cdv A out s H E) (defBody st) ws)
    (hR : ∀ rs ms q qx, R rs ms q qx → ws (endsF q) (startE N rs qx) ms) : DefOk P w K mg base p ps (k + 1) R :=
  let ⟨fd, F, b, kp⟩ := D.ex; ⟨fd, fn_okD F S len (hbody _) hR, b, kp⟩
end
/-! ## calls -/
section
variable {X : Cy}
def exS (X : Cy) : L2.St → XK := fun σ cls d H => X.Z cls d σ H
theorem pass_s (σ : L2.St) : PassesAt (L2.CX X.X.prog X.X.w) X.X σ (exS X σ) := L2.passAt X.tk σ
variable {CX : CXT} {k : Nat} {f : Addr} {fd : FuncData} {ps : List Str} {sp : Sp} {E : XK}
theorem FnG.runS {X : Cx} {pins : List (Addr × Obj)} {σ : L2.St} {H : Hp} {s : Shared} {Q : VK} {us : List Value} {vs : List V} (F : FnG X.prog X.w X.K X.mg X.base CX k f fd ps sp) (hg : X.A.guards = some []) (room : Room k X.A) (hb : Binds X.K fd ps []) (hx : PassesAt CX X σ E)
    (J : Inv X pins σ H s) (r : Vals vs us) (want : sp vs H Q E) : wpAny (model X.prog X.w) X.A (call (.ref f) us) (EP X pins σ Q) X.xe s := by
  have hl : us.length = ps.length := by rw [← r.length]; exact F.len _ _ _ _ want
  have hb' := hb s us J.kIn (by rw [List.append_nil]; exact hl)
  rw [List.append_nil] at hb'
  refine wpAny_call (codeAny_mono (F.go X.A X.stack s H ⟨us, []⟩ us vs Q E hg room J.env0 hb' r want) fun res s2 hres => ?_)
  match res, hres with
  | .error e, z => exact hx pins H s e s2 J z
  | .ok (.ret u), z => exact J.after z
  | .ok .next, z => exact False.elim z
  | .ok .brk, z => exact False.elim z
  | .ok .cont, z => exact False.elim z
/-- what is wanted of a call, from the caller's world -/
theorem call_go {R : FSpec} {vs : List V} {rs : List Dat} {W : Wd} {σ : L2.St} {ρ : Env} {ms : Ms} {k : KR} {Q : VK} (hK : W.S = X.S) (Rl : Rel W σ ρ) (O : Own W ms) (ok : RvsOk W vs rs) (h : R rs ms k (ρ.ex ρ.sl))
    (q : ∀ W' v r ms', Ext W W' → Own W' ms' → RvOk W' v r → k r ms' → Q v W'.H) : spF X.X.K R vs W.H Q (exS X σ) := by
  have hKK : X.X.K = W.K := (congrArg Sg.K hK).symm
  refine ⟨W, rs, ms, k, _, rfl, hKK.symm, O, ok, h, q, fun W' C dd xs fs ms' e O' g d hx => ?_⟩
  have := Rl.ex W' σ ρ.sl C dd xs fs ms' e O' (Rl.sl.low e.low) g d hx
  rw [hKK]
  show X.Z _ _ _ _
  rw [show X.Z = W.S.Z from (congrArg Sg.Z hK).symm]
  exact this
@[simp] def wCall (R : FSpec) (wa : WA) : WE := fun ρ ms k => wa ρ ms fun rs ms1 => R rs ms1 k (ρ.ex ρ.sl)
def tCallG (sp : Sp) (E : L2.St → XK) (t : TA) : TE := fun σ H Q => t σ H fun vs H1 => sp vs H1 Q (E σ)
theorem de_call {x : Str} {p pos : Pos} {e : Expr} {es : List Expr} {k : Nat} {ps : List Str} {R : FSpec} {wa : WA} (D : DefOk X.X.prog X.X.w X.X.K X.X.mg X.X.base (x, none) ps k R) (hg : X.X.A.guards = some []) (room : Room k X.X.A) (gl : Gl X.X x) (hm : X.X.mg x = some (.ref (He.ga X.X.K x)))
    (ha : DA X (e :: es) wa) (hdb : (x == ("__debug__" : Str)) = false := by decide) (he : starEach (e :: es) X.X.env = (false, eval e X.X.env) :: starEach es X.X.env := by rfl) (hpl : (backTo pos (starEach es X.X.env)).any (·.1) = false := by rfl) :
    DE X (.Call (.Name x p) (e :: es) [] pos) (wCall R wa) := by
  obtain ⟨t, pa, la⟩ := ha
  obtain ⟨fd, F, hb, kp⟩ := D.ex
  refine ⟨tCallG (spF X.X.K R) (exS X) t, ⟨fun pins s σ H Q J h => wpAny_Call_Name_kw (ld_glob J gl hm (PySem.W.callWith_K (h₀ := X.X.base) J.ok.mod.kin kp (thn (pa.run pos pins s σ H _ J h) fun us s1 ⟨vs, H1, J1, r, z⟩ => ⟨J1.kIn, F.runS hg room hb (pass_s σ) J1 r z⟩) he hpl) hdb)⟩, fun W σ ρ ms Q k hK Rl O hw q => ?_⟩
  exact la W σ ρ ms _ _ hK Rl O hw fun W1 vs rs ms1 e1 O1 ok1 h1 => call_go (e1.s.trans hK) (Rl.mono e1) O1 ok1 h1 fun W2 v r ms2 e2 O2 ok2 h2 => q W2 v r ms2 (e1.trans e2) O2 ok2 h2
theorem de_call0 {x : Str} {p pos : Pos} {k : Nat} {ps : List Str} {R : FSpec} (D : DefOk X.X.prog X.X.w X.X.K X.X.mg X.X.base (x, none) ps k R) (hg : X.X.A.guards = some []) (room : Room k X.X.A) (gl : Gl X.X x) (hm : X.X.mg x = some (.ref (He.ga X.X.K x)))
    (hdb : (x == ("__debug__" : Str)) = false := by decide) : DE X (.Call (.Name x p) [] [] pos) (wCall R wNil) := by
  obtain ⟨fd, F, hb, kp⟩ := D.ex
  refine ⟨tCallG (spF X.X.K R) (exS X) tNil, ⟨fun pins s σ H Q J h => wpAny_Call_Name_kw (ld_glob J gl hm (PySem.W.callWith_K0 J.kIn kp (F.runS (us := []) hg room hb (pass_s σ) J .nil h)) hdb)⟩, fun W σ ρ ms Q k hK Rl O hw q => ?_⟩
  exact call_go hK Rl O .nil hw q
/-! ### instances -/
/-- the class and the fields of an instance -/
@[simp] def insOf (ms : Ms) : Dat → Option (Str × List (Str × Dat))
  | .ins C fs => some (C, fs)
  | .own i => (match ms[i]? with
    | some (.ins C fs) => some (C, fs)
    | _ => none)
  | _ => none
theorem Dtf.rk {W : Wd} : ∀ {xs : List (Str × V)} {fs : List (Str × Dat)}, Dtf W.S.K W.G W.A xs fs → RkOk W xs fs
  | _, _, .nil => .nil
  | _, _, .cons h r => .cons h (Dtf.rk r)
theorem RkOk.dtf {W : Wd} : ∀ {xs : List (Str × V)} {fs : List (Str × Dat)}, RkOk W xs fs → Dtf W.S.K W.G W.A xs fs
  | _, _, .nil => .nil
  | _, _, .cons h r => .cons h (RkOk.dtf r)
theorem RkOk.lookup {W : Wd} {f : Str} : ∀ {xs : List (Str × V)} {fs : List (Str × Dat)}, RkOk W xs fs → (fs.lookup f = none → xs.lookup f = none) ∧ ∀ d, fs.lookup f = some d → ∃ v, xs.lookup f = some v ∧ RvOk W v d
  | _, _, .nil => ⟨fun _ => rfl, fun d h => by cases h⟩
  | (k, v) :: xs, (_, d) :: fs, .cons h r => by
    obtain ⟨h1, h2⟩ := RkOk.lookup (f := f) r
    cases e : f == k with
    | true => simp only [List.lookup, e]; exact ⟨fun z => (by cases z), fun d' z => (by cases z; exact ⟨v, rfl, h⟩)⟩
    | false => simp only [List.lookup, e]; exact ⟨h1, h2⟩
theorem RkOk.length {κ : Type} {W : Wd} : ∀ {xs : List (κ × V)} {fs : List (κ × Dat)}, RkOk W xs fs → xs.length = fs.length
  | _, _, .nil => rfl
  | _, _, .cons _ r => by simp [RkOk.length r]
theorem Own.inst {W : Wd} {ms : Ms} {v : V} {r : Dat} {C : Str} {fs : List (Str × Dat)} (O : Own W ms) (ok : RvOk W v r) (h : insOf ms r = some (C, fs)) : ∃ a dx xs, v = .ref a ∧ W.H a = some (.ins (He.ga W.K C) dx xs) ∧ RkOk W xs fs := by
  cases r <;> simp only [insOf] at h <;> first | (cases h; done) | skip
  · rename_i i
    split at h
    · rename_i C' fs' e
      cases h
      cases ok with
      | own ha =>
        obtain ⟨b, o, hb, _, ho, dx, xs, rfl, q⟩ := O.cell i _ e (fun z => by cases z)
        rw [ha] at hb; cases hb
        exact ⟨_, dx, xs, rfl, ho, q⟩
    · cases h
  · cases h
    cases ok with
    | ins h1 h2 => exact ⟨_, _, _, rfl, O.ex _ _ h1, h2.rk⟩
@[simp] def wFld (C f : Str) (wo : WE) : WE := fun ρ ms k => wo ρ ms fun r ms1 => match insOf ms1 r with
  | some (C', fs) => C' = C ∧ (match fs.lookup f with
    | some d => k d ms1
    | none => False)
  | none => False
theorem de_fld {o : Expr} {C f : Str} {pos : Pos} {wo : WE} (c : Cls X.X.K (He.ga X.X.K C)) (n : NoAttr X.X.K (He.ga X.X.K C) f) (ho : DE X o wo) (hb : attributeBase o f X.X.env (eval o X.X.env) = eval o X.X.env := by rfl) : DE X (.Attribute o f pos) (wFld C f wo) := by
  obtain ⟨t, p, l⟩ := ho
  refine ⟨_, pe_fld p hb, fun W σ ρ ms Q k hK Rl O hw q => l W σ ρ ms _ _ hK Rl O hw fun W1 v r ms1 e1 O1 ok1 h1 => ?_⟩
  have hKK : X.X.K = W1.K := (congrArg Sg.K (e1.s.trans hK)).symm
  split at h1
  · rename_i C' fs e
    obtain ⟨rfl, h1⟩ := h1
    split at h1
    · rename_i d e2
      obtain ⟨a, dx, xs, rfl, ha, rk⟩ := O1.inst ok1 e
      obtain ⟨u, hu, oku⟩ := rk.lookup.2 d e2
      exact ⟨a, _, dx, xs, u, rfl, ha, by rw [← hKK]; exact c, by rw [← hKK]; exact n, hu, q W1 u d ms1 e1 O1 oku h1⟩
    · exact h1.elim
  · exact h1.elim
@[simp] def putFd (f : Str) (d : Dat) : List (Str × Dat) → List (Str × Dat)
  | [] => [(f, d)]
  | (g, e) :: fs => if g = f then (g, d) :: fs else (g, e) :: putFd f d fs
theorem RkOk.putF {W : Wd} {f : Str} {v : V} {d : Dat} (h : RvOk W v d) : ∀ {xs : List (Str × V)} {fs : List (Str × Dat)}, RkOk W xs fs → RkOk W (L2.putF f v xs) (putFd f d fs)
  | _, _, .nil => .cons h .nil
  | (g, x) :: xs, (_, e) :: fs, .cons q r => by
    unfold L2.putF putFd
    by_cases z : g = f
    · rw [if_pos z, if_pos z]; exact .cons h r
    · rw [if_neg z, if_neg z]; exact .cons q (RkOk.putF h r)
/-- o.f = e -/
@[simp] def wSetF (C f : Str) (wo we : WE) : WS := fun E ρ ms => we ρ ms fun d ms1 => wo ρ ms1 fun r ms2 => match r with
  | .own i => (match ms2[i]? with
    | some (.ins C' fs) => C' = C ∧ fs.length < 1000 ∧ E.nx ρ (ms2.set i (.ins C' (putFd f d fs)))
    | _ => False)
  | _ => False
theorem ds_fld {o e : Expr} {C f : Str} {pos pos' : Pos} {wo we : WE} (c : Cls X.X.K (He.ga X.X.K C)) (n : NoAttr X.X.K (He.ga X.X.K C) f) (ho : DE X o wo) (he : DE X e we) (hs : swapsWith e (some (.Attribute o f pos')) pos.line X.X.env = pure false := by rfl) : DS X (.Assign [.Attribute o f pos'] e pos) (wSetF C f wo we) := by
  obtain ⟨to, po, lo⟩ := ho
  obtain ⟨te, pe, le⟩ := he
  refine ⟨_, ps_fld po pe hs, fun W σ ρ ms D E hK Rl O hw ok => le W σ ρ ms _ _ hK Rl O hw fun W1 v d ms1 e1 O1 ok1 h1 => lo W1 σ ρ ms1 _ _ (e1.s.trans hK) (Rl.mono e1) O1 h1 fun W2 u r ms2 e2 O2 ok2 h2 => ?_⟩
  have hKK : X.X.K = W2.K := (congrArg Sg.K (e2.s.trans (e1.s.trans hK))).symm
  split at h2
  · rename_i i
    split at h2
    · rename_i C' fs e
      obtain ⟨rfl, hl, h2⟩ := h2
      cases ok2 with
      | own ha =>
        obtain ⟨b, o, hb, hg, ho, dx, xs, rfl, q⟩ := O2.cell i _ e (fun z => by cases z)
        rw [ha] at hb; cases hb
        have rk := RkOk.putF (f := f) (up_v e2 ok1) q
        refine ⟨_, _, dx, xs, rfl, ho, by rw [← hKK]; exact c, by rw [← hKK]; exact n, by rw [q.length]; exact hl, ?_⟩
        have O3 := O2.put (o := .ins (He.ga W2.K C') dx (L2.putF f v xs)) (c := .ins C' (putFd f d fs)) ha hg ⟨dx, _, rfl, rk⟩
        have e3 := Ext.put (W := W2) (o := .ins (He.ga W2.K C') dx (L2.putF f v xs)) ho (fun _ _ z => by cases z)
        exact ok.nx _ σ ρ _ ((e1.trans e2).trans e3) O3 (((Rl.mono e1).mono e2).mono e3) h2
    · exact h2.elim
  · exact h2.elim
/-- o.m(e, ..) -/
@[simp] def wMeth (C m : Str) (R : FSpec) (wo : WE) (wa : WA) : WE := fun ρ ms k => wo ρ ms fun o ms1 => match insOf ms1 o with
  | some (C', fs) => C' = C ∧ fs.lookup m = none ∧ wa ρ ms1 fun rs ms2 => R (o :: rs) ms2 k (ρ.ex ρ.sl)
  | none => False
def tMethG (C : Addr) (m : Str) (sp : Sp) (E : L2.St → XK) (ta : TE) (t : TA) : TE := fun σ H Q => ta σ H fun x H1 => ∃ a dx fs, x = .ref a ∧ H1 a = some (.ins C dx fs) ∧ fs.lookup m = none ∧ t σ H1 fun vs H2 => sp (.ref a :: vs) H2 Q (E σ)
theorem le_meth {C m : Str} {R : FSpec} {to : TE} {ta : TA} {wo : WE} {wa : WA} (lo : LE X.S to wo) (la : LA X.S ta wa) : LE X.S (tMethG (He.ga X.X.K C) m (spF X.X.K R) (exS X) to ta) (wMeth C m R wo wa) := fun W σ ρ ms Q k hK Rl O hw q =>
  lo W σ ρ ms _ _ hK Rl O hw fun W1 v r ms1 e1 O1 ok1 h1 => by
    have hKK : X.X.K = W1.K := (congrArg Sg.K (e1.s.trans hK)).symm
    split at h1
    · rename_i C' fs e
      obtain ⟨rfl, hl, h1⟩ := h1
      obtain ⟨a, dx, xs, rfl, ha, rk⟩ := O1.inst ok1 e
      refine ⟨a, dx, xs, rfl, by rw [hKK]; exact ha, rk.lookup.1 hl, la W1 σ ρ ms1 _ _ (e1.s.trans hK) (Rl.mono e1) O1 h1 fun W2 vs rs ms2 e2 O2 ok2 h2 => ?_⟩
      exact call_go (e2.s.trans (e1.s.trans hK)) ((Rl.mono e1).mono e2) O2 (.cons (up_v e2 ok1) ok2) h2 fun W3 v r ms3 e3 O3 ok3 h3 => q W3 v r ms3 ((e1.trans e2).trans e3) O3 ok3 h3
    · exact h1.elim
theorem de_meth {pl : Sem Bool} {o e : Expr} {es : List Expr} {C m : Str} {apos pos : Pos} {k : Nat} {ps : List Str} {R : FSpec} {wo : WE} {wa : WA} (c : Cls X.X.K (He.ga X.X.K C)) (hm : Meth X.X.K (He.ga X.X.K C) m (fA X.X.K (C, some m))) (D : DefOk X.X.prog X.X.w X.X.K X.X.mg X.X.base (C, some m) ps k R) (hg : X.X.A.guards = some []) (room : Room k X.X.A)
    (ho : DE X o wo) (ha : DA X (e :: es) wa)
    (hst : starEach (e :: es) X.X.env = (false, eval e X.X.env) :: starEach es X.X.env := by rfl) (hpl : (backTo pos (starEach es X.X.env)).any (·.1) = false := by rfl)
    (ht : eval (.Call (.Attribute o m apos) (e :: es) [] pos) X.X.env = (do
      let ov ← eval o X.X.env
      standAt apos.atName
      let (f, first) ← holding [ov] (getMethod ov m pl)
      callWith pos f first (backTo pos (starEach (e :: es) X.X.env)) (backToKw pos (keywordEach [] X.X.env))) := by rfl) :
    DE X (.Call (.Attribute o m apos) (e :: es) [] pos) (wMeth C m R wo wa) := by
  obtain ⟨to, po, lo⟩ := ho
  obtain ⟨ta, pa, la⟩ := ha
  obtain ⟨fd, F, hb, kp⟩ := D.ex
  refine ⟨tMethG (He.ga X.X.K C) m (spF X.X.K R) (exS X) to ta, ⟨fun pins s σ H Q I h => ?_⟩, le_meth lo la⟩
  refine PySem.W.methodCall_KW (pl := pl) (thn (po.run pins s σ H _ I h) fun u s1 ⟨x, H1, I1, rx, a, dx, fs, ex, ea, l, q⟩ => ?_) ht
  subst ex
  obtain rfl : u = Value.ref a := rx
  refine getmeth_ok I1 ea c hm l ?_
  refine PySem.W.callWith_K (first := [.ref a]) (h₀ := X.X.base) I.ok.mod.kin hm.kp (thn (pa.run pos pins s1 σ H1 _ I1 q) fun us s2 ⟨vs, H2, I2, r, q2⟩ => ⟨I2.kIn, ?_⟩) hst hpl
  exact F.runS (us := .ref a :: us) (vs := .ref a :: vs) hg room hb (pass_s σ) I2 (.cons rfl r) q2
theorem de_meth0 {pl : Sem Bool} {o : Expr} {C m : Str} {apos pos : Pos} {k : Nat} {ps : List Str} {R : FSpec} {wo : WE} (c : Cls X.X.K (He.ga X.X.K C)) (hm : Meth X.X.K (He.ga X.X.K C) m (fA X.X.K (C, some m))) (D : DefOk X.X.prog X.X.w X.X.K X.X.mg X.X.base (C, some m) ps k R) (hg : X.X.A.guards = some []) (room : Room k X.X.A)
    (ho : DE X o wo)
    (ht : eval (.Call (.Attribute o m apos) [] [] pos) X.X.env = (do
      let ov ← eval o X.X.env
      standAt apos.atName
      let (f, first) ← holding [ov] (getMethod ov m pl)
      callWith pos f first (backTo pos (starEach [] X.X.env)) (backToKw pos (keywordEach [] X.X.env))) := by rfl) :
    DE X (.Call (.Attribute o m apos) [] [] pos) (wMeth C m R wo wNil) := by
  obtain ⟨to, po, lo⟩ := ho
  obtain ⟨fd, F, hb, kp⟩ := D.ex
  refine ⟨tMethG (He.ga X.X.K C) m (spF X.X.K R) (exS X) to tNil, ⟨fun pins s σ H Q I h => ?_⟩, le_meth lo (fun W σ ρ ms Q k hK R O h q => q W [] [] ms (Ext.refl W) O .nil h)⟩
  refine PySem.W.methodCall_KW (pl := pl) (thn (po.run pins s σ H _ I h) fun u s1 ⟨x, H1, I1, rx, a, dx, fs, ex, ea, l, q⟩ => ?_) ht
  subst ex
  obtain rfl : u = Value.ref a := rx
  refine getmeth_ok I1 ea c hm l ?_
  exact PySem.W.callWith_K0 (first := [.ref a]) I1.kIn hm.kp (F.runS (us := [.ref a]) (vs := [.ref a]) hg room hb (pass_s σ) I1 (.cons rfl .nil) q)
/-! ### C(e, ..) -/
@[simp] def wMake (C : Str) (R : FSpec) (wa : WA) : WE := fun ρ ms k => wa ρ ms fun rs ms1 => R (.own ms1.length :: rs) (ms1 ++ [.ins C []]) (fun r ms2 => r = .non ∧ k (.own ms1.length) ms2) (ρ.ex ρ.sl)
def tMakeG (C : Addr) (sp : Sp) (E : L2.St → XK) (t : TA) : TE := fun σ H Q => t σ H fun vs H1 => ∀ x dx, H1 x = none → H1 dx = none → dx ≠ x → sp (.ref x :: vs) (upd (upd H1 dx (.own x)) x (.ins C dx [])) (fun v H2 => v = .non ∧ Q (.ref x) H2) (E σ)
/-- one more thing in the heap -/
def Wd.more (W : Wd) (p : Addr) (o : HO) : Wd := { W with H := upd W.H p o }
theorem Own.more {W : Wd} {ms : Ms} (O : Own W ms) {p : Addr} {o : HO} (h : W.H p = none) : Own (W.more p o) ms ∧ Ext W (W.more p o) := by
  have low : Low W (W.more p o) := ⟨rfl, Same.refl _, fun _ _ e => e⟩
  refine ⟨⟨O.ex.trans (same_new h), O.len, O.inj, fun i a e => ?_, O.px.trans (same_new h), O.pg, O.pl, fun i c e n => ?_⟩, ⟨rfl, Same.refl _, fun _ _ e => e, fun a u v e => same_new h a _ e, rfl⟩⟩
  · obtain ⟨u, hu⟩ := O.all i a e
    exact ⟨u, same_new h a u hu⟩
  · obtain ⟨a, u, ha, g, hu, k⟩ := O.cell i c e n
    exact ⟨a, u, ha, g, same_new h a u hu, k.low low⟩
theorem le_make {C : Str} {R : FSpec} {ta : TA} {wa : WA} (la : LA X.S ta wa) : LE X.S (tMakeG (He.ga X.X.K C) (spF X.X.K R) (exS X) ta) (wMake C R wa) := fun W σ ρ ms Q k hK Rl O hw q =>
  la W σ ρ ms _ _ hK Rl O hw fun W1 vs rs ms1 e1 O1 ok1 h1 x dx hx hdx hne => by
    have hKK : X.X.K = W1.K := (congrArg Sg.K (e1.s.trans hK)).symm
    obtain ⟨O2, e2⟩ := O1.more (o := .own x) hdx
    have hx2 : (W1.more dx (.own x)).H x = none := by show upd W1.H dx (.own x) x = none; rw [upd_ne (fun z => hne z.symm)]; exact hx
    obtain ⟨O3, e3⟩ := O2.take (o := .ins (He.ga X.X.K C) dx []) (c := .ins C []) hx2 ⟨dx, [], by rw [hKK]; rfl, .nil⟩
    have e13 := e2.trans e3
    refine call_go (W := (W1.more dx (.own x)).take x (.ins (He.ga X.X.K C) dx [])) (e13.s.trans (e1.s.trans hK)) ((Rl.mono e1).mono e13) O3 (.cons (take_own O2) (up_vs e13 ok1)) h1 fun W4 v r ms4 e4 O4 ok4 h4 => ?_
    obtain ⟨rfl, h4⟩ := h4
    cases ok4
    exact ⟨rfl, q W4 (.ref x) (.own ms1.length) ms4 ((e1.trans e13).trans e4) O4 (up_v e4 (take_own O2)) h4⟩
theorem run_makeG {X : Cx} {C f : Addr} {fd : FuncData} {ps : List Str} {sp : Sp} {CX : CXT} {E : XK} {k : Nat} {pins : List (Addr × Obj)} {σ : L2.St} {H : Hp} {s : Shared} {Q : VK} {us : List Value} {vs : List V} (M : Mk X.K C f) (F : FnG X.prog X.w X.K X.mg X.base CX k f fd ps sp) (hg : X.A.guards = some []) (hr : Room (k + 1) X.A) (hb : Binds X.K fd ps [])
    (hx : PassesAt CX X σ E) (I : Inv X pins σ H s) (r : Vals vs us)
    (h : ∀ x dx, H x = none → H dx = none → dx ≠ x → sp (.ref x :: vs) (upd (upd H dx (.own x)) x (.ins C dx [])) (fun v H2 => v = .non ∧ Q (.ref x) H2) E) :
    wpAny (model X.prog X.w) X.A (call (.ref C) us) (EP X pins σ Q) X.xe s := by
  have hq := h (s.heap.objs.size + 1) s.heap.objs.size (I.hok.fresh (Nat.le_succ _)) (I.hok.fresh (Nat.le_refl _)) (Nat.ne_of_lt (Nat.lt_succ_self _))
  have I2 := Inv.made (C := C) I
  have r2 : Vals (V.ref (s.heap.objs.size + 1) :: vs) (Value.ref (s.heap.objs.size + 1) :: us) := .cons rfl r
  have hl : (Value.ref (s.heap.objs.size + 1) :: us).length = ps.length := by
    have e := r2.length
    rw [F.len _ _ _ _ hq] at e
    exact e.symm
  have hb' := hb _ (Value.ref (s.heap.objs.size + 1) :: us) I2.kIn (by rw [List.append_nil]; exact hl)
  rw [List.append_nil] at hb'
  refine wpAny_call (make_map (f := f) I.kIn M.makes M.init (beq_iff_eq.mp M.fn) (codeAny_mono (F.go _ X.stack _ _ ⟨Value.ref (s.heap.objs.size + 1) :: us, []⟩ (Value.ref (s.heap.objs.size + 1) :: us) _ _ E hg (hr.make C us [])
    (I2.env0.make C us []) hb' r2 hq) fun r s' hq' => ?_))
  cases r with
  | error e => exact hx pins _ _ e s' I2 hq'
  | ok fl =>
    cases fl with
    | ret u =>
      obtain ⟨v, H', I3, rv, ev, q3⟩ := I2.after hq'
      subst ev
      exact ⟨rv, ⟨V.ref (s.heap.objs.size + 1), H', I3, rfl, q3⟩⟩
    | next => exact False.elim hq'
    | brk => exact False.elim hq'
    | cont => exact False.elim hq'
theorem de_make {x : Str} {p pos : Pos} {e : Expr} {es : List Expr} {k : Nat} {ps : List Str} {R : FSpec} {wa : WA} (M : Mk X.X.K (He.ga X.X.K x) (fA X.X.K (x, some "__init__"))) (D : DefOk X.X.prog X.X.w X.X.K X.X.mg X.X.base (x, some "__init__") ps k R) (hg : X.X.A.guards = some []) (room : Room (k + 1) X.X.A) (gl : Gl X.X x) (hm : X.X.mg x = some (.ref (He.ga X.X.K x)))
    (ha : DA X (e :: es) wa) (hdb : (x == ("__debug__" : Str)) = false := by decide) (he : starEach (e :: es) X.X.env = (false, eval e X.X.env) :: starEach es X.X.env := by rfl) (hpl : (backTo pos (starEach es X.X.env)).any (·.1) = false := by rfl) :
    DE X (.Call (.Name x p) (e :: es) [] pos) (wMake x R wa) := by
  obtain ⟨t, pa, la⟩ := ha
  obtain ⟨fd, F, hb, kp⟩ := D.ex
  exact ⟨tMakeG (He.ga X.X.K x) (spF X.X.K R) (exS X) t, ⟨fun pins s σ H Q J h => wpAny_Call_Name_kw (ld_glob J gl hm (PySem.W.callWith_K (h₀ := X.X.base) J.ok.mod.kin M.kp (thn (pa.run pos pins s σ H _ J h) fun us s1 ⟨vs, H1, J1, r, z⟩ => ⟨J1.kIn, run_makeG M F hg room hb (pass_s σ) J1 r z⟩) he hpl) hdb)⟩, le_make la⟩
theorem de_make0 {x : Str} {p pos : Pos} {k : Nat} {ps : List Str} {R : FSpec} (M : Mk X.X.K (He.ga X.X.K x) (fA X.X.K (x, some "__init__"))) (D : DefOk X.X.prog X.X.w X.X.K X.X.mg X.X.base (x, some "__init__") ps k R) (hg : X.X.A.guards = some []) (room : Room (k + 1) X.X.A) (gl : Gl X.X x) (hm : X.X.mg x = some (.ref (He.ga X.X.K x)))
    (hdb : (x == ("__debug__" : Str)) = false := by decide) : DE X (.Call (.Name x p) [] [] pos) (wMake x R wNil) := by
  obtain ⟨fd, F, hb, kp⟩ := D.ex
  exact ⟨tMakeG (He.ga X.X.K x) (spF X.X.K R) (exS X) tNil, ⟨fun pins s σ H Q J h => wpAny_Call_Name_kw (ld_glob J gl hm (PySem.W.callWith_K0 J.kIn M.kp (run_makeG (us := []) M F hg room hb (pass_s σ) J .nil h)) hdb)⟩, le_make (fun W σ ρ ms Q k hK R O h q => q W [] [] ms (Ext.refl W) O .nil h)⟩
/-! ### what is made stays as it is from now on -/
@[simp] def wFix (we : WE) : WE := fun ρ ms k => we ρ ms fun r ms1 => match r with
  | .own i => (match ms1[i]? with
    | some (.ins C fs) => k (.ins C fs) (ms1.set i .gone)
    | some (.lst ds) => k (.lst ds) (ms1.set i .gone)
    | some (.dic ds) => k (.dic ds) (ms1.set i .gone)
    | _ => False)
  | x => k x ms1
def tFrzO (t : TE) : TE := fun σ H Q => t σ H fun v H1 => Q v H1 ∨ ∃ d u, v = .ref d ∧ H1 d = some u ∧ Mut (some u) ∧ ∀ od, Q v (upd H1 d (.frz od u))
theorem pe_frz {X : Cx} {e : Expr} {t : TE} (h : PE X e t) : PE X e (tFrzO t) := ⟨fun pins s σ H Q I hw => thn (h.run pins s σ H _ I hw) fun v s1 ⟨x, H1, I1, r, q⟩ => by
  rcases q with q | ⟨d, u, rfl, hd, mu, q⟩
  · exact ⟨x, H1, I1, r, q⟩
  · obtain ⟨od, I2⟩ := I1.lock hd mu
    exact ⟨_, _, I2, r, q od⟩⟩
theorem le_fix {S : Sg} {t : TE} {we : WE} (l : LE S t we) : LE S (tFrzO t) (wFix we) := fun W σ ρ ms Q k hK Rl O hw q =>
  l W σ ρ ms _ _ hK Rl O hw fun W1 v r ms1 e1 O1 ok1 h1 => by
    split at h1
    · rename_i i
      split at h1
      · rename_i C fs e
        cases ok1 with
        | own ha =>
          obtain ⟨b, o, hb, hg, ho, dx, xs, rfl, rk⟩ := O1.cell i _ e (fun z => by cases z)
          rw [ha] at hb; cases hb
          have O2 := O1.fix (o := .ins (He.ga W1.K C) dx xs) ha hg
          have e2 := Ext.fix (W := W1) (o := .ins (He.ga W1.K C) dx xs) hg ho (.inr rfl)
          have := q _ _ (.ins C fs) _ (e1.trans e2) O2 (.ins upd_same (rk.up e2).dtf) h1
          rw [show (W1.fix _ (HO.ins (He.ga W1.K C) dx xs)).H = W1.H from upd_id ho] at this
          exact .inl this
      · rename_i ds e
        cases ok1 with
        | own ha =>
          obtain ⟨b, o, hb, hg, ho, xs, rfl, rk⟩ := O1.cell i _ e (fun z => by cases z)
          rw [ha] at hb; cases hb
          have O2 := O1.fix (o := .lst xs) ha hg
          have e2 := Ext.fix (W := W1) (o := .lst xs) hg ho (.inr rfl)
          have := q _ _ (.lst ds) _ (e1.trans e2) O2 (.lst upd_same (up_vs e2 rk)) h1
          rw [show (W1.fix _ (HO.lst xs)).H = W1.H from upd_id ho] at this
          exact .inl this
      · rename_i ds e
        cases ok1 with
        | own ha =>
          obtain ⟨b, o, hb, hg, ho, xs, rfl, rk⟩ := O1.cell i _ e (fun z => by cases z)
          rw [ha] at hb; cases hb
          refine .inr ⟨_, _, rfl, ho, trivial, fun od => ?_⟩
          have O2 := O1.fix (o := .frz od (.dK xs)) ha hg
          have e2 := Ext.fix (W := W1) (o := .frz od (.dK xs)) hg ho (.inl fun _ _ z => by cases z)
          exact q _ _ (.dic ds) _ (e1.trans e2) O2 (.dic upd_same (rk.up e2).dtk) h1
      · exact h1.elim
    · exact .inl (q W1 v r ms1 e1 O1 ok1 h1)
theorem de_fix {e : Expr} {we : WE} (h : DE X e we) : DE X e (wFix we) := let ⟨t, p, l⟩ := h; ⟨_, pe_frz p, le_fix l⟩
end
end Sy
namespace Sy
open PySem L2
section
variable {X : Cy}
/-! ### built-ins -/
abbrev WC := List Dat → Ms → KR → Prop
def LC (S : Sg) (r : List V → Hp → VK → Prop) (w : WC) : Prop := ∀ (W : Wd) (vs : List V) (rs : List Dat) (ms : Ms) (Q : VK) (k : KR), W.S = S → RvsOk W vs rs → Own W ms → w rs ms k →
  (∀ W' v r ms', Ext W W' → Own W' ms' → RvOk W' v r → k r ms' → Q v W'.H) → r vs W.H Q
@[simp] def wCB (w : WC) (wa : WA) : WE := fun ρ ms k => wa ρ ms fun rs ms1 => w rs ms1 k
theorem le_cb {S : Sg} {r : List V → Hp → VK → Prop} {w : WC} {ta : TA} {wa : WA} (h : LC S r w) (ha : LA S ta wa) : LE S (tCB r ta) (wCB w wa) := fun W σ ρ ms Q k hK R O hw q =>
  ha W σ ρ ms _ _ hK R O hw fun W1 vs rs ms1 e1 O1 ok1 h1 => h W1 vs rs ms1 _ _ (e1.s.trans hK) ok1 O1 h1 fun W2 v r ms2 e2 O2 ok2 h2 => q W2 v r ms2 (e1.trans e2) O2 ok2 h2
theorem de_bi {x : Str} {p pos : Pos} {e : Expr} {es : List Expr} {id : String} {r : List V → Hp → VK → Prop} {w : WC} {wa : WA} (hc : CallR X.X (.builtin id) r ∧ LC X.S r w) (hg : Gl X.X x) (hm : X.X.mg x = none) (hv : bootBuiltins x = some (.builtin id)) (ha : DA X (e :: es) wa)
    (hn : x ≠ "__name__" := by decide) (hd : (x == ("__debug__" : Str)) = false := by decide) (he : starEach (e :: es) X.X.env = (false, eval e X.X.env) :: starEach es X.X.env := by rfl) (hpl : (backTo pos (starEach es X.X.env)).any (·.1) = false := by rfl) : DE X (.Call (.Name x p) (e :: es) [] pos) (wCB w wa) := by
  obtain ⟨t, pa, la⟩ := ha
  exact ⟨_, pe_callB hc.1 hg hm hv pa hn hd he hpl, le_cb hc.2 la⟩
theorem de_bt {x : Str} {p pos : Pos} {e : Expr} {es : List Expr} {T : String} {r : List V → Hp → VK → Prop} {w : WC} {wa : WA} (hc : CallR X.X (.type T) r ∧ LC X.S r w) (hg : Gl X.X x) (hm : X.X.mg x = none) (hv : bootBuiltins x = some (.type T)) (ha : DA X (e :: es) wa)
    (hn : x ≠ "__name__" := by decide) (hd : (x == ("__debug__" : Str)) = false := by decide) (he : starEach (e :: es) X.X.env = (false, eval e X.X.env) :: starEach es X.X.env := by rfl) (hpl : (backTo pos (starEach es X.X.env)).any (·.1) = false := by rfl) : DE X (.Call (.Name x p) (e :: es) [] pos) (wCB w wa) := by
  obtain ⟨t, pa, la⟩ := ha
  exact ⟨_, pe_callTy hc.1 hg hm hv pa hn hd he hpl, le_cb hc.2 la⟩
end
theorem callr_or {X : Cy} {f : Value} {r r' : List V → Hp → VK → Prop} {w w' : WC} (h : CallR X.X f r ∧ LC X.S r w) (h' : CallR X.X f r' ∧ LC X.S r' w') : CallR X.X f (fun x H Q => r x H Q ∨ r' x H Q) ∧ LC X.S (fun x H Q => r x H Q ∨ r' x H Q) (fun a ms k => w a ms k ∨ w' a ms k) :=
  ⟨fun pins s σ H xs us Q I rv hh => hh.elim (h.1 pins s σ H xs us Q I rv) (h'.1 pins s σ H xs us Q I rv), fun W vs rs ms Q k hK ok O hw q => hw.elim (fun z => .inl (h.2 W vs rs ms Q k hK ok O z q)) fun z => .inr (h'.2 W vs rs ms Q k hK ok O z q)⟩
theorem callr_imp {X : Cy} {f : Value} {r : List V → Hp → VK → Prop} {w w' : WC} (h : CallR X.X f r ∧ LC X.S r w) (i : ∀ a ms k, w' a ms k → w a ms k) : CallR X.X f r ∧ LC X.S r w' :=
  ⟨h.1, fun W vs rs ms Q k hK ok O hw q => h.2 W vs rs ms Q k hK ok O (i rs ms k hw) q⟩
theorem Dts.one {W : Wd} {vs : List V} {r : Dat} (h : RvsOk W vs [r]) : ∃ v, vs = [v] ∧ RvOk W v r := by
  cases h with
  | cons h t => cases t; exact ⟨_, rfl, h⟩
theorem Dts.two {W : Wd} {vs : List V} {r s : Dat} (h : RvsOk W vs [r, s]) : ∃ v w, vs = [v, w] ∧ RvOk W v r ∧ RvOk W w s := by
  cases h with
  | cons h t =>
    obtain ⟨w, e, k⟩ := t.one
    subst e
    exact ⟨_, _, rfl, h, k⟩
section
variable {K : PySem.W.Frag} {G : Hp} {A : List Addr}
theorem Dts.ints : ∀ {vs : List V} {ns : List Int}, Dts K G A vs (ns.map Dat.int) → vs = ns.map V.int
  | _, [], .nil => rfl
  | _, n :: ns, .cons h r => by cases h; rw [Dts.ints r]; rfl
theorem Dts.strs : ∀ {vs : List V} {ns : List Str}, Dts K G A vs (ns.map Dat.str) → vs = ns.map V.str
  | _, [], .nil => rfl
  | _, n :: ns, .cons h r => by cases h; rw [Dts.strs r]; rfl
theorem Dts.bls : ∀ {vs : List V} {ns : List Bool}, Dts K G A vs (ns.map Dat.bl) → vs = ns.map V.bl
  | _, [], .nil => rfl
  | _, n :: ns, .cons h r => by cases h; rw [Dts.bls r]; rfl
theorem dts_ints : ∀ (ns : List Int), Dts K G A (ns.map V.int) (ns.map Dat.int)
  | [] => .nil
  | n :: ns => .cons (.int n) (dts_ints ns)
theorem dts_strs : ∀ (ns : List Str), Dts K G A (ns.map V.str) (ns.map Dat.str)
  | [] => .nil
  | n :: ns => .cons (.str n) (dts_strs ns)
end
section
variable {X : Cy} {pos : Pos}
/-! ### len -/
@[simp] def wLen : WC := fun rs ms k => match rs with
  | [r] => (match look ms r with
    | some (.lst ds) => k (.int (ds.length : Nat)) ms
    | some (.tup ds) => k (.int (ds.length : Nat)) ms
    | some (.str z) => z.length ≤ sizeLine ∧ k (.int (z.length : Nat)) ms
    | some (.scr ns) => k (.int (ns.length : Nat)) ms
    | _ => False)
  | _ => False
theorem dc_len : CallR X.X (.builtin "len") (fun xs H Q => ∃ x n, xs = [x] ∧ LenV X.X.K x H n ∧ Q (.int n) H) ∧ LC X.S (fun xs H Q => ∃ x n, xs = [x] ∧ LenV X.X.K x H n ∧ Q (.int n) H) wLen := ⟨call_len, fun W vs rs ms Q k hK ok O hw q => by
  unfold wLen at hw
  split at hw
  · rename_i r
    obtain ⟨v, rfl, o1⟩ := ok.one
    rw [show X.X.K = W.K from (congrArg Sg.K hK).symm]
    split at hw
    · rename_i ds e
      obtain ⟨a, xs, rfl, h1, h2⟩ := O.list o1 e
      exact ⟨_, ds.length, rfl, .inl ⟨xs, SqL.of h1, h2.length.symm⟩, q W _ (.int _) ms (Ext.refl W) O (.int _) hw⟩
    · rename_i ds e
      obtain ⟨a, xs, rfl, _, h1, h2⟩ := O.tuple o1 e
      exact ⟨_, ds.length, rfl, .inr ⟨xs, SqT.of h1, h2.length.symm⟩, q W _ (.int _) ms (Ext.refl W) O (.int _) hw⟩
    · rename_i z e
      have := O.strv o1 e
      subst this
      exact ⟨_, z.length, rfl, ⟨hw.1, rfl⟩, q W _ (.int _) ms (Ext.refl W) O (.int _) hw.2⟩
    · rename_i ns e
      obtain ⟨a, rfl, h1⟩ := O.scr o1 e
      exact ⟨_, ns.length, rfl, .inl ⟨_, h1, by rw [List.length_map]⟩, q W _ (.int _) ms (Ext.refl W) O (.int _) hw⟩
    · exact hw.elim
  · exact hw.elim⟩
/-! ### isinstance, built-in classes -/
theorem Own.nonv {W : Wd} {ms : Ms} {v : V} {r : Dat} (O : Own W ms) (ok : RvOk W v r) (h : look ms r = some .non) : v = .non := by
  rcases look_cases h with ⟨_, rfl⟩ | ⟨i, rfl⟩
  · cases ok; rfl
  · rcases look_kind h with ⟨_, e⟩ | ⟨_, e⟩ <;> cases e
theorem Own.blv {W : Wd} {ms : Ms} {v : V} {r : Dat} {b : Bool} (O : Own W ms) (ok : RvOk W v r) (h : look ms r = some (.bl b)) : v = .bl b := by
  rcases look_cases h with ⟨_, rfl⟩ | ⟨i, rfl⟩
  · cases ok; rfl
  · rcases look_kind h with ⟨_, e⟩ | ⟨_, e⟩ <;> cases e
@[simp] def isTy : Dat → String → Bool
  | .non, T => T == "NoneType"
  | .bl _, T => T == "bool" || T == "int"
  | .int _, T => T == "int"
  | .str _, T => T == "str"
  | .lst _, T => T == "list"
  | .tup _, T => T == "tuple"
  | .dic _, T => T == "dict"
  | _, _ => false
def tyTag : Dat → String
  | .non => "NoneType"
  | .bl _ => "bool"
  | .int _ => "int"
  | .str _ => "str"
  | .lst _ => "list"
  | .tup _ => "tuple"
  | .dic _ => "dict"
  | _ => ""
@[simp] def hasTy : Dat → Bool
  | .non => true
  | .bl _ => true
  | .int _ => true
  | .str _ => true
  | .lst _ => true
  | .tup _ => true
  | .dic _ => true
  | _ => false
def tyNames : List String := ["int", "bool", "str", "list", "tuple", "dict"]
theorem kit_all : ∀ T ∈ tyNames, kitB "NoneType" T = some (T == "NoneType") ∧ kitB "bool" T = some (T == "bool" || T == "int") ∧ kitB "int" T = some (T == "int") ∧ kitB "str" T = some (T == "str") ∧ kitB "list" T = some (T == "list") ∧ kitB "tuple" T = some (T == "tuple") ∧ kitB "dict" T = some (T == "dict") := by decide +kernel
theorem kit_is {T : String} (h : T ∈ tyNames) {d : Dat} (hd : hasTy d = true) : kitB (tyTag d) T = some (isTy d T) := by
  obtain ⟨h1, h2, h3, h4, h5, h6, h7⟩ := kit_all T h
  cases d <;> first | assumption | cases hd
theorem Own.tyx {W : Wd} {ms : Ms} {v : V} {r : Dat} {x : Dat} (O : Own W ms) (ok : RvOk W v r) (h : look ms r = some x) (hx : hasTy x = true) : TyX W.K W.H v (.type (tyTag x)) := by
  cases x with
  | non => rw [O.nonv ok h]; exact .base .non
  | bl b => rw [O.blv ok h]; exact .base (.bl b)
  | int b => rw [O.intv ok h]; exact .base (.int b)
  | str b => rw [O.strv ok h]; exact .base (.str b)
  | lst ds => obtain ⟨a, xs, rfl, h1, _⟩ := O.list ok h; exact .base (.lst h1)
  | tup ds => obtain ⟨a, xs, rfl, _, h1, _⟩ := O.tuple ok h; exact .base (.tup h1)
  | dic ds =>
    obtain ⟨a, xs, rfl, h1, _⟩ := O.dict ok h
    rcases h1 with h1 | ⟨o, h1⟩
    · exact .base (.dK h1)
    · exact .fDict h1
  | _ => cases hx
@[simp] def wIsi : WC := fun rs ms k => match rs with
  | [r, (.ty T)] => ∃ x, look ms r = some x ∧ hasTy x = true ∧ T ∈ tyNames ∧ k (.bl (isTy x T)) ms
  | _ => False
theorem dc_isi : CallR X.X (.builtin "isinstance") (rIsi X.X.K) ∧ LC X.S (rIsi X.X.K) wIsi := ⟨call_isi, fun W vs rs ms Q k hK ok O hw q => by
  unfold wIsi at hw
  split at hw
  · rename_i r T
    obtain ⟨v, c, rfl, o1, oc⟩ := ok.two
    obtain ⟨x, e, hx, hT, hk⟩ := hw
    cases oc
    rw [show X.X.K = W.K from (congrArg Sg.K hK).symm]
    exact ⟨v, .ty T, .type (tyTag x), .type T, isTy x T, rfl, .ty T, O.tyx o1 e hx, kit_ty (kit_is hT hx), q W _ (.bl _) ms (Ext.refl W) O (.bl _) hk⟩
  · exact hw.elim⟩
@[simp] def wIsi2 : WC := fun rs ms k => match rs with
  | [r, (.tup [.ty T, .ty U])] => ∃ x, look ms r = some x ∧ hasTy x = true ∧ T ∈ tyNames ∧ U ∈ tyNames ∧ k (.bl (isTy x T || isTy x U)) ms
  | _ => False
theorem dc_isi2 : CallR X.X (.builtin "isinstance") (rIsiT X.X.K) ∧ LC X.S (rIsiT X.X.K) wIsi2 := ⟨call_isiT, fun W vs rs ms Q k hK ok O hw q => by
  unfold wIsi2 at hw
  split at hw
  · rename_i r T U
    obtain ⟨v, c, rfl, o1, oc⟩ := ok.two
    obtain ⟨x, e, hx, hT, hU, hk⟩ := hw
    cases oc with
    | tup h1 h2 =>
      cases h2 with
      | cons a1 h2 =>
        cases h2 with
        | cons a2 h2 =>
          cases h2
          cases a1
          cases a2
          rw [show X.X.K = W.K from (congrArg Sg.K hK).symm]
          refine ⟨v, _, [.ty T, .ty U], .type (tyTag x), [.type T, .type U], isTy x T || isTy x U, rfl, O.ex _ _ h1, .cons (.ty T) (.cons (.ty U) .nil), O.tyx o1 e hx, ?_, q W _ (.bl _) ms (Ext.refl W) O (.bl _) hk⟩
          refine kitAny_cons (kit_ty (kit_is hT hx)) (fun hf => ?_) (fun ht => by rw [ht]; rfl)
          rw [hf]
          refine kitAny_cons (kit_ty (kit_is hU hx)) (fun hf => ?_) (fun ht => by rw [ht]; rfl)
          rw [hf]
          rfl
  · exact hw.elim⟩
/-! ### numbers -/
@[simp] def wMax2 : WC := fun rs ms k => match rs with
  | [(.int i), (.int j)] => k (.int (if j > i then j else i)) ms
  | _ => False
theorem dc_max2 (hc : X.X.calm = true) : CallR X.X (.builtin "max") (fun xs H Q => ∃ i j, xs = [.int i, .int j] ∧ Q (.int (if j > i then j else i)) H) ∧ LC X.S (fun xs H Q => ∃ i j, xs = [.int i, .int j] ∧ Q (.int (if j > i then j else i)) H) wMax2 := ⟨call_max2 hc, fun W vs rs ms Q k hK ok O hw q => by
  unfold wMax2 at hw
  split at hw
  · obtain ⟨v, c, rfl, o1, o2⟩ := ok.two
    cases o1
    cases o2
    exact ⟨_, _, rfl, q W _ (.int _) ms (Ext.refl W) O (.int _) hw⟩
  · exact hw.elim⟩
@[simp] def wMin2 : WC := fun rs ms k => match rs with
  | [(.int i), (.int j)] => k (.int (if j < i then j else i)) ms
  | _ => False
theorem dc_min2 (hc : X.X.calm = true) : CallR X.X (.builtin "min") (fun xs H Q => ∃ i j, xs = [.int i, .int j] ∧ Q (.int (if j < i then j else i)) H) ∧ LC X.S (fun xs H Q => ∃ i j, xs = [.int i, .int j] ∧ Q (.int (if j < i then j else i)) H) wMin2 := ⟨call_min2 hc, fun W vs rs ms Q k hK ok O hw q => by
  unfold wMin2 at hw
  split at hw
  · obtain ⟨v, c, rfl, o1, o2⟩ := ok.two
    cases o1
    cases o2
    exact ⟨_, _, rfl, q W _ (.int _) ms (Ext.refl W) O (.int _) hw⟩
  · exact hw.elim⟩
@[simp] def wAbs : WC := fun rs ms k => match rs with
  | [(.int i)] => k (.int (if i < 0 then -i else i)) ms
  | _ => False
theorem dc_abs : CallR X.X (.builtin "abs") (fun xs H Q => ∃ i, xs = [.int i] ∧ Q (.int (if i < 0 then -i else i)) H) ∧ LC X.S (fun xs H Q => ∃ i, xs = [.int i] ∧ Q (.int (if i < 0 then -i else i)) H) wAbs := ⟨call_abs, fun W vs rs ms Q k hK ok O hw q => by
  unfold wAbs at hw
  split at hw
  · obtain ⟨v, rfl, o1⟩ := ok.one
    cases o1
    exact ⟨_, rfl, q W _ (.int _) ms (Ext.refl W) O (.int _) hw⟩
  · exact hw.elim⟩
@[simp] def wInt1 : WC := fun rs ms k => match rs with
  | [(.int i)] => k (.int i) ms
  | [(.bl b)] => k (.int (if b then 1 else 0)) ms
  | _ => False
theorem dc_int1 : CallR X.X (.type "int") (fun xs H Q => (∃ i, xs = [.int i] ∧ Q (.int i) H) ∨ ∃ k, xs = [.bl k] ∧ Q (.int (if k then 1 else 0)) H) ∧ LC X.S (fun xs H Q => (∃ i, xs = [.int i] ∧ Q (.int i) H) ∨ ∃ k, xs = [.bl k] ∧ Q (.int (if k then 1 else 0)) H) wInt1 := ⟨call_int1, fun W vs rs ms Q k hK ok O hw q => by
  unfold wInt1 at hw
  split at hw
  · obtain ⟨v, rfl, o1⟩ := ok.one
    cases o1
    exact .inl ⟨_, rfl, q W _ (.int _) ms (Ext.refl W) O (.int _) hw⟩
  · obtain ⟨v, rfl, o1⟩ := ok.one
    cases o1
    exact .inr ⟨_, rfl, q W _ (.int _) ms (Ext.refl W) O (.int _) hw⟩
  · exact hw.elim⟩
@[simp] def wUn (g : Int → Int) (we : WE) : WE := fun ρ ms k => we ρ ms fun r ms1 => match r with
  | (.int i) => k (.int (g i)) ms1
  | _ => False
theorem de_neg {a : Expr} {we : WE} (h : DE X a we) : DE X (.UnaryOp .USub a pos) (wUn (fun i => -i) we) := by
  obtain ⟨t, p, l⟩ := h
  refine ⟨_, pe_un un_neg p, fun W σ ρ ms Q k hK R O hw q => l W σ ρ ms _ _ hK R O hw fun W1 v r ms1 e1 O1 ok1 h1 => ?_⟩
  split at h1
  · cases ok1
    exact ⟨_, rfl, q W1 _ (.int _) ms1 e1 O1 (.int _) h1⟩
  · exact h1.elim
/-! ### all, any, max, min, sorted of lists -/
@[simp] def wAllL : WC := fun rs ms k => match rs with
  | [r] => ∃ bs : List Bool, look ms r = some (.lst (bs.map Dat.bl)) ∧ k (.bl (bs.all id)) ms
  | _ => False
@[simp] def wAnyL : WC := fun rs ms k => match rs with
  | [r] => ∃ bs : List Bool, look ms r = some (.lst (bs.map Dat.bl)) ∧ k (.bl (bs.any id)) ms
  | _ => False
theorem dc_all (hc : X.X.calm = true) : CallR X.X (.builtin "all") (rAll X.X.K) ∧ LC X.S (rAll X.X.K) wAllL := ⟨cr_all hc, fun W vs rs ms Q k hK ok O hw q => by
  unfold wAllL at hw
  split at hw
  · obtain ⟨v, rfl, o1⟩ := ok.one
    obtain ⟨bs, e, hk⟩ := hw
    obtain ⟨a, xs, rfl, h1, h2⟩ := O.list o1 e
    rw [h2.bls] at h1
    exact ⟨a, bs, rfl, SqL.of h1, q W _ (.bl _) ms (Ext.refl W) O (.bl _) hk⟩
  · exact hw.elim⟩
theorem dc_any (hc : X.X.calm = true) : CallR X.X (.builtin "any") (rAny X.X.K) ∧ LC X.S (rAny X.X.K) wAnyL := ⟨cr_any hc, fun W vs rs ms Q k hK ok O hw q => by
  unfold wAnyL at hw
  split at hw
  · obtain ⟨v, rfl, o1⟩ := ok.one
    obtain ⟨bs, e, hk⟩ := hw
    obtain ⟨a, xs, rfl, h1, h2⟩ := O.list o1 e
    rw [h2.bls] at h1
    exact ⟨a, bs, rfl, SqL.of h1, q W _ (.bl _) ms (Ext.refl W) O (.bl _) hk⟩
  · exact hw.elim⟩
@[simp] def wMaxL : WC := fun rs ms k => match rs with
  | [r] => ∃ ns : List Int, look ms r = some (.lst (ns.map Dat.int)) ∧ 0 < ns.length ∧ ∀ m, m ∈ ns → (∀ y, y ∈ ns → y ≤ m) → k (.int m) ms
  | _ => False
@[simp] def wMinL : WC := fun rs ms k => match rs with
  | [r] => ∃ ns : List Int, look ms r = some (.lst (ns.map Dat.int)) ∧ 0 < ns.length ∧ ∀ m, m ∈ ns → (∀ y, y ∈ ns → m ≤ y) → k (.int m) ms
  | _ => False
theorem dc_maxL (hc : X.X.calm = true) : CallR X.X (.builtin "max") (rMax X.X.K) ∧ LC X.S (rMax X.X.K) wMaxL := ⟨cr_max hc, fun W vs rs ms Q k hK ok O hw q => by
  unfold wMaxL at hw
  split at hw
  · obtain ⟨v, rfl, o1⟩ := ok.one
    obtain ⟨ns, e, hl, hk⟩ := hw
    obtain ⟨a, xs, rfl, h1, h2⟩ := O.list o1 e
    rw [h2.ints] at h1
    exact ⟨a, ns, rfl, SqL.of h1, hl, fun m hm hy => q W _ (.int _) ms (Ext.refl W) O (.int _) (hk m hm hy)⟩
  · exact hw.elim⟩
theorem dc_minL (hc : X.X.calm = true) : CallR X.X (.builtin "min") (rMin X.X.K) ∧ LC X.S (rMin X.X.K) wMinL := ⟨cr_min hc, fun W vs rs ms Q k hK ok O hw q => by
  unfold wMinL at hw
  split at hw
  · obtain ⟨v, rfl, o1⟩ := ok.one
    obtain ⟨ns, e, hl, hk⟩ := hw
    obtain ⟨a, xs, rfl, h1, h2⟩ := O.list o1 e
    rw [h2.ints] at h1
    exact ⟨a, ns, rfl, SqL.of h1, hl, fun m hm hy => q W _ (.int _) ms (Ext.refl W) O (.int _) (hk m hm hy)⟩
  · exact hw.elim⟩
@[simp] def wSortI : WC := fun rs ms k => match rs with
  | [r] => ∃ ns : List Int, look ms r = some (.lst (ns.map Dat.int)) ∧ ∀ ns' : List Int, ns'.Perm ns → ns'.Pairwise (· ≤ ·) → k (.lst (ns'.map Dat.int)) ms
  | _ => False
theorem dc_sortI : CallR X.X (.builtin "sorted") (rSortedI X.X.K) ∧ LC X.S (rSortedI X.X.K) wSortI := ⟨cr_sortedI, fun W vs rs ms Q k hK ok O hw q => by
  unfold wSortI at hw
  split at hw
  · obtain ⟨v, rfl, o1⟩ := ok.one
    obtain ⟨ns, e, hk⟩ := hw
    obtain ⟨a, xs, rfl, h1, h2⟩ := O.list o1 e
    rw [h2.ints] at h1
    refine ⟨a, ns, rfl, SqL.of h1, fun ns' p hp hs hnew => ?_⟩
    obtain ⟨O2, e2⟩ := O.lay (o := .lst (ns'.map V.int)) hnew
    exact q (W.lay p _) (.ref p) (.lst (ns'.map Dat.int)) ms e2 O2 (.lst upd_same (dts_ints ns')) (hk ns' hp hs)
  · exact hw.elim⟩
/-! ### list(..), tuple(..) -/
@[simp] def wTupleOf : WC := fun rs ms k => match rs with
  | [r] => (match look ms r with
    | some (.lst ds) => k (.tup ds) ms
    | some (.tup ds) => k (.tup ds) ms
    | _ => False)
  | _ => False
theorem dc_tupleOf : CallR X.X (.type "tuple") (fun xs H Q => ∃ p ys, xs = [.ref p] ∧ ((SqL X.X.K H p ys ∧ ∀ l, H l = none → Q (.ref l) (upd H l (.tup ys))) ∨ (SqT X.X.K H p ys ∧ Q (.ref p) H))) ∧
    LC X.S (fun xs H Q => ∃ p ys, xs = [.ref p] ∧ ((SqL X.X.K H p ys ∧ ∀ l, H l = none → Q (.ref l) (upd H l (.tup ys))) ∨ (SqT X.X.K H p ys ∧ Q (.ref p) H))) wTupleOf := ⟨call_tuple_of, fun W vs rs ms Q k hK ok O hw q => by
  unfold wTupleOf at hw
  split at hw
  · obtain ⟨v, rfl, o1⟩ := ok.one
    split at hw
    · rename_i ds e
      obtain ⟨a, xs, rfl, h1, h2⟩ := O.list o1 e
      refine ⟨a, xs, rfl, .inl ⟨SqL.of h1, fun p hp => ?_⟩⟩
      obtain ⟨O2, e2⟩ := O.lay (o := .tup xs) hp
      exact q (W.lay p _) (.ref p) (.tup ds) ms e2 O2 (.tup upd_same (up_vs e2 (h2))) hw
    · rename_i ds e
      obtain ⟨a, xs, rfl, h0, h1, h2⟩ := O.tuple o1 e
      exact ⟨a, xs, rfl, .inr ⟨SqT.of h1, q W _ (.tup ds) ms (Ext.refl W) O (.tup h0 h2) hw⟩⟩
    · exact hw.elim
  · exact hw.elim⟩
@[simp] def wListOf : WC := fun rs ms k => match rs with
  | [r] => (match look ms r with
    | some (.lst ds) => k (.lst ds) ms
    | some (.tup ds) => k (.lst ds) ms
    | _ => False)
  | _ => False
theorem dc_listOf : CallR X.X (.type "list") (fun xs H Q => ∃ p ys, xs = [.ref p] ∧ (SqL X.X.K H p ys ∨ SqT X.X.K H p ys) ∧ ∀ l, H l = none → Q (.ref l) (upd H l (.lst ys))) ∧
    LC X.S (fun xs H Q => ∃ p ys, xs = [.ref p] ∧ (SqL X.X.K H p ys ∨ SqT X.X.K H p ys) ∧ ∀ l, H l = none → Q (.ref l) (upd H l (.lst ys))) wListOf := ⟨call_list_of, fun W vs rs ms Q k hK ok O hw q => by
  unfold wListOf at hw
  split at hw
  · obtain ⟨v, rfl, o1⟩ := ok.one
    split at hw
    · rename_i ds e
      obtain ⟨a, xs, rfl, h1, h2⟩ := O.list o1 e
      refine ⟨a, xs, rfl, .inl (SqL.of h1), fun p hp => ?_⟩
      obtain ⟨O2, e2⟩ := O.lay (o := .lst xs) hp
      exact q (W.lay p _) (.ref p) (.lst ds) ms e2 O2 (.lst upd_same (up_vs e2 (h2))) hw
    · rename_i ds e
      obtain ⟨a, xs, rfl, _, h1, h2⟩ := O.tuple o1 e
      refine ⟨a, xs, rfl, .inr (SqT.of h1), fun p hp => ?_⟩
      obtain ⟨O2, e2⟩ := O.lay (o := .lst xs) hp
      exact q (W.lay p _) (.ref p) (.lst ds) ms e2 O2 (.lst upd_same (up_vs e2 (h2))) hw
    · exact hw.elim
  · exact hw.elim⟩
/-! ### lists and tuples put together, cut -/
def wCatL : WR2 := fun a b ms k => match look ms a, look ms b with
  | some (.lst x), some (.lst y) => x.length + y.length ≤ sizeLine ∧ k (.lst (x ++ y)) ms
  | _, _ => False
theorem do_catL : OpR X.X (binaryOp .Add) rCat ∧ LR2 X.S rCat wCatL := ⟨op_cat, fun W x y a b ms Q k hK oa ob O hw q => by
  unfold wCatL at hw
  split at hw
  · rename_i xs ys e1 e2
    obtain ⟨p, us, rfl, h1, h2⟩ := O.list oa e1
    obtain ⟨p', us', rfl, h1', h2'⟩ := O.list ob e2
    refine ⟨p, p', us, us', rfl, rfl, h1, h1', by rw [h2.length, h2'.length]; exact hw.1, fun n hn => ?_⟩
    obtain ⟨O2, e2⟩ := O.lay (o := .lst (us ++ us')) hn
    exact q (W.lay n _) (.ref n) (.lst (xs ++ ys)) ms e2 O2 (.lst upd_same (up_vs e2 ((h2.append h2')))) hw.2
  · exact hw.elim⟩
def wRepL : WR2 := fun a b ms k => match look ms a, b with
  | some (.lst x), (.int n) => -(2 ^ 63) ≤ n ∧ n < 2 ^ 63 ∧ x.length * n.toNat ≤ sizeLine ∧ k (.lst (List.replicate n.toNat x).flatten) ms
  | _, _ => False
theorem do_repL : OpR X.X (binaryOp .Mult) rRep ∧ LR2 X.S rRep wRepL := ⟨op_rep, fun W x y a b ms Q k hK oa ob O hw q => by
  unfold wRepL at hw
  split at hw
  · rename_i xs n e1
    obtain ⟨p, us, rfl, h1, h2⟩ := O.list oa e1
    cases ob
    refine ⟨p, n, us, rfl, rfl, h1, hw.1, hw.2.1, by rw [h2.length]; exact hw.2.2.1, fun m hm => ?_⟩
    obtain ⟨O2, e2⟩ := O.lay (o := .lst (List.replicate n.toNat us).flatten) hm
    exact q (W.lay m _) (.ref m) (.lst _) ms e2 O2 (.lst upd_same (up_vs e2 ((h2.repl n.toNat)))) hw.2.2.2
  · exact hw.elim⟩
abbrev WO := Env → Ms → (Option Int → Ms → Prop) → Prop
def LO (S : Sg) (t : TO) (w : WO) : Prop := ∀ (W : Wd) (σ : L2.St) (ρ : Env) (ms : Ms) (Q : Option Int → Hp → Prop) (k : Option Int → Ms → Prop), W.S = S → Rel W σ ρ → Own W ms → w ρ ms k →
  (∀ W' b ms', Ext W W' → Own W' ms' → k b ms' → Q b W'.H) → t σ W.H Q
def DO (X : Cy) (e : Option Expr) (w : WO) : Prop := ∃ t, PO X.X e t ∧ LO X.S t w
@[simp] def wNoPart : WO := fun _ ms k => k none ms
@[simp] def wPart (we : WE) : WO := fun ρ ms k => we ρ ms fun r ms1 => match r with
  | (.int i) => k (some i) ms1
  | _ => False
theorem dpo_none : DO X none wNoPart := ⟨_, po_none, fun W σ ρ ms Q k hK R O h q => q W none ms (Ext.refl W) O h⟩
theorem dpo_some {e : Expr} {we : WE} (h : DE X e we) : DO X (some e) (wPart we) := by
  obtain ⟨t, p, l⟩ := h
  refine ⟨_, po_some p, fun W σ ρ ms Q k hK R O hw q => l W σ ρ ms _ _ hK R O hw fun W1 v r ms1 e1 O1 ok1 h1 => ?_⟩
  split at h1
  · cases ok1
    exact ⟨_, rfl, q W1 _ ms1 e1 O1 h1⟩
  · exact h1.elim
def cutD (xs : List Dat) (lo hi : Option Int) : List Dat := (xs.drop (HT.sIx xs.length 0 lo)).take (HT.sIx xs.length xs.length hi - HT.sIx xs.length 0 lo)
theorem Dts.cut {K : PySem.W.Frag} {G : Hp} {A : List Addr} {vs : List V} {ds : List Dat} (h : Dts K G A vs ds) (lo hi : Option Int) : Dts K G A (cutV vs lo hi) (cutD ds lo hi) := by
  unfold cutV cutD
  rw [h.length]
  exact (h.drop _).take _
@[simp] def wSl (we : WE) (wl wh : WO) : WE := fun ρ ms k => we ρ ms fun r ms1 => wl ρ ms1 fun lo ms2 => wh ρ ms2 fun hi ms3 => match look ms3 r with
  | some (.lst ds) => k (.lst (cutD ds lo hi)) ms3
  | some (.tup ds) => k (.tup (cutD ds lo hi)) ms3
  | _ => False
theorem SlR.or {r r' : V → Option Int → Option Int → Hp → VK → Prop} (h : SlR X.X r) (h' : SlR X.X r') : SlR X.X (fun x lo hi H Q => r x lo hi H Q ∨ r' x lo hi H Q) := fun pins s σ H x v vl vu lo hi sl Q I rx hs pl pu hh =>
  hh.elim (h pins s σ H x v vl vu lo hi sl Q I rx hs pl pu) (h' pins s σ H x v vl vu lo hi sl Q I rx hs pl pu)
theorem cut_whole {α : Type} (xs : List α) (lo hi : Option Int) (h : HT.sIx xs.length 0 lo = 0 ∧ HT.sIx xs.length xs.length hi = xs.length) : (xs.drop (HT.sIx xs.length 0 lo)).take (HT.sIx xs.length xs.length hi - HT.sIx xs.length 0 lo) = xs := by
  rw [h.1, h.2, List.drop_zero, Nat.sub_zero, List.take_length]
theorem de_slice {e : Expr} {lo hi : Option Expr} {p2 : Pos} {we : WE} {wl wh : WO} (he : DE X e we) (hl : DO X lo wl) (hu : DO X hi wh) : DE X (.Subscript e (.Slice lo hi none p2) pos) (wSl we wl wh) := by
  obtain ⟨t, p, l⟩ := he
  obtain ⟨tl, pl, ll⟩ := hl
  obtain ⟨th, ph, lh⟩ := hu
  refine ⟨_, pe_slice (sl_list.or sl_tupA) p pl ph, fun W σ ρ ms Q k hK R O hw q => ?_⟩
  refine l W σ ρ ms _ _ hK R O hw fun W1 v r ms1 e1 O1 ok1 h1 => ll W1 σ ρ ms1 _ _ (e1.s.trans hK) (R.mono e1) O1 h1 fun W2 a ms2 e2 O2 h2 => lh W2 σ ρ ms2 _ _ (e2.s.trans (e1.s.trans hK)) ((R.mono e1).mono e2) O2 h2 fun W3 b ms3 e3 O3 h3 => ?_
  have hK3 := e3.s.trans (e2.s.trans (e1.s.trans hK))
  have ok3 := up_v e3 (up_v e2 ok1)
  have e03 := (e1.trans e2).trans e3
  rw [show X.X.K = W3.K from (congrArg Sg.K hK3).symm]
  split at h3
  · rename_i ds e
    obtain ⟨p, us, rfl, g1, g2⟩ := O3.list ok3 e
    refine .inl ⟨p, us, rfl, SqL.of g1, fun n hn => ?_⟩
    obtain ⟨O4, e4⟩ := O3.lay (o := .lst (cutV us a b)) hn
    exact q (W3.lay n _) (.ref n) (.lst _) ms3 (e03.trans e4) O4 (.lst upd_same (up_vs e4 (g2.cut a b))) h3
  · rename_i ds e
    obtain ⟨p, us, rfl, g0, g1, g2⟩ := O3.tuple ok3 e
    refine .inr ⟨p, us, rfl, SqT.of g1, fun hwh => ?_, fun _ n hn => ?_⟩
    · have hd : cutD ds a b = ds := by
        unfold cutD
        rw [g2.length] at hwh
        exact cut_whole ds a b hwh
      rw [hd] at h3
      exact q W3 _ (.tup ds) ms3 e03 O3 (.tup g0 g2) h3
    · obtain ⟨O4, e4⟩ := O3.lay (o := .tup (cutV us a b)) hn
      exact q (W3.lay n _) (.ref n) (.tup _) ms3 (e03.trans e4) O4 (.tup upd_same (up_vs e4 (g2.cut a b))) h3
  · exact h3.elim
/-! ### owned lists are changed -/
/-- xs.append(e) -/
@[simp] def wApp (wo we : WE) : WE := fun ρ ms k => wo ρ ms fun r ms1 => match r with
  | .own j => (match ms1[j]? with
    | some (.lst _) => we ρ ms1 fun d ms2 => (match ms2[j]? with
      | some (.lst ds) => ds.length < sizeLine ∧ k .non (ms2.set j (.lst (ds ++ [d])))
      | _ => False)
    | _ => False)
  | _ => False
theorem Own.lstAt {W : Wd} {ms : Ms} {j : Nat} {ds : List Dat} (O : Own W ms) (h : ms[j]? = some (.lst ds)) : ∃ a xs, W.A[j]? = some a ∧ W.G a = none ∧ W.H a = some (.lst xs) ∧ RvsOk W xs ds := by
  obtain ⟨b, o, hb, hg, ho, xs, rfl, q⟩ := O.cell j _ h (fun z => by cases z)
  exact ⟨b, xs, hb, hg, ho, q⟩
theorem Own.dicAt {W : Wd} {ms : Ms} {j : Nat} {ds : List (Key × Dat)} (O : Own W ms) (h : ms[j]? = some (.dic ds)) : ∃ a xs, W.A[j]? = some a ∧ W.G a = none ∧ W.H a = some (.dK xs) ∧ RkOk W xs ds := by
  obtain ⟨b, o, hb, hg, ho, xs, rfl, q⟩ := O.cell j _ h (fun z => by cases z)
  exact ⟨b, xs, hb, hg, ho, q⟩
/-- a list is written -/
theorem Own.putLst {W : Wd} {ms : Ms} {j : Nat} {a : Addr} {xs ys : List V} {ds : List Dat} (O : Own W ms) (ha : W.A[j]? = some a) (hg : W.G a = none) (ho : W.H a = some (.lst xs)) (q : RvsOk W ys ds) : Own (W.put a (.lst ys)) (ms.set j (.lst ds)) ∧ Ext W (W.put a (.lst ys)) :=
  ⟨O.put ha hg ⟨ys, rfl, q⟩, Ext.put ho fun _ _ z => by cases z⟩
theorem Own.putDic {W : Wd} {ms : Ms} {j : Nat} {a : Addr} {xs ys : List (Key × V)} {ds : List (Key × Dat)} (O : Own W ms) (ha : W.A[j]? = some a) (hg : W.G a = none) (ho : W.H a = some (.dK xs)) (q : RkOk W ys ds) : Own (W.put a (.dK ys)) (ms.set j (.dic ds)) ∧ Ext W (W.put a (.dK ys)) :=
  ⟨O.put ha hg ⟨ys, rfl, q⟩, Ext.put ho fun _ _ z => by cases z⟩
theorem de_append {o e : Expr} {apos cpos : Pos} {wo we : WE} (ho : DE X o wo) (he : DE X e we) (hbase : attributeBase o "append" X.X.env (eval o X.X.env) = eval o X.X.env := by rfl) (hs : starEach [e] X.X.env = (false, eval e X.X.env) :: starEach [] X.X.env := by rfl) (hpl : (backTo cpos (starEach [] X.X.env)).any (·.1) = false := by rfl)
    (hfew : ((backTo cpos (starEach [e] X.X.env)).all (fun x => !x.1) && (backToKw cpos (keywordEach [] X.X.env)).all (fun x => x.1.isSome)
      && decide ([e].length + ([] : List Keyword).length + (if ([] : List Keyword).isEmpty then 0 else 1) < 30)) = true := by rfl) (hline : (apos.endLine == cpos.line) = true := by rfl) :
    DE X (.Call (.Attribute o "append" apos) [e] [] cpos) (wApp wo we) := by
  obtain ⟨t, p, l⟩ := ho
  obtain ⟨te, pe, le⟩ := he
  refine ⟨_, pe_bm PySem.F.plainAttrs_list PySem.F.slot_list_append PySem.F.type_list_append mt_append p (pa_cons pe pa_nil hs) hbase hfew hline hs hpl, fun W σ ρ ms Q k hK R O hw q => ?_⟩
  refine l W σ ρ ms _ _ hK R O hw fun W1 v r ms1 e1 O1 ok1 h1 => ?_
  split at h1
  · rename_i j
    split at h1
    · rename_i ds0 hj
      obtain ⟨b, xs0, hb, hg, g1, g2⟩ := O1.lstAt hj
      cases ok1 with
      | own ha =>
        rw [ha] at hb; cases hb
        refine ⟨.inl ⟨rfl, xs0, SqL.of g1⟩, ?_⟩
        refine le W1 σ ρ ms1 _ _ (e1.s.trans hK) (R.mono e1) O1 h1 fun W2 y d ms2 e2 O2 ok2 h2 => ?_
        split at h2
        · rename_i ds e3
          obtain ⟨b, xs, hb, hg2, k1, k2⟩ := O2.lstAt e3
          rw [e2.adr j _ ha] at hb; cases hb
          refine ⟨_, xs, y, rfl, rfl, k1, by rw [k2.length]; exact h2.1, ?_⟩
          obtain ⟨O3, e4⟩ := O2.putLst (e2.adr j _ ha) hg2 k1 (Dts.append k2 (.cons ok2 .nil))
          exact q _ .non .non _ ((e1.trans e2).trans e4) O3 .non h2.2
        · exact h2.elim
    · exact h1.elim
  · exact h1.elim
end
end Sy
namespace Sy
open PySem PySem.Spec PyProof.Rows L2
section
variable {X : Cy} {pos : Pos}
/-! ## operators that look at what they get -/
@[simp] def wAdd : WR2 := fun a b ms k => match look ms a, look ms b with
  | some (.int i), some (.int j) => k (.int (i + j)) ms
  | some (.str x), some (.str y) => x.length + y.length ≤ sizeLine ∧ k (.str (x ++ y)) ms
  | some (.lst x), some (.lst y) => x.length + y.length ≤ sizeLine ∧ k (.lst (x ++ y)) ms
  | some (.tup x), some (.tup y) => x.length + y.length ≤ sizeLine ∧ k (.tup (x ++ y)) ms
  | _, _ => False
def rAdd4 (K : PySem.W.Frag) : R2 := fun x y H Q => (rI0 (fun i j => .int (i + j)) x y H Q ∨ (∃ i j, x = .str i ∧ y = .str j ∧ i.length + j.length ≤ sizeLine ∧ Q (.str (i ++ j)) H)) ∨ (rCat x y H Q ∨ rCatA K x y H Q)
theorem do_add : OpR X.X (binaryOp .Add) (rAdd4 X.X.K) ∧ LR2 X.S (rAdd4 X.X.K) wAdd := by
  refine ⟨OpR.or (OpR.or op_add op_add_str) (OpR.or op_cat op_catA), fun W x y a b ms Q k hK oa ob O hw q => ?_⟩
  unfold wAdd at hw
  split at hw
  · rename_i i j e1 e2
    rw [O.intv oa e1, O.intv ob e2]
    exact .inl (.inl ⟨i, j, rfl, rfl, q W _ (.int _) ms (Ext.refl W) O (.int _) hw⟩)
  · rename_i i j e1 e2
    rw [O.strv oa e1, O.strv ob e2]
    exact .inl (.inr ⟨i, j, rfl, rfl, hw.1, q W _ (.str _) ms (Ext.refl W) O (.str _) hw.2⟩)
  · rename_i xs ys e1 e2
    refine .inr (.inl ((do_catL (X := X)).2 W x y a b ms Q k hK oa ob O ?_ q))
    unfold wCatL
    rw [e1, e2]
    exact hw
  · rename_i xs ys e1 e2
    obtain ⟨p, us, rfl, g0, g1, g2⟩ := O.tuple oa e1
    obtain ⟨p', us', rfl, g0', g1', g2'⟩ := O.tuple ob e2
    rw [show X.X.K = W.K from (congrArg Sg.K hK).symm]
    refine .inr (.inr ⟨p, p', us, us', rfl, rfl, SqT.of g1, SqT.of g1', by rw [g2.length, g2'.length]; exact hw.1, fun he => ?_, fun _ he => ?_, fun _ _ n hn => ?_⟩)
    · subst he
      cases g2
      exact q W _ (.tup ys) ms (Ext.refl W) O (.tup g0' g2') hw.2
    · subst he
      cases g2'
      have hh := hw.2
      rw [List.append_nil] at hh
      exact q W _ (.tup xs) ms (Ext.refl W) O (.tup g0 g2) hh
    · obtain ⟨O2, x2⟩ := O.lay (o := .tup (us ++ us')) hn
      exact q (W.lay n _) (.ref n) (.tup (xs ++ ys)) ms x2 O2 (.tup upd_same (up_vs x2 (g2.append g2'))) hw.2
  · exact hw.elim
@[simp] def wMul : WR2 := fun a b ms k => match look ms a, look ms b with
  | some (.int i), some (.int j) => CMul i j ∧ k (.int (i * j)) ms
  | some (.lst x), some (.int n) => -(2 ^ 63) ≤ n ∧ n < 2 ^ 63 ∧ x.length * n.toNat ≤ sizeLine ∧ k (.lst (List.replicate n.toNat x).flatten) ms
  | _, _ => False
theorem do_mulA : OpR X.X (binaryOp .Mult) (fun x y H Q => rI CMul (fun i j => .int (i * j)) x y H Q ∨ rRep x y H Q) ∧ LR2 X.S (fun x y H Q => rI CMul (fun i j => .int (i * j)) x y H Q ∨ rRep x y H Q) wMul := by
  refine ⟨OpR.or op_mul op_rep, fun W x y a b ms Q k hK oa ob O hw q => ?_⟩
  unfold wMul at hw
  split at hw
  · rename_i i j e1 e2
    rw [O.intv oa e1, O.intv ob e2]
    exact .inl ⟨i, j, rfl, rfl, hw.1, q W _ (.int _) ms (Ext.refl W) O (.int _) hw.2⟩
  · rename_i xs n e1 e2
    obtain ⟨p, us, rfl, h1, h2⟩ := O.list oa e1
    rw [O.intv ob e2]
    refine .inr ⟨p, n, us, rfl, rfl, h1, hw.1, hw.2.1, by rw [h2.length]; exact hw.2.2.1, fun m hm => ?_⟩
    obtain ⟨O2, x2⟩ := O.lay (o := .lst (List.replicate n.toNat us).flatten) hm
    exact q (W.lay m _) (.ref m) (.lst _) ms x2 O2 (.lst upd_same (up_vs x2 (h2.repl n.toNat))) hw.2.2.2
  · exact hw.elim
/-- < and its like: ints, texts -/
@[simp] def wOrd (fi : Int → Int → Bool) (fs : List Nat → List Nat → Bool) : WR2 := fun a b ms k => match look ms a, look ms b with
  | some (.int i), some (.int j) => k (.bl (fi i j)) ms
  | some (.str x), some (.str y) => k (.bl (fs x.cps.toList y.cps.toList)) ms
  | _, _ => False
theorem lr_ord {S : Sg} {fi : Int → Int → Bool} {fs : List Nat → List Nat → Bool} : LR2 S (fun x y H Q => rI0 (fun i j => .bl (fi i j)) x y H Q ∨ ∃ i j, x = .str i ∧ y = .str j ∧ Q (.bl (fs i.cps.toList j.cps.toList)) H) (wOrd fi fs) := fun W x y a b ms Q k hK oa ob O hw q => by
  unfold wOrd at hw
  split at hw
  · rename_i i j e1 e2
    rw [O.intv oa e1, O.intv ob e2]
    exact .inl ⟨i, j, rfl, rfl, q W _ (.bl _) ms (Ext.refl W) O (.bl _) hw⟩
  · rename_i i j e1 e2
    rw [O.strv oa e1, O.strv ob e2]
    exact .inr ⟨i, j, rfl, rfl, q W _ (.bl _) ms (Ext.refl W) O (.bl _) hw⟩
  · exact hw.elim
@[simp] def wLt : WR2 := wOrd (fun i j => decide (i < j)) (fun x y => decide (x < y))
@[simp] def wLe : WR2 := wOrd (fun i j => decide (i ≤ j)) (fun x y => !decide (y < x))
@[simp] def wGt : WR2 := wOrd (fun i j => decide (j < i)) (fun x y => decide (y < x))
@[simp] def wGe : WR2 := wOrd (fun i j => decide (j ≤ i)) (fun x y => !decide (x < y))
theorem do_lt : OpR X.X (compareOp .Lt) (fun x y H Q => rI0 (fun i j => .bl (decide (i < j))) x y H Q ∨ ∃ i j, x = .str i ∧ y = .str j ∧ Q (.bl (decide (i.cps.toList < j.cps.toList))) H) ∧ LR2 X.S (fun x y H Q => rI0 (fun i j => .bl (decide (i < j))) x y H Q ∨ ∃ i j, x = .str i ∧ y = .str j ∧ Q (.bl (decide (i.cps.toList < j.cps.toList))) H) wLt := ⟨OpR.or op_lt op_lt_str, lr_ord⟩
theorem do_le : OpR X.X (compareOp .LtE) (fun x y H Q => rI0 (fun i j => .bl (decide (i ≤ j))) x y H Q ∨ ∃ i j, x = .str i ∧ y = .str j ∧ Q (.bl (!decide (j.cps.toList < i.cps.toList))) H) ∧ LR2 X.S (fun x y H Q => rI0 (fun i j => .bl (decide (i ≤ j))) x y H Q ∨ ∃ i j, x = .str i ∧ y = .str j ∧ Q (.bl (!decide (j.cps.toList < i.cps.toList))) H) wLe := ⟨OpR.or op_le op_le_str, lr_ord⟩
theorem do_gt : OpR X.X (compareOp .Gt) (fun x y H Q => rI0 (fun i j => .bl (decide (j < i))) x y H Q ∨ ∃ i j, x = .str i ∧ y = .str j ∧ Q (.bl (decide (j.cps.toList < i.cps.toList))) H) ∧ LR2 X.S (fun x y H Q => rI0 (fun i j => .bl (decide (j < i))) x y H Q ∨ ∃ i j, x = .str i ∧ y = .str j ∧ Q (.bl (decide (j.cps.toList < i.cps.toList))) H) wGt := ⟨OpR.or op_gt op_gt_str, lr_ord⟩
theorem do_ge : OpR X.X (compareOp .GtE) (fun x y H Q => rI0 (fun i j => .bl (decide (j ≤ i))) x y H Q ∨ ∃ i j, x = .str i ∧ y = .str j ∧ Q (.bl (!decide (i.cps.toList < j.cps.toList))) H) ∧ LR2 X.S (fun x y H Q => rI0 (fun i j => .bl (decide (j ≤ i))) x y H Q ∨ ∃ i j, x = .str i ∧ y = .str j ∧ Q (.bl (!decide (i.cps.toList < j.cps.toList))) H) wGe := ⟨OpR.or op_ge op_ge_str, lr_ord⟩
/-- is, of bools -/
@[simp] def wIsB (neg : Bool) : WR2 := fun a b ms k => match a, b with
  | (.bl x), (.bl y) => k ((.bl (if neg then !decide (x = y) else decide (x = y)))) ms
  | _, _ => False
theorem do_isB : OpR X.X (compareOp .Is) rIsB ∧ LR2 X.S rIsB (wIsB false) := ⟨op_isBl, fun W x y a b ms Q k hK oa ob O hw q => by
  unfold wIsB at hw
  split at hw
  · cases oa
    cases ob
    exact ⟨_, _, rfl, rfl, q W _ (.bl _) ms (Ext.refl W) O (.bl _) hw⟩
  · exact hw.elim⟩
theorem do_notB : OpR X.X (compareOp .IsNot) rNotB ∧ LR2 X.S rNotB (wIsB true) := ⟨op_notBl, fun W x y a b ms Q k hK oa ob O hw q => by
  unfold wIsB at hw
  split at hw
  · cases oa
    cases ob
    exact ⟨_, _, rfl, rfl, q W _ (.bl _) ms (Ext.refl W) O (.bl _) hw⟩
  · exact hw.elim⟩
/-- a < b < c as a test -/
theorem dt_chain2 {op op' : CmpOp} {r r' : R2} {w w' : WR2} {a b c : Expr} {wa wb wc : WE} (ho : OpR X.X (compareOp op) r ∧ LR2 X.S r w) (ho' : OpR X.X (compareOp op') r' ∧ LR2 X.S r' w') (ha : DE X a wa) (hb : DE X b wb) (hc : DE X c wc) (hm : lastMarks [op, op'] [b, c] = false := by with_unfolding_all rfl) : DTt X (.Compare a [op, op'] [b, c] pos) (wBt (wChain w w' wa wb wc)) := by
  obtain ⟨ta, pa, la⟩ := ha
  obtain ⟨tb, pb, lb⟩ := hb
  obtain ⟨tc, pc, lc⟩ := hc
  refine ⟨_, pt_chain ho.1 ho'.1 pa pb pc hm, ?_⟩
  refine lt_B (fun W σ ρ ms Q k hK R O hw q => ?_)
  refine la W σ ρ ms _ _ hK R O hw fun W1 x a ms1 e1 O1 ok1 h1 => lb W1 σ ρ ms1 _ _ (e1.s.trans hK) (R.mono e1) O1 h1 fun W2 y b ms2 e2 O2 ok2 h2 => ?_
  refine ho.2 W2 x y a b ms2 _ _ (e2.s.trans (e1.s.trans hK)) (up_v e2 ok1) ok2 O2 h2 fun W3 v r ms3 e3 O3 ok3 h3 => ?_
  have hK3 := e3.s.trans (e2.s.trans (e1.s.trans hK))
  split at h3
  · rename_i cc
    cases ok3
    refine ⟨cc, rfl, ?_⟩
    cases cc with
    | true => exact lc W3 σ ρ ms3 _ _ hK3 (((R.mono e1).mono e2).mono e3) O3 h3 fun W4 z zr ms4 e4 O4 ok4 h4 => ho'.2 W4 y z b zr ms4 _ _ (e4.s.trans hK3) (up_v e4 (up_v e3 ok2)) ok4 O4 h4 fun W5 v r ms5 e5 O5 ok5 h5 => q W5 v r ms5 ((((e1.trans e2).trans e3).trans e4).trans e5) O5 ok5 h5
    | false => exact q W3 _ (.bl false) ms3 ((e1.trans e2).trans e3) O3 (.bl _) h3
  · exact h3.elim
/-! ## several targets -/
theorem ds_par {i j : Nat} {x y : Str} {a b : Expr} {wa : WA} {px py pt : Pos} {kt k2 pt2} (hc : X.X.calm = true) (hN : X.X.N.Nodup) (hi : X.X.N[i]? = some x) (hj : X.X.N[j]? = some y) (hij : i ≠ j)
    (hx : X.X.env.scope.names.lookup x = some .local) (hy : X.X.env.scope.names.lookup y = some .local) (ha : DA X [a, b] wa)
    (hw : swappedStores [.Tuple [.Name x px, .Name y py] kt pt] (.Tuple [a, b] k2 pt2) X.X.env = pure (some [x, y]) := by rfl)
    (hs : swapsWithSole [.Tuple [.Name x px, .Name y py] kt pt] (.Tuple [a, b] k2 pt2) pos.line X.X.env = pure false := by rfl) :
    DS X (.Assign [.Tuple [.Name x px, .Name y py] kt pt] (.Tuple [a, b] k2 pt2) pos) (wPar i j wa) := by
  obtain ⟨t, p, l⟩ := ha
  exact ⟨_, L2.ps_par hc hN hi hj hij hx hy p hw hs, ls_par l⟩
@[simp] def wPar3 (i j n : Nat) (wa : WA) : WS := fun E ρ ms => wa ρ ms fun rs ms1 => match rs with
  | [a, b, c] => E.nx (((ρ.put i a).put j b).put n c) ms1
  | _ => False
theorem ds_par3 {i j n : Nat} {x y z : Str} {a b c : Expr} {wa : WA} {px py pz pt : Pos} {kt k2 pt2} (hc : X.X.calm = true) (hN : X.X.N.Nodup) (hi : X.X.N[i]? = some x) (hj : X.X.N[j]? = some y) (hn : X.X.N[n]? = some z) (hij : i ≠ j) (hil : i ≠ n) (hjl : j ≠ n)
    (hx : X.X.env.scope.names.lookup x = some .local) (hy : X.X.env.scope.names.lookup y = some .local) (hz : X.X.env.scope.names.lookup z = some .local) (ha : DA X [a, b, c] wa)
    (hw : swappedStores [.Tuple [.Name x px, .Name y py, .Name z pz] kt pt] (.Tuple [a, b, c] k2 pt2) X.X.env = pure (some [x, y, z]) := by rfl)
    (hs : swapsWithSole [.Tuple [.Name x px, .Name y py, .Name z pz] kt pt] (.Tuple [a, b, c] k2 pt2) pos.line X.X.env = pure false := by rfl) :
    DS X (.Assign [.Tuple [.Name x px, .Name y py, .Name z pz] kt pt] (.Tuple [a, b, c] k2 pt2) pos) (wPar3 i j n wa) := by
  obtain ⟨t, p, l⟩ := ha
  refine ⟨_, L2.ps_par3 hc hN hi hj hn hij hil hjl hx hy hz p hw hs, fun W σ ρ ms D E hK R O hw ok => l W σ ρ ms _ _ hK R O hw fun W1 vs rs ms1 e1 O1 ok1 h1 => ?_⟩
  split at h1
  · cases ok1 with
    | cons oa o2 =>
      obtain ⟨v, u, rfl, ob, oc⟩ := o2.two
      exact ⟨_, _, _, rfl, ok.nx W1 _ _ ms1 e1 O1 ((((R.mono e1).set oa i).set ob j).set oc n) h1⟩
  · exact h1.elim
/-- names, each to its slot -/
inductive PNames (X : Cy) : List Expr → List Nat → TGs → Prop
  | nil : PNames X [] [] gNil
  | cons {x : Str} {pp : Pos} {i : Nat} {es : List Expr} {is : List Nat} {t : TGs} : PG X.X (.Name x pp) (gName i) → PNames X es is t → (assignEach (.Name x pp :: es) X.X.env).map (·.2) = assign (.Name x pp) X.X.env :: (assignEach es X.X.env).map (·.2) → PNames X (.Name x pp :: es) (i :: is) (gCons (gName i) t)
theorem PNames.pgs {es : List Expr} {is : List Nat} {t : TGs} (h : PNames X es is t) : PGs X.X es t := by
  induction h with
  | nil => exact pgs_nil
  | cons h _ hs ih => exact pgs_cons h ih hs
@[simp] def setAll : Env → List Nat → List Dat → Env
  | ρ, i :: is, r :: rs => setAll (ρ.put i r) is rs
  | ρ, _, _ => ρ
@[simp] def wParN (is : List Nat) (wa : WA) : WS := fun E ρ ms => wa ρ ms fun rs ms1 => rs.length = is.length ∧ rs.length ≤ sizeLine ∧ E.nx (setAll ρ is rs) ms1
theorem PNames.go {es : List Expr} {is : List Nat} {t : TGs} (h : PNames X es is t) : ∀ {W : Wd} {vs : List V} {rs : List Dat} {σ : L2.St} {ρ : Env} {Q : L2.St → Hp → Prop}, Rel W σ ρ → RvsOk W vs rs → rs.length = is.length → (∀ σ', Rel W σ' (setAll ρ is rs) → Q σ' W.H) → t vs σ W.H Q := by
  induction h with
  | nil =>
    intro W vs rs σ ρ Q R ok hl q
    cases ok with
    | nil => exact ⟨rfl, q σ R⟩
    | cons _ _ => cases hl
  | @cons x pp i es is t h hr hs ih =>
    intro W vs rs σ ρ Q R ok hl q
    cases ok with
    | nil => cases hl
    | cons o r => exact ⟨_, _, rfl, ih (R.set o i) r (Nat.succ.inj hl) fun σ' R' => q σ' R'⟩
theorem ds_parN {es ts : List Expr} {wa : WA} {is : List Nat} {tg : TGs} {kt k2 : Nat} {pt pt2 : Pos} (hc : X.X.calm = true) (ha : DA X es wa) (hn : PNames X ts is tg) (hl : (assignEach ts X.X.env).length = is.length := by rfl) (hst : (assignEach ts X.X.env).findIdx? (·.1) = none := by rfl)
    (hs : swapsWithSole [.Tuple ts kt pt] (.Tuple es k2 pt2) pos.line X.X.env = pure false := by rfl) (hw : swappedStores [.Tuple ts kt pt] (.Tuple es k2 pt2) X.X.env = pure none := by rfl) (h1 : (assignEach [.Tuple ts kt pt] X.X.env).map (·.2) = [assign (.Tuple ts kt pt) X.X.env] := by rfl) :
    DS X (.Assign [.Tuple ts kt pt] (.Tuple es k2 pt2) pos) (wParN is wa) := by
  obtain ⟨t, p, l⟩ := ha
  refine ⟨_, ps_asg (pe_tup p) (pg_tup hc hn.pgs hl hst) hs hw h1, fun W σ ρ ms D E hK R O hw ok => l W σ ρ ms _ _ hK R O hw fun W1 vs rs ms1 e1 O1 ok1 ⟨hlen, hsz, h2⟩ => ?_⟩
  refine ⟨by rw [ok1.length]; exact hsz, fun n hnew => ⟨n, vs, rfl, SqT.of upd_same, by rw [ok1.length]; exact hlen, ?_⟩⟩
  obtain ⟨O2, x2⟩ := O1.lay (o := .tup vs) hnew
  exact hn.go (W := W1.lay n (.tup vs)) ((R.mono e1).mono x2) (up_vs x2 ok1) hlen fun σ' R' => ok.nx (W1.lay n (.tup vs)) σ' _ ms1 (e1.trans x2) O2 R' h2
/-! ## range(a, b) -/
theorem di_range2 {tg a b : Expr} {wa : WA} {p : Pos} (hg : Gl X.X "range") (hm : X.X.mg "range" = none) (ha : DA X [a, b] wa) (hs : starEach [a, b] X.X.env = [(false, eval a X.X.env), (false, eval b X.X.env)] := by rfl) (hs2 : starEach [b] X.X.env = [(false, eval b X.X.env)] := by rfl) : DI X tg (.Call (.Name "range" p) [a, b] [] pos) (wiRng2 wa) := by
  obtain ⟨t, pp, l⟩ := ha
  refine ⟨_, pi_range2 hg hm pp hs hs2, fun W σ ρ ms R k hK Rl O hw q => l W σ ρ ms _ _ hK Rl O hw fun W1 vs rs ms1 e1 O1 ok1 h1 => ?_⟩
  split at h1
  · rename_i i j
    obtain ⟨v, u, rfl, oa, ob⟩ := ok1.two
    cases oa
    cases ob
    exact ⟨i, j, rfl, h1.1, q W1 _ _ ms1 e1 O1 walk_rng h1.2⟩
  · exact h1.elim
/-! ## repr -/
def rRepr (K : PySem.W.Frag) : List V → Hp → VK → Prop := fun xs H Q => ∃ v d, xs = [v] ∧ Dp K H v d ∧ d.showable = true ∧ d.depth ≤ 64 ∧ d.hasDict = false ∧ d.shown.length ≤ sizeLine ∧ Q (.str d.shown) H
theorem call_reprD (hg : X.X.A.guards = some []) (hu : X.X.A.units + 65 < cLine) : CallR X.X (.builtin "repr") (rRepr X.X.K) := by
  rintro pins s σ H xs us Q J r ⟨v, d, rfl, hd, hs, hdep, hnd, hsz, q⟩
  obtain ⟨u, rfl, ru⟩ := vals1 r
  obtain ⟨as, rd⟩ := Dp.reads J d v u hd ru
  have far : ∀ a, u = .ref a → wpAny (model X.X.prog X.X.w) X.X.A (call (.builtin "repr") [u]) (EP X.X pins σ Q) X.X.xe s := fun a e => by
    subst e
    exact repr_of_reads' (h₀ := s.heap) rd hs (fun z => by rw [hnd] at z; cases z) hg (by omega) (fun _ _ z => z) (fun h' t tk kept => ⟨.str d.shown, H, J.kept (t' := tk) kept, ⟨t, rfl⟩, q⟩) hsz
  cases hd with
  | non =>
    obtain rfl : u = Value.none := ru
    simp only [PyData.shown] at q
    exact PySem.P.repr_of_none ⟨.str _, H, J.tok _, ⟨_, rfl⟩, q⟩
  | bl b =>
    obtain rfl : u = Value.bool b := ru
    simp only [PyData.shown] at q
    exact PySem.P.repr_of_bool ⟨.str _, H, J.tok _, ⟨_, rfl⟩, q⟩
  | int i =>
    obtain ⟨t, rfl⟩ := ru
    simp only [PyData.shown] at q
    exact PySem.P.repr_of_int (by simpa [PyData.showable] using hs) ⟨.str _, H, J.tok _, ⟨_, rfl⟩, q⟩
  | str x =>
    obtain ⟨t, rfl⟩ := ru
    simp only [PyData.shown] at q hsz
    exact PySem.P.repr_of_str ⟨.str _, H, J.tok _, ⟨_, rfl⟩, q⟩ hsz
  | lst _ _ => exact far _ ru
  | tup _ _ => exact far _ ru
@[simp] def wRepr : WC := fun rs ms k => match rs with
  | [r] => ∃ x, look ms r = some x ∧ plain x = true ∧ (toPy x).showable = true ∧ (toPy x).depth ≤ 64 ∧ (toPy x).hasDict = false ∧ (toPy x).shown.length ≤ sizeLine ∧ k (.str (toPy x).shown) ms
  | _ => False
theorem dc_repr (hg : X.X.A.guards = some []) (hu : X.X.A.units + 65 < cLine) : CallR X.X (.builtin "repr") (rRepr X.X.K) ∧ LC X.S (rRepr X.X.K) wRepr := ⟨call_reprD hg hu, fun W vs rs ms Q k hK ok O hw q => by
  unfold wRepr at hw
  split at hw
  · obtain ⟨v, rfl, o1⟩ := ok.one
    obtain ⟨x, e, p, h1, h2, h3, h4, hk⟩ := hw
    rw [show X.X.K = W.K from (congrArg Sg.K hK).symm]
    exact ⟨v, _, rfl, O.dp o1 e p, h1, h2, h3, h4, q W _ (.str _) ms (Ext.refl W) O (.str _) hk⟩
  · exact hw.elim⟩
end
theorem room_u {A : Around} {k : Nat} (h : Room k A) : A.units + 65 < cLine := by have := h.un; omega
end Sy
namespace Sy
open PySem PySem.Spec PyProof.Rows L2
open AutoSeq1 (wpAny_loadPart')
/-! ## enumerate of a tuple begins -/
theorem meets_enumT (l : Addr) (items : Array Value) (n : Nat) (dct : Option Addr) (sl : Array (Option Value)) :
    Meets (Builtin.«enumerate.__new__» ⟨[.type "enumerate", .ref l], []⟩) (fun _ R s => s.heap.get? l = some { cls := .type "tuple", dict := dct, data := .seq items n, slots := sl } ∧
      R (.ok (.ret (.ref (s.heap.push { cls := .type "tuple_iterator", data := .fields #[.ref l, .int 0 0] }).objs.size)))
        { s with heap := (s.heap.push { cls := .type "tuple_iterator", data := .fields #[.ref l, .int 0 0] }).push { cls := .type "enumerate", data := .fields #[.none, .bool false, .ref s.heap.objs.size, rawInt 0, .none, .none] } }) :=
  .of_wp fun prog w A R s hh => by
    obtain ⟨hp, g, d, tk, os⟩ := s; obtain ⟨hl, hh⟩ := hh
    have hsub := sub_enumerate
    have ht : Heap.IsTuple (Shared.heap ⟨hp, g, d, tk, os⟩) l items := ⟨_, hl, rfl, n, rfl⟩
    wp_walk using wpAny_loadPart' hl
    refine wpAny_stack_any fun st => wpAny_pure ?_
    split
    · rename_i c _ _ _ _ _
      cases (c == Value.type "enumerate") <;> (wp_walk using wpAny_loadPart' hl, wpAny_pyIter_tuple ht; exact ⟨_, rfl, hh⟩)
    · wp_walk using wpAny_loadPart' hl, wpAny_pyIter_tuple ht
      exact ⟨_, rfl, hh⟩
/-- what a list and a tuple have in common as sources -/
structure Src where
  sq : PySem.W.Frag → Hp → Addr → List V → Prop
  is : Heap → Addr → Array Value → Prop
  iter : Heap → Addr → Addr → Nat → Prop
  cls : String
  rd : ∀ {X : Cx} {pins : List (Addr × Obj)} {σ : L2.St} {H : Hp} {s : Shared} {a : Addr} {xs : List V}, Inv X pins σ H s → sq X.K H a xs → ∃ its : List Value, Vals xs its ∧ is s.heap a its.toArray
  inj : ∀ {X : Cx} {pins : List (Addr × Obj)} {σ : L2.St} {H : Hp} {s : Shared} {a : Addr} {xs ys : List V}, Inv X pins σ H s → sq X.K H a xs → sq X.K H a ys → xs = ys
  draws : ∀ {prog : Program} {w : World} {A : Around}, A.handled = none → ∀ (it a : Addr), a ≠ it → ∀ items : Array Value, Draws prog w A it [it, a] items.size (fun i v => items[i]? = some v) (fun i h => iter h it a i ∧ is h a items)
  begins : ∀ (a : Addr) (items : Array Value), Begins (.ref a) { cls := .type cls, data := .fields #[.ref a, .int 0 0] } fun h => is h a items
  first : ∀ {h : Heap} {it a : Addr}, h.get? it = some { cls := .type cls, data := .fields #[.ref a, .int 0 0] } → iter h it a 0
  at_ : ∀ {h h' : Heap} {it a : Addr} {i : Nat}, iter h it a i → (∀ o, h.get? it = some o → h'.get? it = some o) → iter h' it a i
  obj : ∀ {h : Heap} {it a : Addr} {i : Nat}, iter h it a i → ∃ o, h.get? it = some o ∧ ∀ v, o.data ≠ .cell v
  lt : ∀ {h : Heap} {a : Addr} {items : Array Value}, is h a items → a < h.objs.size
  enum : ∀ {prog : Program} {w : World} {A : Around} {E : Value → Shared → Prop} {s : Shared} {a : Addr} {items : Array Value} {Q : Value → Shared → Prop}, is s.heap a items →
    (∀ h', IsEnum h' (s.heap.objs.size + 1) s.heap.objs.size 0 .none → iter h' s.heap.objs.size a 0 → h'.objs.size = s.heap.objs.size + 2 →
      (∀ b o, s.heap.get? b = some o → h'.get? b = some o) → Q (.ref (s.heap.objs.size + 1)) { s with heap := h' }) → wpAny (model prog w) A (call (.type "enumerate") [.ref a]) Q E s
def srcL : Src where
  sq := SqL
  is := fun h a its => h.IsList a its
  iter := fun h it a i => h.IsListIter it a i
  cls := "list_iterator"
  rd := fun J h => let ⟨its, r, p, _⟩ := J.list h; ⟨its, r, p.isList⟩
  inj := fun J h h' => J.list_inj h h'
  draws := fun hh it a hne items => Draws.list hh it a hne items
  begins := fun a items => begins_list a items
  first := fun e => ⟨_, e, rfl, rfl⟩
  at_ := fun x e => x.at e
  obj := fun ⟨o, e, _, d⟩ => ⟨o, e, fun v q => by rw [d] at q; cases q⟩
  lt := fun ⟨_, e, _⟩ => Heap.lt_size e
  enum := fun hl h => call_enumerate_list hl h
def srcT : Src where
  sq := SqT
  is := fun h a its => h.IsTuple a its
  iter := fun h it a i => h.IsTupleIter it a i
  cls := "tuple_iterator"
  rd := fun J h => let ⟨its, r, p, _⟩ := J.tuple h; ⟨its, r, p⟩
  inj := fun J h h' => J.tuple_inj h h'
  draws := fun hh it a hne items => Draws.tuple hh it a hne items
  begins := fun a items => begins_tuple a items
  first := fun e => ⟨_, e, rfl, rfl⟩
  at_ := fun x e => x.at e
  obj := fun ⟨o, e, _, d⟩ => ⟨o, e, fun v q => by rw [d] at q; cases q⟩
  lt := fun ⟨_, e, _⟩ => Heap.lt_size e
  enum := fun {prog w A E s a items Q} hl h => by
    obtain ⟨⟨c, dct, dt, sl⟩, hg, hc, n, hd⟩ := hl
    replace hc : c = .type "tuple" := hc
    replace hd : dt = .seq items n := hd
    subst hc hd
    refine callType_new F.called_enumerate (by decide) (F.typeCall_enumerate_1 _) (F.newCall_enumerate_1 _) (fun obj => F.args_object_init_2 obj _) F.entry_enumerate_new (meets_enumT a items n dct sl) ⟨hg, ?_⟩
    have hz : (s.heap.push { cls := .type "tuple_iterator", data := .fields #[.ref a, .int 0 0] }).objs.size = s.heap.objs.size + 1 := Heap.size_push ..
    show _ ∧ _
    rw [hz]
    have he : IsEnum ((s.heap.push { cls := .type "tuple_iterator", data := .fields #[.ref a, .int 0 0] }).push { cls := .type "enumerate", data := .fields #[.none, .bool false, .ref s.heap.objs.size, rawInt 0, .none, .none] }) (s.heap.objs.size + 1) s.heap.objs.size 0 .none := by
      have z := Heap.get?_push_size (s.heap.push { cls := .type "tuple_iterator", data := .fields #[.ref a, .int 0 0] }) (o := { cls := .type "enumerate", data := .fields #[.none, .bool false, .ref s.heap.objs.size, rawInt 0, .none, .none] }) rfl
      rw [hz] at z; exact z
    exact ⟨⟨_, he, rfl⟩, h _ he ⟨_, Heap.get?_push_of_some _ (Heap.get?_push_size _ rfl), rfl, rfl⟩ (by rw [Heap.size_push, hz]) fun b o x => Heap.get?_push_of_some _ (Heap.get?_push_of_some _ x)⟩
/-! ## for i, x in enumerate(..) -/
def itEn (S : Src) (K : PySem.W.Frag) (a : Addr) : It where
  go := fun i H => ∃ (xs : List V) (x : V), S.sq K H a xs ∧ xs[i]? = some x
  yld := fun i H v H' => ∃ T x, v = .ref T ∧ H T = none ∧ H' = upd H T (.tup [.int (i : Nat), x]) ∧ ∀ xs, S.sq K H a xs → xs[i]? = some x
  stop := fun i H => ∃ xs : List V, S.sq K H a xs ∧ xs.length = i
theorem tup_new {X : Cx} {pins : List (Addr × Obj)} {σ : L2.St} {H : Hp} {s : Shared} {h' : Heap} {tk : Nat} {T : Addr} {u w' : Value} {x y : V} {ch : List Addr} (J : Inv X pins σ H s) (k : ∀ b o, b ∉ ch → s.heap.get? b = some o → h'.get? b = some o) (hf : ∀ b ∈ ch, FpOk X pins H b) (hT : s.heap.objs.size ≤ T)
    (ht : h'.IsTuple T #[u, w']) (rx : RelV x u) (ry : RelV y w') : Inv X pins σ (upd H T (.tup [x, y])) { s with heap := h', toks := tk } :=
  J.turnedNew (t' := tk) (ch := ch) k hf hT ⟨by show 2 ≤ sizeLine; decide, [u, w'], .cons rx (.cons ry .nil), ht⟩
theorem inv_turned {X : Cx} {pins : List (Addr × Obj)} {σ : L2.St} {H : Hp} {s : Shared} {h' : Heap} {tk : Nat} {ch : List Addr} (J : Inv X pins σ H s) (k : ∀ b o, b ∉ ch → s.heap.get? b = some o → h'.get? b = some o) (hf : ∀ b ∈ ch, FpOk X pins H b) : Inv X pins σ H { s with heap := h', toks := tk } := by
  have off : ∀ b u, H b = some u → b ∉ ch := fun b u e z => by
    have q := (hf b z).1
    rw [e] at q
    cases q
  refine J.step (g' := s.gens) (d' := s.drawn) (ch := ch) (fun b hb => let f := hf b hb; ⟨f.2.2.2.1, f.2.1, f.2.2.2.2.1, f.2.2.2.2.2⟩) (fun b o _ _ hn q _ => k b o hn q) (fun b o _ _ hn q _ => ⟨o.slots, k b o hn q⟩)
    (fun _ _ _ _ n => n) (fun b o hn q => ⟨o, k b o hn q⟩) (fun _ _ q => q) (fun _ _ _ q => q) (fun b ps q => ⟨#[], by rw [q]; simp⟩) (fun m ⟨o, es, ep, ho, r⟩ => ⟨o, es, ep, k _ o (fun z => (hf _ z).2.1 rfl) ho, r⟩) (fun b u q => ?_) J.bare
  refine (J.hok b u q).stay (fun c v hc z => k c v ?_ z) (fun _ z => z) fun _ _ z => z
  rcases hc with y | y
  · rw [y]; exact off b u q
  · exact off c _ y
theorem turn_en {P : Program} {w : World} {K : PySem.W.Frag} {elts : List Expr} {kk : Nat} {tpos : Pos} (S : Src) (a e it : Addr) :
    Turn P w K (.Tuple elts kk tpos) (itEn S K a) [e, it] e (fun i h => (∃ old, IsEnum h e it ((i : Nat) : Int) old) ∧ S.iter h it a i ∧ e ≠ it ∧ e ≠ a ∧ a ≠ it) where
  mem := List.mem_cons_self
  obj := fun i h ⟨⟨old, he⟩, hi, _⟩ b hb => by
    rcases List.mem_cons.mp hb with z | z
    · subst z; exact ⟨_, he, fun v q => nomatch q⟩
    · rw [List.mem_singleton.mp z]; exact S.obj hi
  keep := fun i h h' ⟨⟨old, he⟩, hi, r⟩ k => ⟨⟨old, k e List.mem_cons_self _ he⟩, S.at_ hi fun o q => k it (List.mem_cons_of_mem _ List.mem_cons_self) o q, r⟩
  item := by
    rintro X rfl rfl rfl hc i pins s σ H E J hf ⟨⟨old, he⟩, hi, n1, n2, n3⟩ ⟨xs, x, hq, hx⟩
    obtain ⟨its, rv, hs⟩ := S.rd J hq
    have hlt : i < its.toArray.size := by rw [List.size_toArray, ← rv.length]; exact (List.getElem?_eq_some_iff.mp hx).1
    have G := GoesN.enumFrom (elts := elts) (x1 := kk) (pos := tpos) 0 (S.draws (prog := X.prog) (w := X.w) (A := X.A.in1) (J.ok.hd hc) it a n3 its.toArray) e n1 (by simp [n1, n2]) (by simp)
    refine G.goes i s _ E hlt ⟨⟨old, by rw [Int.zero_add]; exact he⟩, hi, hs⟩ fun v h' tk ⟨T, t, u, ev, hnew, hu, hT⟩ ⟨⟨old', he'⟩, hi', _⟩ hk _ => ?_
    subst ev
    have hu' : its[i]? = some u := by simpa using hu
    obtain ⟨u', e1, ru⟩ := rv.get hx
    rw [hu'] at e1
    cases e1
    rw [Int.zero_add] at hT
    refine ⟨.ref T, _, tup_new (tk := tk) (ch := [e, it]) (x := .int (i : Nat)) J hk hf hnew hT ⟨t, rfl⟩ ru, rfl, ⟨T, x, rfl, J.hok.fresh hnew, rfl, fun ys hy => by rw [S.inj J hy hq]; exact hx⟩, ⟨⟨old', ?_⟩, hi', n1, n2, n3⟩, fun b hb => ?_⟩
    · rw [Int.zero_add] at he'; exact he'
    · have hbl : b < s.heap.objs.size := by
        rcases List.mem_cons.mp hb with z | z
        · subst z; exact Heap.lt_size he
        · rw [List.mem_singleton.mp z]; obtain ⟨o, q, _⟩ := S.obj hi; exact Heap.lt_size q
      rw [upd_ne (Nat.ne_of_lt (Nat.lt_of_lt_of_le hbl hnew))]
      exact (hf b hb).1
  done := by
    rintro X rfl rfl rfl hc i pins s σ H E J hf ⟨⟨old, he⟩, hi, n1, n2, n3⟩ ⟨xs, hq, hx⟩
    obtain ⟨its, rv, hs⟩ := S.rd J hq
    have hn : its.toArray.size = i := by rw [List.size_toArray, ← rv.length]; exact hx
    subst hn
    have G := GoesN.enumFrom (elts := elts) (x1 := kk) (pos := tpos) 0 (S.draws (prog := X.prog) (w := X.w) (A := X.A.in1) (J.ok.hd hc) it a n3 its.toArray) e n1 (by simp [n1, n2]) (by simp)
    exact G.stops s _ E ⟨⟨old, by rw [Int.zero_add]; exact he⟩, hi, hs⟩ fun h' tk hk _ => inv_turned (tk := tk) J hk hf
  self := fun A i s Q E ⟨⟨_, he⟩, _⟩ h => wpAny_pyIter_enum he h
section
variable {X : Cx} {pos : Pos}
def iEn (K : PySem.W.Frag) (ta : TA) : TI := fun σ H R => ta σ H fun vs H1 => ∃ (S : Src) (a : Addr) (xs : List V), (S = srcL ∨ S = srcT) ∧ vs = [.ref a] ∧ S.sq K H1 a xs ∧ R (itEn S K a) H1
theorem pi_en {e : Expr} {ta : TA} {p tpos : Pos} {elts : List Expr} {kk : Nat} (hg : Gl X "enumerate") (hm : X.mg "enumerate" = none) (ha : PA X [e] ta) (hs : starEach [e] X.env = [(false, eval e X.env)]) : PI X (.Tuple elts kk tpos) (.Call (.Name "enumerate" p) [e] [] pos) (iEn X.K ta) := by
  refine ⟨fun pins s σ H R J h => Call_ (ld_blt J hg hm boot_enumerate (PyProof.Rows.callWith_type1 (thn (ha.run pos pins s σ H _ J h) fun us s1 ⟨vs, H1, J1, r1, S, a, xs, _, ex, hq, q⟩ => ?_) hs rfl))⟩
  subst ex
  cases r1 with
  | cons r rr =>
    cases rr
    cases r
    obtain ⟨its, rv, hsrc⟩ := S.rd J1 hq
    have hal := S.lt hsrc
    refine S.enum hsrc fun h' he hit hsz hk => wpAny_pyIter_enum he ?_
    refine ⟨s1.heap.objs.size + 1, [s1.heap.objs.size + 1, s1.heap.objs.size], _, _, H1, rfl, J1.kept (t' := s1.toks) hk, turn_en S a (s1.heap.objs.size + 1) s1.heap.objs.size, ⟨⟨.none, he⟩, hit, Nat.succ_ne_self _, Nat.ne_of_gt (Nat.lt_succ_of_lt hal), Nat.ne_of_lt hal⟩, fun b hb => ?_, q⟩
    have hle : s1.heap.objs.size ≤ b := by
      rcases List.mem_cons.mp hb with z | z
      · rw [z]; exact Nat.le_succ _
      · rw [List.mem_singleton.mp z]; exact Nat.le_refl _
    exact J1.fpOk hle (J1.hok.fresh hle)
/-- the pairs of enumerate -/
@[simp] def enumD : Nat → List Dat → List Dat
  | _, [] => []
  | n, d :: ds => .tup [.int (n : Nat), d] :: enumD (n + 1) ds
theorem enumD_length : ∀ (n : Nat) (ds : List Dat), (enumD n ds).length = ds.length
  | _, [] => rfl
  | n, d :: ds => by simp [enumD, enumD_length (n + 1) ds]
theorem enumD_get : ∀ (n : Nat) (ds : List Dat) (i : Nat), (enumD n ds)[i]? = ds[i]?.map fun d => .tup [.int ((n + i : Nat) : Int), d]
  | _, [], i => by simp [enumD]
  | n, d :: ds, 0 => by simp [enumD]
  | n, d :: ds, i + 1 => by
    simp only [enumD, List.getElem?_cons_succ]
    rw [enumD_get (n + 1) ds i, Nat.add_assoc, Nat.add_comm 1 i]
theorem walk_en {W : Wd} {ms : Ms} {S : Src} {a : Addr} {xs : List V} {ds : List Dat} {K : PySem.W.Frag} (O : Own W ms) (hS : ∀ W' ms', Ext0 W W' → Own W' ms' → S.sq K W'.H a xs) (hd : RvsOk W xs ds) : WalkD W (itEn S K a) (enumD 0 ds) := by
  refine ⟨fun W' ms' i e O' hi => ?_, fun W' ms' e O' => ⟨xs, hS W' ms' e O', by rw [enumD_length, hd.length]⟩, fun W' ms' i x H' d e O' hget y => ?_⟩
  · rw [enumD_length] at hi
    obtain ⟨v, hv, _⟩ := hd.get (List.getElem?_eq_getElem hi)
    exact ⟨xs, v, hS W' ms' e O', hv⟩
  · obtain ⟨T, x', rfl, hT, rfl, hx⟩ := y
    have hx' := hx xs (hS W' ms' e O')
    rw [enumD_get] at hget
    obtain ⟨d', hd', rfl⟩ := Option.map_eq_some_iff.mp hget
    obtain ⟨v, hv, ok⟩ := hd.get hd'
    rw [hx'] at hv; cases hv
    obtain ⟨O2, e2⟩ := O'.lay (o := .tup [.int (i : Nat), x']) hT
    refine ⟨W'.lay T _, e2, O2, rfl, .tup upd_same (.cons ?_ (.cons ?_ .nil))⟩
    · rw [Nat.zero_add]; exact .int _
    · exact up_v e2 (low_v e.low ok)
end
section
variable {X : Cy} {pos : Pos}
@[simp] def wiEnum (wa : WA) : WI := fun ρ ms k => wa ρ ms fun rs ms1 => match rs with
  | [.lst ds] => k (enumD 0 ds) ms1
  | [.tup ds] => k (enumD 0 ds) ms1
  | _ => False
theorem di_enum {e : Expr} {wa : WA} {p tpos : Pos} {elts : List Expr} {kk : Nat} (hg : Gl X.X "enumerate") (hm : X.X.mg "enumerate" = none) (ha : DA X [e] wa) (hs : starEach [e] X.X.env = [(false, eval e X.X.env)] := by rfl) : DI X (.Tuple elts kk tpos) (.Call (.Name "enumerate" p) [e] [] pos) (wiEnum wa) := by
  obtain ⟨t, pp, l⟩ := ha
  refine ⟨_, pi_en hg hm pp hs, fun W σ ρ ms R k hK Rl O hw q => l W σ ρ ms _ _ hK Rl O hw fun W1 vs rs ms1 e1 O1 ok1 h1 => ?_⟩
  split at h1
  · rename_i ds
    obtain ⟨v, rfl, o1⟩ := ok1.one
    cases o1 with
    | lst h2 h3 =>
      have hh : ∀ W' ms', Ext0 W1 W' → Own W' ms' → SqL X.X.K W'.H _ _ := fun W' ms' x O' => SqL.of (O'.ex _ _ (x.ex _ _ h2))
      exact ⟨srcL, _, _, .inl rfl, rfl, hh W1 ms1 (Ext0.refl _) O1, q W1 _ _ ms1 e1 O1 (walk_en O1 hh h3) h1⟩
  · rename_i ds
    obtain ⟨v, rfl, o1⟩ := ok1.one
    cases o1 with
    | tup h2 h3 =>
      have hh : ∀ W' ms', Ext0 W1 W' → Own W' ms' → SqT X.X.K W'.H _ _ := fun W' ms' x O' => SqT.of (O'.ex _ _ (x.ex _ _ h2))
      exact ⟨srcT, _, _, .inr rfl, rfl, hh W1 ms1 (Ext0.refl _) O1, q W1 _ _ ms1 e1 O1 (walk_en O1 hh h3) h1⟩
  · exact h1.elim
end
end Sy
namespace Sy
open PySem PySem.Spec PyProof.Rows L2
/-! ## dicts -/
@[simp] def keyD : Dat → Option Key
  | .int i => some (.inl i)
  | .str x => some (.inr x)
  | _ => none
@[simp] def datK : Key → Dat
  | .inl i => .int i
  | .inr x => .str x
theorem keyD_datK (k : Key) : keyD (datK k) = some k := by cases k <;> rfl
@[simp] def getK {κ : Type} [DecidableEq κ] : List (κ × Dat) → κ → Option Dat
  | [], _ => none
  | (j, d) :: r, k => if j = k then some d else getK r k
@[simp] def setK {κ : Type} [DecidableEq κ] (kvs : List (κ × Dat)) (k : κ) (d : Dat) : List (κ × Dat) :=
  if (getK kvs k).isSome = true then kvs.map (fun p => if p.1 = k then (p.1, d) else p) else kvs ++ [(k, d)]
@[simp] def delK {κ : Type} [DecidableEq κ] (kvs : List (κ × Dat)) (k : κ) : List (κ × Dat) := kvs.filter fun p => decide (p.1 ≠ k)
@[simp] def mergeD (kvs : List (Key × Dat)) : List (Key × Dat) → List (Key × Dat)
  | [] => kvs
  | (k, d) :: r => mergeD (setK kvs k d) r
section
variable {W : Wd} {κ : Type} [DecidableEq κ]
theorem RkOk.val {k : κ} : ∀ {xs : List (κ × V)} {ds : List (κ × Dat)}, RkOk W xs ds → (getK ds k = none → valV xs k = none) ∧ ∀ d, getK ds k = some d → ∃ v, valV xs k = some v ∧ RvOk W v d
  | _, _, .nil => ⟨fun _ => rfl, fun d h => by cases h⟩
  | (j, v) :: xs, (_, d) :: ds, .cons h r => by
    obtain ⟨h1, h2⟩ := RkOk.val (k := k) r
    by_cases e : j = k
    · simp only [getK, if_pos e]
      rw [valV_pos (p := (j, v)) e]
      exact ⟨fun z => (by cases z), fun d' z => (by cases z; exact ⟨v, rfl, h⟩)⟩
    · simp only [getK, if_neg e]
      rw [valV_neg (p := (j, v)) e]
      exact ⟨h1, h2⟩
theorem RkOk.some_iff {k : κ} {xs : List (κ × V)} {ds : List (κ × Dat)} (r : RkOk W xs ds) : (valV xs k).isSome = (getK ds k).isSome := by
  cases e : getK ds k with
  | none => rw [r.val.1 e]; rfl
  | some d => obtain ⟨v, h, _⟩ := r.val.2 d e; rw [h]; rfl
theorem RkOk.mapSet {k : κ} {v : V} {d : Dat} (h : RvOk W v d) : ∀ {xs : List (κ × V)} {ds : List (κ × Dat)}, RkOk W xs ds → RkOk W (xs.map fun p => if p.1 = k then (p.1, v) else p) (ds.map fun p => if p.1 = k then (p.1, d) else p)
  | _, _, .nil => .nil
  | (j, x) :: xs, (_, y) :: ds, .cons q r => by
    simp only [List.map_cons]
    by_cases e : j = k
    · simp only [if_pos e]; exact .cons h (RkOk.mapSet h r)
    · simp only [if_neg e]; exact .cons q (RkOk.mapSet h r)
theorem RkOk.snoc {k : κ} {v : V} {d : Dat} (h : RvOk W v d) : ∀ {xs : List (κ × V)} {ds : List (κ × Dat)}, RkOk W xs ds → RkOk W (xs ++ [(k, v)]) (ds ++ [(k, d)])
  | _, _, .nil => .cons h .nil
  | _, _, .cons q r => .cons q (RkOk.snoc h r)
theorem RkOk.put {k : κ} {v : V} {d : Dat} (h : RvOk W v d) {xs : List (κ × V)} {ds : List (κ × Dat)} (r : RkOk W xs ds) : RkOk W (putK xs k v) (setK ds k d) := by
  unfold putK setK
  rw [valV_any, r.some_iff]
  split
  · exact r.mapSet h
  · exact r.snoc h
theorem RkOk.drop {k : κ} : ∀ {xs : List (κ × V)} {ds : List (κ × Dat)}, RkOk W xs ds → RkOk W (dropK xs k) (delK ds k)
  | _, _, .nil => .nil
  | (j, x) :: xs, (_, y) :: ds, .cons q r => by
    unfold dropK delK
    by_cases e : j = k
    · rw [List.filter_cons_of_neg (by simp [e]), List.filter_cons_of_neg (by simp [e])]; exact RkOk.drop r
    · rw [List.filter_cons_of_pos (by simp [e]), List.filter_cons_of_pos (by simp [e])]; exact .cons q (RkOk.drop r)
theorem RkOk.merge : ∀ {ys : List (Key × V)} {es : List (Key × Dat)}, RkOk W ys es → ∀ {xs : List (Key × V)} {ds : List (Key × Dat)}, RkOk W xs ds → RkOk W (mergeK xs ys) (mergeD ds es)
  | _, _, .nil, _, _, r => r
  | (k, v) :: ys, (_, d) :: es, .cons h t, _, _, r => RkOk.merge t (r.put h)
theorem RkOk.get : ∀ {xs : List (κ × V)} {ds : List (κ × Dat)} {i : Nat} {k : κ} {v : V}, RkOk W xs ds → xs[i]? = some (k, v) → ∃ d, ds[i]? = some (k, d) ∧ RvOk W v d
  | _, _, _, _, _, .nil, e => by simp at e
  | _, _, 0, _, _, .cons h _, e => by simp at e; obtain ⟨rfl, rfl⟩ := e; exact ⟨_, rfl, h⟩
  | _, _, i + 1, k, v, .cons _ r, e => by
    obtain ⟨d, h1, h2⟩ := RkOk.get (i := i) (k := k) (v := v) r (by simpa using e)
    exact ⟨d, by simpa using h1, h2⟩
end
theorem key_ok {W : Wd} {v : V} {r : Dat} {k : Key} (ok : RvOk W v r) (h : keyD r = some k) : v = kV k := by
  cases ok <;> first | (cases h; rfl) | cases h
theorem kV_ok {W : Wd} (k : Key) : RvOk W (kV k) (datK k) := by cases k <;> first | exact .int _ | exact .str _
/-- how a dict is found: a datum, or a labelled thing -/
@[simp] def dicOf (ms : Ms) : Dat → Option (List (Key × Dat))
  | .dic kvs => some kvs
  | .own i => (match ms[i]? with
    | some (.dic kvs) => some kvs
    | some (.lck (.dic kvs)) => some kvs
    | _ => none)
  | _ => none
theorem dicOf_look {ms : Ms} {r : Dat} {kvs : List (Key × Dat)} (h : dicOf ms r = some kvs) : look ms r = some (.dic kvs) := by
  cases r <;> simp only [dicOf] at h <;> first | (cases h; done) | skip
  · cases h; rfl
  · rename_i i
    simp only [look]
    split at h
    · rename_i e; cases h; rw [e]; rfl
    · rename_i e; cases h; rw [e]; rfl
    · cases h
section
variable {W : Wd} {ms : Ms} {v : V} {r : Dat}
theorem Own.dget (O : Own W ms) (ok : RvOk W v r) {kvs : List (Key × Dat)} (h : dicOf ms r = some kvs) {y : V} {q : Dat} {k : Key} (oky : RvOk W y q) (hk : keyD q = some k) : ∃ a xs, v = .ref a ∧ RkOk W xs kvs ∧ Rd W.H a (.dK xs) ∧ DGet W.H a y (valV xs k) := by
  obtain ⟨a, xs, rfl, h1, h2⟩ := O.dict ok (dicOf_look h)
  refine ⟨a, xs, rfl, h2, h1, .inl ⟨xs, k, h1, key_ok oky hk, rfl⟩⟩
end
section
variable {X : Cy} {pos : Pos}
/-! ### d[k] -/
def rIxD : R2 := fun x y H Q => ∃ a v, x = .ref a ∧ DGet H a y (some v) ∧ Q v H
theorem ix_dict {X : Cx} (hu : X.A.units + 1 < cLine) : IxR X rIxD := by
  intro value slice pins s σ H x y v u Q I rx ry h hs
  obtain ⟨a, z, rfl, g, q⟩ := h
  obtain rfl : v = Value.ref a := rx
  have hT := dict_typeIs I g
  have h₂ : wpAny (model X.prog X.w) X.A (getItem (.ref a) u) (EP X pins σ Q) X.xe s := d_getItem hu I g ry fun w' s3 I3 rw' => ⟨z, H, I3, rw', q⟩
  unfold subscriptTail
  refine wpAny_bind ?_
  rw [getitemInPython_of_ne hT.not_modules]
  refine wpAny_bind (wpAny_specialOf hT PySem.F.slot_dict_getitem.lookup ?_)
  have fin : wpAny (model X.prog X.w) X.A (subscripted slice false (.ref a) u) (fun r s₃ => wpAny (model X.prog X.w) X.A (letTemporaryGo value (.ref a) r >>= fun _ => pure r) (EP X pins σ Q) X.xe s₃) X.xe s := by
    rw [hs]
    exact wpAny_operating (wpAny_mono h₂ (fun r s₃ h₃ => wpAny_bind (wpAny_letTemporaryGo (wpAny_pure h₃))) fun _ _ x => x)
  first
    | exact wpAny_pure (wpAny_bind fin)
    | exact wpAny_bind (wpAny_pure (wpAny_bind fin))
    | exact wpAny_bind fin
theorem IxR.or {X : Cx} {r r' : R2} (h : IxR X r) (h' : IxR X r') : IxR X (fun x y H Q => r x y H Q ∨ r' x y H Q) := fun value slice pins s σ H x y v u Q I rx ry z hs => z.elim (fun z => h value slice pins s σ H x y v u Q I rx ry z hs) fun z => h' value slice pins s σ H x y v u Q I rx ry z hs
/-- a[b]: a list, a tuple, a text, the script, a dict -/
@[simp] def wIxA : WR2 := fun a b ms k => match dicOf ms a with
  | some kvs => (match keyD b with
    | some key => (match getK kvs key with
      | some d => k d ms
      | none => False)
    | none => False)
  | none => wIx a b ms k
theorem lr_ixA {S : Sg} : LR2 S (fun x y H Q => (rIxL S.K x y H Q ∨ rIxT S.K x y H Q) ∨ rIxD x y H Q) wIxA := fun W x y a b ms Q k hK oa ob O h z => by
  unfold wIxA at h
  split at h
  · rename_i kvs e
    split at h
    · rename_i key ek
      split at h
      · rename_i d ed
        obtain ⟨p, xs, rfl, rk, _, g⟩ := O.dget oa e ob ek
        obtain ⟨v, hv, okv⟩ := rk.val.2 d ed
        rw [hv] at g
        exact .inr ⟨p, v, rfl, g, z W v d ms (Ext.refl W) O okv h⟩
      · exact h.elim
    · exact h.elim
  · exact .inl (lr_ix W x y a b ms Q k hK oa ob O h z)
theorem de_ixA {a b : Expr} {wa wb : WE} {pos : Pos} (hu : X.X.A.units + 1 < cLine) (ha : DE X a wa) (hb : DE X b wb) (hs : PlainIx b) : DE X (.Subscript a b pos) (wOp wIxA wa wb) := by
  obtain ⟨ta, pa, la⟩ := ha
  obtain ⟨tb, pb, lb⟩ := hb
  exact ⟨_, pe_ix (IxR.or (ix_list.or ix_tup) (ix_dict hu)) pa pb hs, le_op lr_ixA la lb⟩
/-! ### k in d -/
def rInDc (neg : Bool) : R2 := fun x y H Q => ∃ a o, y = .ref a ∧ DGet H a x o ∧ Q (.bl (if neg then !o.isSome else o.isSome)) H
theorem op_inDc {X : Cx} (hu : X.A.units + 1 < cLine) : OpR X (compareOp .In) (rInDc false) := by
  intro pins s σ H x y v u Q I rx ry h
  obtain ⟨a, o, rfl, g, q⟩ := h
  obtain rfl : u = Value.ref a := ry
  exact d_in hu I g rx fun s3 I3 => ⟨.bl o.isSome, H, I3, rfl, q⟩
theorem op_notInDc {X : Cx} (hu : X.A.units + 1 < cLine) : OpR X (compareOp .NotIn) (rInDc true) := by
  intro pins s σ H x y v u Q I rx ry h
  obtain ⟨a, o, rfl, g, q⟩ := h
  obtain rfl : u = Value.ref a := ry
  exact d_notIn hu I g rx fun s3 I3 => ⟨.bl (!o.isSome), H, I3, rfl, q⟩
def rInSt (neg : Bool) : R2 := fun x y H Q => ∃ (c : Nat) (z : Str), x = .str ⟨#[c]⟩ ∧ y = .str z ∧ Q (.bl (if neg then !decide (c ∈ z.cps.toList) else decide (c ∈ z.cps.toList))) H
/-- x in a list, a tuple of flat things; a key in a dict; a sign in a text -/
@[simp] def wInA (neg : Bool) : WR2 := fun a b ms k => match dicOf ms b with
  | some kvs => (match keyD a with
    | some key => k (.bl (if neg then !(getK kvs key).isSome else (getK kvs key).isSome)) ms
    | none => False)
  | none => (match b with
    | .str z => (match a with
      | .str y => (match y.cps.toList with
        | [c] => k (.bl (if neg then !decide (c ∈ z.cps.toList) else decide (c ∈ z.cps.toList))) ms
        | _ => False)
      | _ => False)
    | _ => wIn neg a b ms k)
theorem lr_inA {S : Sg} {neg : Bool} : LR2 S (fun x y H Q => (rIn S.K neg x y H Q ∨ rInSt neg x y H Q) ∨ rInDc neg x y H Q) (wInA neg) := fun W x y a b ms Q k hK oa ob O h z => by
  unfold wInA at h
  split at h
  · rename_i kvs e
    split at h
    · rename_i key ek
      obtain ⟨p, xs, rfl, rk, _, g⟩ := O.dget ob e oa ek
      refine .inr ⟨p, _, rfl, g, ?_⟩
      rw [rk.some_iff]
      exact z W _ (.bl _) ms (Ext.refl W) O (.bl _) h
    · exact h.elim
  · split at h
    · split at h
      · rename_i y
        split at h
        · rename_i c ec
          cases oa
          cases ob
          refine .inl (.inr ⟨c, _, ?_, rfl, z W _ (.bl _) ms (Ext.refl W) O (.bl _) h⟩)
          rw [show y = ⟨#[c]⟩ from by cases y with | mk cps => exact congrArg Str.mk (Array.ext' (by rw [ec]))]
        · exact h.elim
      · exact h.elim
    · exact .inl (.inl (lr_in W x y a b ms Q k hK oa ob O h z))
theorem do_inA (hu : X.X.A.units + 1 < cLine) : OpR X.X (compareOp .In) (fun x y H Q => (rIn X.X.K false x y H Q ∨ rInSt false x y H Q) ∨ rInDc false x y H Q) ∧ LR2 X.S (fun x y H Q => (rIn X.X.K false x y H Q ∨ rInSt false x y H Q) ∨ rInDc false x y H Q) (wInA false) :=
  ⟨OpR.or (OpR.or op_in_seq (r' := rInSt false) op_in_sign) (op_inDc hu), lr_inA⟩
theorem do_notinA (hu : X.X.A.units + 1 < cLine) : OpR X.X (compareOp .NotIn) (fun x y H Q => (rIn X.X.K true x y H Q ∨ rInSt true x y H Q) ∨ rInDc true x y H Q) ∧ LR2 X.S (fun x y H Q => (rIn X.X.K true x y H Q ∨ rInSt true x y H Q) ∨ rInDc true x y H Q) (wInA true) :=
  ⟨OpR.or (OpR.or op_notIn_seq (r' := rInSt true) op_notIn_sign) (op_notInDc hu), lr_inA⟩
/-! ### len -/
@[simp] def wLenA : WC := fun rs ms k => match rs with
  | [r] => (match dicOf ms r with
    | some kvs => k (.int (kvs.length : Nat)) ms
    | none => wLen rs ms k)
  | _ => False
def rLenDc : List V → Hp → VK → Prop := fun xs H Q => ∃ a kvs, xs = [V.ref a] ∧ Rd H a (.dK kvs) ∧ Q (.int kvs.length) H
theorem call_lenDc {X : Cx} : CallR X (.builtin "len") rLenDc := by
  intro pins s σ H xs us Q I r h
  obtain ⟨a, kvs, rfl, ha, q⟩ := h
  obtain ⟨u, rfl, ru⟩ := vals1 r
  cases ru
  exact d_len I ha fun t s' I' => ⟨.int kvs.length, H, I', ⟨t, rfl⟩, q⟩
theorem dc_lenA : CallR X.X (.builtin "len") (fun xs H Q => (∃ x n, xs = [x] ∧ LenV X.X.K x H n ∧ Q (.int n) H) ∨ rLenDc xs H Q) ∧ LC X.S (fun xs H Q => (∃ x n, xs = [x] ∧ LenV X.X.K x H n ∧ Q (.int n) H) ∨ rLenDc xs H Q) wLenA := by
  refine ⟨fun pins s σ H xs us Q I rv hh => hh.elim (dc_len.1 pins s σ H xs us Q I rv) (call_lenDc pins s σ H xs us Q I rv), fun W vs rs ms Q k hK ok O hw q => ?_⟩
  unfold wLenA at hw
  split at hw
  · split at hw
    · rename_i r _ kvs e
      obtain ⟨v, rfl, o1⟩ := ok.one
      obtain ⟨a, xs, rfl, h1, h2⟩ := O.dict o1 (dicOf_look e)
      refine .inr ⟨a, xs, rfl, h1, ?_⟩
      rw [h2.length]
      exact q W _ (.int _) ms (Ext.refl W) O (.int _) hw
    · exact .inl (dc_len.2 W vs _ ms Q k hK ok O hw q)
  · exact hw.elim
end
end Sy
namespace Sy
open PySem PySem.Spec PyProof.Rows L2
section
variable {X : Cy} {pos : Pos}
/-! ### a[b] = e -/
def rSetD : V → V → V → Hp → (Hp → Prop) → Prop := fun o i v H Q => ∃ a H', o = .ref a ∧ DPut H a i v H' ∧ Q H'
theorem set_dict {X : Cx} (hu : X.A.units + 1 < cLine) : PSet X rSetD := by
  intro pins s σ H o i v ov iv u Q I ro ri rv h
  obtain ⟨a, H', rfl, g, q⟩ := h
  obtain rfl : ov = Value.ref a := ro
  exact d_setItem hu I g ri rv fun s' I' => ⟨H', I', q⟩
theorem PSet.or {X : Cx} {t t' : TSet} (h : PSet X t) (h' : PSet X t') : PSet X (fun o i v H Q => t o i v H Q ∨ t' o i v H Q) := fun pins s σ H o i v ov iv u Q I ro ri rv z => z.elim (h pins s σ H o i v ov iv u Q I ro ri rv) (h' pins s σ H o i v ov iv u Q I ro ri rv)
@[simp] def wgSub (wo wi : WE) : WG := fun r ρ ms k => wo ρ ms fun o ms1 => wi ρ ms1 fun i ms2 => match o with
  | .own j => (match ms2[j]? with
    | some (.lst ds) => (match i with
      | .int n => (match ixN ds.length n with
        | some m => k ρ (ms2.set j (.lst (ds.set m r)))
        | none => False)
      | _ => False)
    | some (.dic kvs) => (match keyD i with
      | some key => kvs.length < sizeLine ∧ k ρ (ms2.set j (.dic (setK kvs key r)))
      | none => False)
    | _ => False)
  | _ => False
theorem dg_sub {o i : Expr} {wo wi : WE} {pp : Pos} (hu : X.X.A.units + 1 < cLine) (ho : DE X o wo) (hi : DE X i wi)
    (ha : ∀ v, assign (.Subscript o i pp) X.X.env v = (do
      let ov ← holding [v] (eval o X.X.env)
      let iv ← holding [v, ov] (eval i X.X.env)
      standAt pp
      holding [v, ov, iv] (setItem ov iv v)
      release [v, ov, iv] []) := by intro _; rfl) : DG X (.Subscript o i pp) (wgSub wo wi) [] := by
  obtain ⟨to, po, lo⟩ := ho
  obtain ⟨ti, pi, li⟩ := hi
  refine ⟨_, pg_sub po pi (PSet.or set_list (set_dict hu)) ha, fun W σ ρ ms v r Q k hK R O ok hw q => ?_⟩
  refine lo W σ ρ ms _ _ hK R O hw fun W1 vo ro ms1 e1 O1 ok1 h1 => li W1 σ ρ ms1 _ _ (e1.s.trans hK) (R.mono e1) O1 h1 fun W2 vi ri ms2 e2 O2 ok2 h2 => ?_
  have ok' := up_v e2 (up_v e1 ok)
  have ok1' := up_v e2 ok1
  split at h2
  · rename_i j
    cases ok1' with
    | own ha =>
      split at h2
      · rename_i ds e3
        split at h2
        · rename_i n
          split at h2
          · rename_i m e4
            cases ok2
            obtain ⟨b, xs, hb, hg, k1, k2⟩ := O2.lstAt e3
            rw [ha] at hb; cases hb
            refine .inl ⟨_, xs, n, m, rfl, rfl, k1, by rw [k2.length]; exact e4, ?_⟩
            obtain ⟨O3, e5⟩ := O2.putLst ha hg k1 (Dts.set ok' m k2)
            exact q _ σ ρ _ ((e1.trans e2).trans e5) O3 (((R.mono e1).mono e2).mono e5) rfl (fun _ _ => rfl) h2
          · exact h2.elim
        · exact h2.elim
      · rename_i kvs e3
        split at h2
        · rename_i key ek
          obtain ⟨b, xs, hb, hg, k1, k2⟩ := O2.dicAt e3
          rw [ha] at hb; cases hb
          obtain rfl := key_ok ok2 ek
          refine .inr ⟨_, _, rfl, DPut.k k1 (by rw [k2.length]; exact h2.1), ?_⟩
          obtain ⟨O3, e5⟩ := O2.putDic ha hg k1 (k2.put (k := key) ok')
          exact q _ σ ρ _ ((e1.trans e2).trans e5) O3 (((R.mono e1).mono e2).mono e5) rfl (fun _ _ => rfl) h2.2
        · exact h2.elim
      · exact h2.elim
  · exact h2.elim
/-! ### {}, {k: v, ..} -/
@[simp] def wDNew : WE := fun _ ms k => k (.own ms.length) (ms ++ [.dic []])
theorem de_dnew : DE X (.Dict [] [] pos) wDNew := ⟨_, pe_dnewK, fun W σ ρ ms Q k hK R O h q p hp => by
  obtain ⟨O2, e2⟩ := O.take (o := .dK []) (c := .dic []) hp ⟨[], rfl, .nil⟩
  exact q _ _ _ _ e2 O2 (take_own O) h⟩
@[simp] def wPairs : List (WE × WE) → Env → Ms → (List (Key × Dat) → Ms → Prop) → Prop
  | [], _, ms, k => k [] ms
  | (a, b) :: r, ρ, ms, k => a ρ ms fun x ms1 => b ρ ms1 fun y ms2 => match keyD x with
    | some key => wPairs r ρ ms2 fun ps ms3 => k ((key, y) :: ps) ms3
    | none => False
inductive DPs (X : Cy) (pos : Pos) : List (Option Expr) → List Expr → List (WE × WE) → Prop
  | nil : DPs X pos [] [] []
  | cons {k v : Expr} {ks : List (Option Expr)} {vs : List Expr} {a b : WE} {r : List (WE × WE)} : DE X k a → DE X v b → DPs X pos ks vs r → DPs X pos (some k :: ks) (v :: vs) ((a, b) :: r)
theorem DPs.ok {keys : List (Option Expr)} {values : List Expr} {ws : List (WE × WE)} (h : DPs X pos keys values ws) : ∃ trs, PPs X.X pos keys values trs ∧ ∀ (W : Wd) (σ : L2.St) (ρ : Env) (ms : Ms) (Q : List (V × V) → Hp → Prop) (k : List (Key × Dat) → Ms → Prop), W.S = X.S → Rel W σ ρ → Own W ms → wPairs ws ρ ms k →
    (∀ W' (xs : List (Key × V)) ps ms', Ext W W' → Own W' ms' → RkOk W' xs ps → k ps ms' → Q (xs.map fun kv => (kV kv.1, kv.2)) W'.H) → tPairs trs σ W.H Q := by
  induction h with
  | nil => exact ⟨[], pps_nil, fun W σ ρ ms Q k hK R O h q => q W [] [] ms (Ext.refl W) O .nil h⟩
  | cons ha hb _ ih =>
    obtain ⟨trs, pr, lr⟩ := ih
    obtain ⟨ta, pa, la⟩ := ha
    obtain ⟨tb, pb, lb⟩ := hb
    refine ⟨_, pps_cons pa pb pr, fun W σ ρ ms Q k hK R O h q => ?_⟩
    refine la W σ ρ ms _ _ hK R O h fun W1 x a ms1 e1 O1 ok1 h1 => lb W1 σ ρ ms1 _ _ (e1.s.trans hK) (R.mono e1) O1 h1 fun W2 y b ms2 e2 O2 ok2 h2 => ?_
    split at h2
    · rename_i key ek
      obtain rfl := key_ok ok1 ek
      refine lr W2 σ ρ ms2 _ _ (e2.s.trans (e1.s.trans hK)) ((R.mono e1).mono e2) O2 h2 fun W3 xs ps ms3 e3 O3 rk h3 => ?_
      exact q W3 ((key, y) :: xs) ((key, b) :: ps) ms3 ((e1.trans e2).trans e3) O3 (.cons (up_v e3 ok2) rk) h3
    · exact h2.elim
@[simp] def wDisp (ws : List (WE × WE)) : WE := fun ρ ms k => wPairs ws ρ ms fun ps ms1 => ps.length ≤ 15 ∧ k (.own ms1.length) (ms1 ++ [.dic (mergeD [] ps)])
theorem Held.drop {W1 W' : Wd} {D : Addr} {o : HO} {ms : Ms} (h : Held W1 W' D o) (O : Own W' ms) (hk : W'.K = W1.K) : Ext W1 { W' with S := W1.S, P := W1.P } ∧ Own { W' with S := W1.S, P := W1.P } ms ∧ Low W' { W' with S := W1.S, P := W1.P } := by
  have low : Low W' { W' with S := W1.S, P := W1.P } := ⟨hk.symm, Same.refl _, fun _ _ x => x⟩
  have pD : ∀ a v, W1.P a = some v → a ≠ D := fun a v e => ne_of_none e h.pn
  have pW : ∀ a v, W1.P a = some v → W'.P a = some v := fun a v e => by rw [h.p, upd_ne (pD a v e)]; exact e
  refine ⟨⟨rfl, h.e0.ex, h.e0.adr, h.e0.frz, rfl⟩, ⟨O.ex, O.len, O.inj, O.all, fun a v e => O.px a v (pW a v e), fun a v e => O.pg a v (pW a v e), fun i a e => ?_, fun i c e n => ?_⟩, low⟩
  · have := O.pl i a e
    rw [h.p, upd_ne (h.l O i a e)] at this; exact this
  · obtain ⟨a, v, ha, hg, hv, k⟩ := O.cell i c e n
    exact ⟨a, v, ha, hg, hv, k.low low⟩
theorem Held.rel {W1 W' : Wd} {D : Addr} {o : HO} {σ : L2.St} {ρ : Env} (h : Held W1 W' D o) (hS : W'.S = W1.S) (R : Rel W1 σ ρ) : Rel W' σ ρ := by
  have hk : W'.K = W1.K := by show W'.S.K = W1.S.K; rw [hS]
  refine ⟨R.sl.low h.e0.low, fun W2 σ2 ρ2 C dd xs fs ms' e O' R2 g d hx => ?_, R.hd.low h.e0.low (by rw [hS])⟩
  have h2 := h.on e
  obtain ⟨e2, O2, low⟩ := h2.drop O' (by rw [e.k, hk])
  have := R.ex _ σ2 ρ2 C dd xs fs ms' e2 O2 (R2.low low) (show W2.G dd = _ from g) (d.low low) hx
  rw [hS, hk]; exact this
theorem de_disp {keys : List (Option Expr)} {values : List Expr} {ws : List (WE × WE)} (h : DPs X pos keys values ws) (hall : keys.all (·.isSome) = true := by rfl) (hl : keys.length = values.length := by rfl) (h0 : keys ≠ [] := by intro z; cases z) (h15 : keys.length ≤ 15 := by decide) : DE X (.Dict keys values pos) (wDisp ws) := by
  obtain ⟨trs, pp, l⟩ := h.ok
  refine ⟨_, pe_disp pp hall hl h0 h15, fun W σ ρ ms Q k hK R O hw q D hD => ?_⟩
  obtain ⟨hh, Oh⟩ := Held.start (W0 := W) (o := .dK []) O hD
  refine l (W.hold D (.dK [])) σ ρ ms _ _ hK (hh.rel rfl R) Oh hw fun W' xs ps ms' e O' rk h1 => ?_
  have h2 := hh.on e
  have hk : W'.K = W.K := e.k
  refine ⟨h2.at O', xs, rfl, by rw [rk.length]; exact h1.1, ?_⟩
  have low : Low W' (W'.labl W.S W.P D (.dK (mergeK [] xs))) := ⟨hk.symm, Same.refl _, fun i a e => by show (W'.A ++ [D])[i]? = some a; rw [List.getElem?_append_left (List.getElem?_eq_some_iff.mp e).1]; exact e⟩
  obtain ⟨e3, O3, ok3⟩ := h2.take (u := .dK (mergeK [] xs)) (c := .dic (mergeD [] ps)) O' hk ⟨_, rfl, (RkOk.merge rk .nil).low low⟩
  exact q _ _ _ _ e3 O3 ok3 h1.2
/-! ### {k: v for x in xs if ..} -/
@[simp] def dcW (wg : WG) (wt : WT) (wk wv : WE) (ρ : Env) (k : List (Key × Dat) → Ms → Prop) : List Dat → List (Key × Dat) → Ms → Prop
  | [], acc, ms => k acc ms
  | d :: ds, acc, ms => wg d ρ ms fun ρ1 ms1 => wt ρ1 ms1 fun b ms2 => if b = true then wk ρ1 ms2 fun y ms3 => wv ρ1 ms3 fun z ms4 => (match keyD y with
      | some key => acc.length < sizeLine ∧ dcW wg wt wk wv ρ k ds (setK acc key z) ms4
      | none => False) else dcW wg wt wk wv ρ k ds acc ms2
@[simp] def wDc (wi : WI) (wg : WG) (wt : WT) (wk wv : WE) (vs : List Nat) : WE := fun ρ ms k => wi ρ ms fun ds ms1 => dcW wg wt wk wv (wipeE ρ vs) (fun acc ms2 => k (.own ms2.length) (ms2 ++ [.dic acc])) ds [] ms1
theorem le_dc {S : Sg} {ti : TI} {g : TG} {tt : TT} {tk tv : TE} {wi : WI} {wg : WG} {wt : WT} {wk wv : WE} {vs ss : List Nat} (hss : ∀ i ∈ ss, i ∈ vs) (li : LI S ti wi) (lg : LG S.nv g wg ss) (lt : LT S.nv tt wt) (lk : LE S.nv tk wk) (lv : LE S.nv tv wv) : LE S (tDc ti g tt tk tv vs) (wDc wi wg wt wk wv vs) := by
  intro W σ ρ ms Q k hK R O hw q
  refine li W σ ρ ms _ _ hK R O hw fun W1 J ds ms1 e1 O1 wkk h1 => ?_
  intro D hD
  have hS1 : W1.S = S := e1.s.trans hK
  obtain ⟨hd0, Oh0⟩ := Held.start (W0 := W1) (o := .dK []) O1 hD
  refine ⟨fun i m H => m = ds.length - i ∧ i ≤ ds.length ∧ ∃ W' ms' xs acc, H = W'.H ∧ W'.S = S.nv ∧ Held W1 W' D (.dK xs) ∧ Own W' ms' ∧ RkOk W' xs acc ∧ dcW wg wt wk wv (wipeE ρ vs) _ (ds.drop i) acc ms',
    ⟨ds.length, by simp, Nat.zero_le _, (W1.hold D (.dK [])).wish never, ms1, [], [], rfl, by show ({ W1.S with Z := never } : Sg) = _; rw [hS1]; rfl, ⟨hd0.new, hd0.gn, hd0.pn, hd0.e0.trans wish_e0, hd0.p⟩, Oh0.wish, .nil, h1⟩, ?_⟩
  rintro i m H' ⟨rfl, hi, W', ms', xs, acc, rfl, hS, hh, O', hacc, hf⟩
  have hk' : W'.K = W1.K := by show W'.S.K = W1.S.K; rw [hS, hS1]; rfl
  by_cases hlt : i < ds.length
  · rw [List.drop_eq_getElem_cons hlt] at hf
    refine .inr ⟨wkk.goes W' ms' i hh.e0 O' hlt, fun H => ∃ W' ms' xs acc, H = W'.H ∧ W'.S = S.nv ∧ Held W1 W' D (.dK xs) ∧ Own W' ms' ∧ RkOk W' xs acc ∧ dcW wg wt wk wv (wipeE ρ vs) _ (ds.drop (i + 1)) acc ms', fun H2 h2 => ⟨ds.length - (i + 1), by omega, rfl, hlt, h2⟩, fun x H2 y => ?_⟩
    obtain ⟨W2, e2, O2, rfl, hd⟩ := wkk.yields W' ms' i x H2 _ hh.e0 O' (List.getElem?_eq_getElem hlt) y
    have RS : RelS W2 (L2.wipe σ vs) (wipeE ρ vs).sl := (((R.sl.low e1.low).low hh.e0.low).low e2.low).wipe vs
    refine lg W2 (L2.wipe σ vs) (wipeE ρ vs) ms' x ds[i] _ _ (e2.s.trans hS) ⟨RS, never_x, ((R.hd.low e1.low (by rw [e1.s])).low (hh.e0.low) (by rw [hS, hS1]; rfl)).low e2.low (by rw [e2.s])⟩ O2 hd hf fun W3 σ3 ρ3 ms3 e3 O3 R3 n3 f3 h3 => ?_
    refine ⟨wipe_same hss n3 f3, ?_⟩
    refine lt W3 σ3 ρ3 ms3 _ _ (e3.s.trans (e2.s.trans hS)) R3 O3 h3 fun W4 b ms4 e4 O4 h4 => ?_
    have e24 : Ext W' W4 := (e2.trans e3).trans e4
    cases b with
    | false =>
      rw [if_neg Bool.false_ne_true] at h4 ⊢
      exact ⟨W4, ms4, xs, acc, rfl, e24.s.trans hS, hh.on e24, O4, hacc.up e24, h4⟩
    | true =>
      rw [if_pos rfl] at h4 ⊢
      refine lk W4 σ3 ρ3 ms4 _ _ (e24.s.trans hS) (R3.mono e4) O4 h4 fun W5 v r ms5 e5 O5 ok5 h5 => lv W5 σ3 ρ3 ms5 _ _ (e5.s.trans (e24.s.trans hS)) ((R3.mono e4).mono e5) O5 h5 fun W6 u r' ms6 e6 O6 ok6 h6 => ?_
      have e26 : Ext W' W6 := (e24.trans e5).trans e6
      split at h6
      · rename_i key ek
        have hh6 := hh.on e26
        have ha6 := hacc.up e26
        obtain ⟨hh7, O7⟩ := hh6.put (u := .dK (putK xs key u)) O6
        refine ⟨xs, key, key_ok ok5 ek, hh6.at O6, by rw [ha6.length]; exact h6.1, W6.hold D (.dK (putK xs key u)), ms6, putK xs key u, setK acc key r', rfl, e26.s.trans hS, hh7, O7, ?_, h6.2⟩
        exact (ha6.put ok6).low hold_low
      · exact h6.elim
  · have hi' : i = ds.length := by omega
    subst hi'
    rw [List.drop_length] at hf
    refine .inl ⟨wkk.stops W' ms' hh.e0 O', ?_⟩
    have low : Low W' (W'.labl W1.S W1.P D (.dK xs)) := ⟨hk'.symm, Same.refl _, fun i a e => by show (W'.A ++ [D])[i]? = some a; rw [List.getElem?_append_left (List.getElem?_eq_some_iff.mp e).1]; exact e⟩
    obtain ⟨e3, O3, ok3⟩ := hh.take (u := .dK xs) (c := .dic acc) O' hk' ⟨_, rfl, hacc.low low⟩
    have := q (W'.labl W1.S W1.P D (.dK xs)) (.ref D) (.own ms'.length) _ (e1.trans e3) O3 ok3 hf
    have z : (W'.labl W1.S W1.P D (.dK xs)).H = W'.H := upd_id (hh.at O')
    rw [z] at this; exact this
theorem de_dc {kx vx tg iter : Expr} {ifs : List Expr} {scope : Scope} {own : List (Str × Nat)} {wi : WI} {wg : WG} {wt : WT} {wk wv : WE} {ss : List Nat} (hc : X.X.calm = true) (hN : X.X.N.Nodup) (hi : DI X tg iter wi) (ok : BlkOk X.X.N X.X.env.scope scope own)
    (hg : ∀ s H C cl fp, DG (X.blk s H scope cl C fp) tg wg ss) (ht : ∀ s H C cl fp, DTs (X.blk s H scope cl C fp) ifs wt)
    (hk : ∀ s H C cl fp, DE (X.blk s H scope cl C fp) kx wk) (hv : ∀ s H C cl fp, DE (X.blk s H scope cl C fp) vx wv) (hss : ∀ i ∈ ss, i ∈ own.map (·.2) := by decide) (hs : ∀ x, foldedSetIterable iter X.X.env x = pure x := by intro _; rfl) :
    DE X (.DictComp kx vx [⟨tg, iter, ifs, 0⟩] scope pos) (wDc wi wg wt wk wv (own.map (·.2))) := by
  obtain ⟨ti, pi, li⟩ := hi
  exact ⟨_, pe_dc (g := tgOf X.S.nv wg ss) (tt := ttOf X.S.nv wt) (tk := teOf X.S.nv wk) (tv := teOf X.S.nv wv) hc hN pi ok (fun s H C cl fp => (hg s H C cl fp).pg) (fun s H C cl fp => (ht s H C cl fp).pts) (fun s H C cl fp => (hk s H C cl fp).pe) (fun s H C cl fp => (hv s H C cl fp).pe) hs, le_dc hss li lg_of lt_of le_of le_of⟩
end
end Sy
namespace Sy
open PySem PySem.Spec PyProof.Rows L2
section
variable {X : Cy} {pos : Pos}
/-! ### d.get(k), d.get(k, x), d.pop(k), d.pop(k, x), d.clear() -/
theorem m1_ok {X : Cx} {o e : Expr} {m : Str} {apos cpos : Pos} (base : attributeBase o m X.env (eval o X.env) = eval o X.env := by rfl) (few : ((backTo cpos (starEach [e] X.env)).all (fun x => !x.1) && (backToKw cpos (keywordEach [] X.env)).all (fun x => x.1.isSome)
    && decide (([e] : List Expr).length + ([] : List Keyword).length + (if ([] : List Keyword).isEmpty then 0 else 1) < 30)) = true := by rfl) (line : (apos.endLine == cpos.line) = true := by rfl) (trees : backTo cpos (starEach [e] X.env) = [(false, eval e X.env)] := by rfl) : M1 X o m apos e cpos := ⟨base, few, line, trees⟩
@[simp] def wGet1 (wd wk : WE) : WE := fun ρ ms k => wd ρ ms fun r ms1 => match dicOf ms1 r with
  | some _ => wk ρ ms1 fun q ms2 => (match dicOf ms2 r, keyD q with
    | some kvs, some key => k ((getK kvs key).getD .non) ms2
    | _, _ => False)
  | none => False
theorem isD_of {W : Wd} {ms : Ms} {v : V} {r : Dat} {kvs : List (Key × Dat)} (O : Own W ms) (ok : RvOk W v r) (h : dicOf ms r = some kvs) : ∃ a, v = .ref a ∧ IsD W.H a := by
  obtain ⟨a, xs, rfl, h1, _⟩ := O.dict ok (dicOf_look h)
  exact ⟨a, rfl, .inl ⟨xs, h1⟩⟩
theorem de_get1 {o e : Expr} {apos cpos : Pos} {wd wk : WE} (hu : X.X.A.units + 1 < cLine) (ho : DE X o wd) (he : DE X e wk) (m : M1 X.X o "get" apos e cpos) : DE X (.Call (.Attribute o "get" apos) [e] [] cpos) (wGet1 wd wk) := by
  obtain ⟨td, pd, ld⟩ := ho
  obtain ⟨tk, pk, lk⟩ := he
  refine ⟨_, pe_dget1 hu pd pk m, fun W σ ρ ms Q k hK R O hw q => ld W σ ρ ms _ _ hK R O hw fun W1 v r ms1 e1 O1 ok1 h1 => ?_⟩
  split at h1
  · rename_i kv0 e0
    obtain ⟨a, rfl, isd⟩ := isD_of O1 ok1 e0
    refine ⟨a, rfl, isd, lk W1 σ ρ ms1 _ _ (e1.s.trans hK) (R.mono e1) O1 h1 fun W2 y qd ms2 e2 O2 ok2 h2 => ?_⟩
    split at h2
    · rename_i kvs key g1 g2
      obtain ⟨p, xs, ep, rk, _, g⟩ := O2.dget (up_v e2 ok1) g1 ok2 g2
      cases ep
      refine ⟨_, g, ?_⟩
      cases ev : getK kvs key with
      | none => rw [ev] at h2; rw [rk.val.1 ev]; exact q W2 _ _ ms2 (e1.trans e2) O2 .non h2
      | some d =>
        rw [ev] at h2
        obtain ⟨u, hu, oku⟩ := rk.val.2 d ev
        rw [hu]
        exact q W2 _ _ ms2 (e1.trans e2) O2 oku h2
    · exact h2.elim
  · exact h1.elim
theorem m2_ok {X : Cx} {o e f : Expr} {m : Str} {apos cpos : Pos} (base : attributeBase o m X.env (eval o X.env) = eval o X.env := by rfl) (few : ((backTo cpos (starEach [e, f] X.env)).all (fun x => !x.1) && (backToKw cpos (keywordEach [] X.env)).all (fun x => x.1.isSome)
    && decide (([e, f] : List Expr).length + ([] : List Keyword).length + (if ([] : List Keyword).isEmpty then 0 else 1) < 30)) = true := by rfl) (line : (apos.endLine == cpos.line) = true := by rfl) (trees : backTo cpos (starEach [e, f] X.env) = [(false, eval e X.env), (false, eval f X.env)] := by rfl) : M2 X o m apos e f cpos := ⟨base, few, line, trees⟩
@[simp] def wGet2 (wd wk wx : WE) : WE := fun ρ ms k => wd ρ ms fun r ms1 => match dicOf ms1 r with
  | some _ => wk ρ ms1 fun q ms2 => wx ρ ms2 fun x ms3 => (match dicOf ms3 r, keyD q with
    | some kvs, some key => k ((getK kvs key).getD x) ms3
    | _, _ => False)
  | none => False
theorem de_get2 {o e f : Expr} {apos cpos : Pos} {wd wk wx : WE} (hu : X.X.A.units + 1 < cLine) (ho : DE X o wd) (he : DE X e wk) (hf : DE X f wx) (m : M2 X.X o "get" apos e f cpos) : DE X (.Call (.Attribute o "get" apos) [e, f] [] cpos) (wGet2 wd wk wx) := by
  obtain ⟨td, pd, ld⟩ := ho
  obtain ⟨tk, pk, lk⟩ := he
  obtain ⟨tx, px, lx⟩ := hf
  refine ⟨_, pe_dget2 hu pd pk px m, fun W σ ρ ms Q k hK R O hw q => ld W σ ρ ms _ _ hK R O hw fun W1 v r ms1 e1 O1 ok1 h1 => ?_⟩
  split at h1
  · rename_i kv0 e0
    obtain ⟨a, rfl, isd⟩ := isD_of O1 ok1 e0
    refine ⟨a, rfl, isd, lk W1 σ ρ ms1 _ _ (e1.s.trans hK) (R.mono e1) O1 h1 fun W2 y qd ms2 e2 O2 ok2 h2 => lx W2 σ ρ ms2 _ _ (e2.s.trans (e1.s.trans hK)) ((R.mono e1).mono e2) O2 h2 fun W3 z zd ms3 e3 O3 ok3 h3 => ?_⟩
    have e13 := e2.trans e3
    split at h3
    · rename_i kvs key g1 g2
      obtain ⟨p, xs, ep, rk, _, g⟩ := O3.dget (up_v e13 ok1) g1 (up_v e3 ok2) g2
      cases ep
      refine ⟨_, g, ?_⟩
      cases ev : getK kvs key with
      | none => rw [ev] at h3; rw [rk.val.1 ev]; exact q W3 _ _ ms3 (e1.trans e13) O3 ok3 h3
      | some d =>
        rw [ev] at h3
        obtain ⟨u, hu, oku⟩ := rk.val.2 d ev
        rw [hu]
        exact q W3 _ _ ms3 (e1.trans e13) O3 oku h3
    · exact h3.elim
  · exact h1.elim
@[simp] def wDPop1 (wd wk : WE) : WE := fun ρ ms k => wd ρ ms fun r ms1 => match r with
  | .own j => (match ms1[j]? with
    | some (.dic _) => wk ρ ms1 fun q ms2 => (match ms2[j]?, keyD q with
      | some (.dic kvs), some key => (match getK kvs key with
        | some d => k d (ms2.set j (.dic (delK kvs key)))
        | none => False)
      | _, _ => False)
    | _ => False)
  | _ => False
theorem de_dpop1 {o e : Expr} {apos cpos : Pos} {wd wk : WE} (ho : DE X o wd) (he : DE X e wk) (m : M1 X.X o "pop" apos e cpos) : DE X (.Call (.Attribute o "pop" apos) [e] [] cpos) (wDPop1 wd wk) := by
  obtain ⟨td, pd, ld⟩ := ho
  obtain ⟨tk, pk, lk⟩ := he
  refine ⟨_, pe_dpop1 pd pk m, fun W σ ρ ms Q k hK R O hw q => ld W σ ρ ms _ _ hK R O hw fun W1 v r ms1 e1 O1 ok1 h1 => ?_⟩
  split at h1
  · rename_i j
    split at h1
    · rename_i kv0 e0
      obtain ⟨b, xs0, hb, hg0, k0, _⟩ := O1.dicAt e0
      cases ok1 with
      | own ha =>
        rw [ha] at hb; cases hb
        refine ⟨_, rfl, .inl ⟨_, .inl k0⟩, lk W1 σ ρ ms1 _ _ (e1.s.trans hK) (R.mono e1) O1 h1 fun W2 y qd ms2 e2 O2 ok2 h2 => ?_⟩
        split at h2
        · rename_i kvs key g1 g2
          split at h2
          · rename_i d ed
            obtain ⟨b, xs, hb, hg, k1, rk⟩ := O2.dicAt g1
            rw [e2.adr _ _ ha] at hb; cases hb
            obtain ⟨u, hu, oku⟩ := rk.val.2 d ed
            refine ⟨xs, key, u, k1, key_ok ok2 g2, hu, ?_⟩
            obtain ⟨O3, e3⟩ := O2.putDic (e2.adr _ _ ha) hg k1 (rk.drop (k := key))
            exact q _ _ _ _ ((e1.trans e2).trans e3) O3 (up_v e3 oku) h2
          · exact h2.elim
        · exact h2.elim
    · exact h1.elim
  · exact h1.elim
@[simp] def wDPop2 (wd wk wx : WE) : WE := fun ρ ms k => wd ρ ms fun r ms1 => match r with
  | .own j => (match ms1[j]? with
    | some (.dic _) => wk ρ ms1 fun q ms2 => wx ρ ms2 fun x ms3 => (match ms3[j]?, keyD q with
      | some (.dic kvs), some key => (match getK kvs key with
        | some d => k d (ms3.set j (.dic (delK kvs key)))
        | none => k x ms3)
      | _, _ => False)
    | _ => False)
  | _ => False
theorem de_dpop2 {o e f : Expr} {apos cpos : Pos} {wd wk wx : WE} (ho : DE X o wd) (he : DE X e wk) (hf : DE X f wx) (m : M2 X.X o "pop" apos e f cpos) : DE X (.Call (.Attribute o "pop" apos) [e, f] [] cpos) (wDPop2 wd wk wx) := by
  obtain ⟨td, pd, ld⟩ := ho
  obtain ⟨tk, pk, lk⟩ := he
  obtain ⟨tx, px, lx⟩ := hf
  refine ⟨_, pe_dpop2 pd pk px m, fun W σ ρ ms Q k hK R O hw q => ld W σ ρ ms _ _ hK R O hw fun W1 v r ms1 e1 O1 ok1 h1 => ?_⟩
  split at h1
  · rename_i j
    split at h1
    · rename_i kv0 e0
      obtain ⟨b, xs0, hb, hg0, k0, _⟩ := O1.dicAt e0
      cases ok1 with
      | own ha =>
        rw [ha] at hb; cases hb
        refine ⟨_, rfl, .inl ⟨_, .inl k0⟩, lk W1 σ ρ ms1 _ _ (e1.s.trans hK) (R.mono e1) O1 h1 fun W2 y qd ms2 e2 O2 ok2 h2 => lx W2 σ ρ ms2 _ _ (e2.s.trans (e1.s.trans hK)) ((R.mono e1).mono e2) O2 h2 fun W3 z zd ms3 e3 O3 ok3 h3 => ?_⟩
        have e13 := e2.trans e3
        split at h3
        · rename_i kvs key g1 g2
          obtain ⟨b, xs, hb, hg, k1, rk⟩ := O3.dicAt g1
          rw [e13.adr _ _ ha] at hb; cases hb
          refine ⟨xs, key, k1, key_ok (up_v e3 ok2) g2, fun u hu => ?_, fun hn => ?_⟩
          · cases ed : getK kvs key with
            | none => rw [rk.val.1 ed] at hu; cases hu
            | some d =>
              rw [ed] at h3
              obtain ⟨u', hu', oku⟩ := rk.val.2 d ed
              rw [hu] at hu'; cases hu'
              obtain ⟨O4, e4⟩ := O3.putDic (e13.adr _ _ ha) hg k1 (rk.drop (k := key))
              exact q _ _ _ _ ((e1.trans e13).trans e4) O4 (up_v e4 oku) h3
          · cases ed : getK kvs key with
            | none => rw [ed] at h3; exact q _ _ _ _ (e1.trans e13) O3 ok3 h3
            | some d => obtain ⟨u', hu', _⟩ := rk.val.2 d ed; rw [hn] at hu'; cases hu'
        · exact h3.elim
    · exact h1.elim
  · exact h1.elim
/-! ### dict(d), dict(pairs) -/
/-- the pairs of a list of pairs -/
@[simp] def pairsD : List Dat → Option (List (Key × Dat))
  | [] => some []
  | .tup [x, y] :: r => (match keyD x, pairsD r with
    | some key, some ps => some ((key, y) :: ps)
    | _, _ => none)
  | _ => none
@[simp] def wDictOf : WC := fun rs ms k => match rs with
  | [r] => (match dicOf ms r with
    | some kvs => k (.own ms.length) (ms ++ [.dic kvs])
    | none => (match look ms r with
      | some (.lst ds) => (match pairsD ds with
        | some ps => k (.own ms.length) (ms ++ [.dic (mergeD [] ps)])
        | none => False)
      | _ => False))
  | _ => False
def rDictC : List V → Hp → VK → Prop := fun xs H Q => ∃ a kvs, xs = [.ref a] ∧ Rd H a (.dK kvs) ∧ ∀ p, H p = none → Q (.ref p) (upd H p (.dK kvs))
theorem call_dictC {X : Cx} : CallR X (.type "dict") rDictC := by
  intro pins s σ H xs us Q I r h
  obtain ⟨a, kvs, rfl, ha, q⟩ := h
  obtain ⟨u, rfl, ru⟩ := vals1 r
  cases ru
  exact d_copyOf I ha fun p s' hp I' => ⟨.ref p, _, I', rfl, q p hp⟩
theorem pairsD_ok {W : Wd} {ms : Ms} {K : PySem.W.Frag} (O : Own W ms) : ∀ {vs : List V} {ds : List Dat} {ps : List (Key × Dat)}, RvsOk W vs ds → pairsD ds = some ps → ∃ (as : List Addr) (kvs : List (Key × V)), vs = as.map V.ref ∧ Paired (fun p kv => SqT K W.H p [kV kv.1, kv.2]) as kvs ∧ RkOk W kvs ps
  | _, _, ps, .nil, h => by cases h; exact ⟨[], [], rfl, .nil, .nil⟩
  | _, d :: ds, ps, .cons hd hr, h => by
    unfold pairsD at h
    split at h
    · rename_i e; cases e
    · rename_i x y r e
      cases e
      split at h
      · rename_i key qs ek er
        cases h
        obtain ⟨as, kvs, h1, h2, h3⟩ := pairsD_ok (K := K) O hr er
        cases hd with
        | tup g1 g2 =>
          obtain ⟨v, w, rfl, okv, okw⟩ := Dts.two g2
          obtain rfl := key_ok okv ek
          exact ⟨_ :: as, (key, w) :: kvs, by rw [h1]; rfl, .cons (SqT.of (O.ex _ _ g1)) h2, .cons okw h3⟩
      · cases h
    · cases h
theorem dc_dictOf (hc : X.X.calm = true) : CallR X.X (.type "dict") (fun xs H Q => rDictC xs H Q ∨ ∃ (a : Addr) (ps : List Addr) (kvs : List (Key × V)), xs = [.ref a] ∧ SqL X.X.K H a (ps.map V.ref) ∧ Paired (fun p kv => SqT X.X.K H p [kV kv.1, kv.2]) ps kvs ∧ ∀ p, H p = none → Q (.ref p) (upd H p (.dK (mergeK [] kvs)))) ∧
    LC X.S (fun xs H Q => rDictC xs H Q ∨ ∃ (a : Addr) (ps : List Addr) (kvs : List (Key × V)), xs = [.ref a] ∧ SqL X.X.K H a (ps.map V.ref) ∧ Paired (fun p kv => SqT X.X.K H p [kV kv.1, kv.2]) ps kvs ∧ ∀ p, H p = none → Q (.ref p) (upd H p (.dK (mergeK [] kvs)))) wDictOf := by
  refine ⟨fun pins s σ H xs us Q I rv hh => hh.elim (call_dictC pins s σ H xs us Q I rv) (call_dictP hc pins s σ H xs us Q I rv), fun W vs rs ms Q k hK ok O hw q => ?_⟩
  unfold wDictOf at hw
  split at hw
  · rename_i r
    obtain ⟨v, rfl, o1⟩ := ok.one
    split at hw
    · rename_i kvs e
      obtain ⟨a, xs, rfl, h1, h2⟩ := O.dict o1 (dicOf_look e)
      refine .inl ⟨a, xs, rfl, h1, fun p hp => ?_⟩
      obtain ⟨O2, e2⟩ := O.take (o := .dK xs) (c := .dic kvs) hp ⟨xs, rfl, h2.low take_low⟩
      exact q _ _ _ _ e2 O2 (take_own O) hw
    · split at hw
      · rename_i ds e
        split at hw
        · rename_i ps ep
          obtain ⟨a, xs, rfl, h1, h2⟩ := O.list o1 e
          obtain ⟨as, kvs, rfl, h3, h4⟩ := pairsD_ok (K := X.X.K) O h2 ep
          refine .inr ⟨a, as, kvs, rfl, SqL.of h1, h3, fun p hp => ?_⟩
          obtain ⟨O2, e2⟩ := O.take (o := .dK (mergeK [] kvs)) (c := .dic (mergeD [] ps)) hp ⟨_, rfl, (RkOk.merge h4 .nil).low take_low⟩
          exact q _ _ _ _ e2 O2 (take_own O) hw
        · exact hw.elim
      · exact hw.elim
  · exact hw.elim
/-! ### walks of a dict -/
/-- a dict that does not change now -/
@[simp] def frzOf (ms : Ms) : Dat → Option (List (Key × Dat))
  | .dic kvs => some kvs
  | .own i => (match ms[i]? with
    | some (.lck (.dic kvs)) => some kvs
    | _ => none)
  | _ => none
theorem Own.frzD {W : Wd} {ms : Ms} {v : V} {r : Dat} {kvs : List (Key × Dat)} (O : Own W ms) (ok : RvOk W v r) (h : frzOf ms r = some kvs) : ∃ a ob xs, v = .ref a ∧ W.H a = some (.frz ob (.dK xs)) ∧ RkOk W xs kvs ∧ ∀ W' ms', Ext0 W W' → Own W' ms' → W'.H a = some (.frz ob (.dK xs)) := by
  cases r <;> simp only [frzOf] at h <;> first | (cases h; done) | skip
  · cases h
    cases ok with
    | dic h1 h2 => exact ⟨_, _, _, rfl, O.ex _ _ h1, h2.rks, fun W' ms' e O' => O'.ex _ _ (e.ex _ _ h1)⟩
  · rename_i i
    split at h
    · rename_i kv e
      cases h
      cases ok with
      | own ha =>
        obtain ⟨b, o, hb, hg, ho, ob, u, rfl, xs, rfl, rk⟩ := O.cell i _ e (fun z => by cases z)
        rw [ha] at hb; cases hb
        exact ⟨_, ob, xs, rfl, ho, rk, fun W' ms' e O' => e.frz _ _ _ ho⟩
    · cases h
@[simp] def wiKeys (we : WE) : WI := fun ρ ms k => we ρ ms fun r ms1 => match frzOf ms1 r with
  | some kvs => k (kvs.map fun p => datK p.1) ms1
  | none => False
@[simp] def wiVals (we : WE) : WI := fun ρ ms k => we ρ ms fun r ms1 => match frzOf ms1 r with
  | some kvs => k (kvs.map fun p => p.2) ms1
  | none => False
@[simp] def wiItems (we : WE) : WI := fun ρ ms k => we ρ ms fun r ms1 => match frzOf ms1 r with
  | some kvs => k (kvs.map fun p => .tup [datK p.1, p.2]) ms1
  | none => False
theorem di_keys {tg e : Expr} {we : WE} (h : DE X e we) : DI X tg e (wiKeys we) := by
  obtain ⟨t, p, l⟩ := h
  refine ⟨_, pi_keys p, fun W σ ρ ms R k hK Rl O hw q => l W σ ρ ms _ _ hK Rl O hw fun W1 v r ms1 e1 O1 ok1 h1 => ?_⟩
  split at h1
  · rename_i kvs ek
    obtain ⟨a, ob, xs, rfl, hH, rk, st⟩ := O1.frzD ok1 ek
    refine ⟨a, ob, rfl, .inl ⟨xs, hH, q W1 _ _ ms1 e1 O1 ⟨fun W' ms' i e O' hi => ⟨st W' ms' e O', by rw [List.length_map] at hi; rw [rk.length]; exact hi⟩, fun W' ms' e O' => ⟨st W' ms' e O', by rw [List.length_map, rk.length]; exact Nat.le_refl _⟩, fun W' ms' i x H' d e O' hget y => ?_⟩ h1⟩⟩
    obtain ⟨rfl, key, v, hi, rfl⟩ := y
    obtain ⟨d', hd', _⟩ := rk.get hi
    rw [List.getElem?_map, hd'] at hget
    cases hget
    exact ⟨W', Ext.refl _, O', rfl, kV_ok key⟩
  · exact h1.elim
theorem di_vals {tg e : Expr} {apos cpos : Pos} {we : WE} (h : DE X e we) (hbase : attributeBase e "values" X.X.env (eval e X.X.env) = eval e X.X.env := by rfl) (hline : (apos.endLine == cpos.line) = true := by rfl) : DI X tg (.Call (.Attribute e "values" apos) [] [] cpos) (wiVals we) := by
  obtain ⟨t, p, l⟩ := h
  refine ⟨_, pi_values p hbase hline, fun W σ ρ ms R k hK Rl O hw q => l W σ ρ ms _ _ hK Rl O hw fun W1 v r ms1 e1 O1 ok1 h1 => ?_⟩
  split at h1
  · rename_i kvs ek
    obtain ⟨a, ob, xs, rfl, hH, rk, st⟩ := O1.frzD ok1 ek
    refine ⟨a, ob, xs, rfl, hH, q W1 _ _ ms1 e1 O1 ⟨fun W' ms' i e O' hi => ⟨st W' ms' e O', by rw [List.length_map] at hi; rw [rk.length]; exact hi⟩, fun W' ms' e O' => ⟨st W' ms' e O', by rw [List.length_map, rk.length]; exact Nat.le_refl _⟩, fun W' ms' i x H' d e O' hget y => ?_⟩ h1⟩
    obtain ⟨rfl, key, hi⟩ := y
    obtain ⟨d', hd', okd⟩ := rk.get hi
    rw [List.getElem?_map, hd'] at hget
    cases hget
    exact ⟨W', Ext.refl _, O', rfl, low_v e.low okd⟩
  · exact h1.elim
theorem di_items {e : Expr} {elts : List Expr} {kk : Nat} {tpos apos cpos : Pos} {we : WE} (h : DE X e we) (hbase : attributeBase e "items" X.X.env (eval e X.X.env) = eval e X.X.env := by rfl) (hline : (apos.endLine == cpos.line) = true := by rfl) : DI X (.Tuple elts kk tpos) (.Call (.Attribute e "items" apos) [] [] cpos) (wiItems we) := by
  obtain ⟨t, p, l⟩ := h
  refine ⟨_, pi_items p hbase hline, fun W σ ρ ms R k hK Rl O hw q => l W σ ρ ms _ _ hK Rl O hw fun W1 v r ms1 e1 O1 ok1 h1 => ?_⟩
  split at h1
  · rename_i kvs ek
    obtain ⟨a, ob, xs, rfl, hH, rk, st⟩ := O1.frzD ok1 ek
    refine ⟨a, ob, xs, rfl, hH, q W1 _ _ ms1 e1 O1 ⟨fun W' ms' i e O' hi => ⟨st W' ms' e O', by rw [List.length_map] at hi; rw [rk.length]; exact hi⟩, fun W' ms' e O' => ⟨st W' ms' e O', by rw [List.length_map, rk.length]; exact Nat.le_refl _⟩, fun W' ms' i x H' d e O' hget y => ?_⟩ h1⟩
    obtain ⟨T, key, v, hi, rfl, hT, rfl⟩ := y
    obtain ⟨d', hd', okd⟩ := rk.get hi
    rw [List.getElem?_map, hd'] at hget
    cases hget
    obtain ⟨O2, e2⟩ := O'.lay (o := .tup [kV key, v]) hT
    exact ⟨W'.lay T _, e2, O2, rfl, .tup upd_same (.cons (kV_ok key) (.cons (up_v e2 (low_v e.low okd)) .nil))⟩
  · exact h1.elim
/-! ### d.clear() -/
@[simp] def wClear (wd : WE) : WE := fun ρ ms k => wd ρ ms fun r ms1 => match r with
  | .own j => (match ms1[j]? with
    | some (.dic _) => k .non (ms1.set j (.dic []))
    | _ => False)
  | _ => False
def tClear (td : TE) : TE := fun σ H Q => td σ H fun x H1 => ∃ a kvs, x = .ref a ∧ H1 a = some (.dK kvs) ∧ Q .non (upd H1 a (.dK []))
theorem pe_clearD {X : Cx} {o : Expr} {td : TE} {apos cpos : Pos} (ho : PE X o td) (hbase : attributeBase o "clear" X.env (eval o X.env) = eval o X.env := by rfl) (hline : (apos.endLine == cpos.line) = true := by rfl) : PE X (.Call (.Attribute o "clear" apos) [] [] cpos) (tClear td) := by
  refine ⟨fun pins s σ H Q I h => ?_⟩
  refine wpAny_Call_method0_late hbase hline (thn (ho.run pins s σ H _ I h) fun u s1 ⟨x, H1, I1, rx, a, kvs, ex, hd, q⟩ => ?_)
  subst ex
  obtain rfl : u = Value.ref a := rx
  obtain ⟨t1, t2, _⟩ := isD_at I1 (.inl ⟨kvs, .inl hd⟩)
  exact ⟨"dict", "dict.clear", F.plainAttrs_dict, F.slot_dict_clear, F.type_dict_clear, t1, t2, Calls.callWith_builtin rfl (PySem.evalArgs_none (d_clear I1 hd fun s' I' => ⟨.non, _, I', rfl, q⟩))⟩
theorem de_clear {o : Expr} {apos cpos : Pos} {wd : WE} (ho : DE X o wd) (hbase : attributeBase o "clear" X.X.env (eval o X.X.env) = eval o X.X.env := by rfl) (hline : (apos.endLine == cpos.line) = true := by rfl) : DE X (.Call (.Attribute o "clear" apos) [] [] cpos) (wClear wd) := by
  obtain ⟨td, pd, ld⟩ := ho
  refine ⟨_, pe_clearD pd hbase hline, fun W σ ρ ms Q k hK R O hw q => ld W σ ρ ms _ _ hK R O hw fun W1 v r ms1 e1 O1 ok1 h1 => ?_⟩
  split at h1
  · rename_i j
    split at h1
    · rename_i kv0 e0
      obtain ⟨b, xs, hb, hg, k1, _⟩ := O1.dicAt e0
      cases ok1 with
      | own ha =>
        rw [ha] at hb; cases hb
        obtain ⟨O2, e2⟩ := O1.putDic (ys := []) (ds := []) ha hg k1 .nil
        exact ⟨_, xs, rfl, k1, q _ _ _ _ (e1.trans e2) O2 .non h1⟩
    · exact h1.elim
  · exact h1.elim
/-! ### a dict is locked while it is walked -/
def Wd.lock (W : Wd) (a : Addr) (o : HO) : Wd := W.put a o
/-- the ends of what runs under the lock of j -/
def lckE (j : Nat) (c : Cell) (x : KX) (E : WEnds) : WEnds where
  nx := fun ρ ms => ms[j]? = some (.lck c) ∧ E.nx ⟨ρ.sl, x, ρ.xc, ρ.xf⟩ (ms.set j c)
  rt := fun r ms => ms[j]? = some (.lck c) ∧ E.rt r (ms.set j c)
  bk := fun ρ ms => ms[j]? = some (.lck c) ∧ E.bk ⟨ρ.sl, x, ρ.xc, ρ.xf⟩ (ms.set j c)
  ct := fun ρ ms => ms[j]? = some (.lck c) ∧ E.ct ⟨ρ.sl, x, ρ.xc, ρ.xf⟩ (ms.set j c)
@[simp] theorem lckE_nx {j : Nat} {c : Cell} {x : KX} {E : WEnds} {ρ : Env} {ms : Ms} : (lckE j c x E).nx ρ ms = (ms[j]? = some (.lck c) ∧ E.nx ⟨ρ.sl, x, ρ.xc, ρ.xf⟩ (ms.set j c)) := rfl
@[simp] theorem lckE_rt {j : Nat} {c : Cell} {x : KX} {E : WEnds} {r : Dat} {ms : Ms} : (lckE j c x E).rt r ms = (ms[j]? = some (.lck c) ∧ E.rt r (ms.set j c)) := rfl
@[simp] theorem lckE_bk {j : Nat} {c : Cell} {x : KX} {E : WEnds} {ρ : Env} {ms : Ms} : (lckE j c x E).bk ρ ms = (ms[j]? = some (.lck c) ∧ E.bk ⟨ρ.sl, x, ρ.xc, ρ.xf⟩ (ms.set j c)) := rfl
@[simp] theorem lckE_ct {j : Nat} {c : Cell} {x : KX} {E : WEnds} {ρ : Env} {ms : Ms} : (lckE j c x E).ct ρ ms = (ms[j]? = some (.lck c) ∧ E.ct ⟨ρ.sl, x, ρ.xc, ρ.xf⟩ (ms.set j c)) := rfl
theorem unlock_ok {W W' : Wd} {ms' : Ms} {a : Addr} {xs : List (Key × V)} {kvs : List (Key × Dat)} {od : Obj} {j : Nat} (hj : W.A[j]? = some a) (hg : W.G a = none) (h0 : W.H a = some (.dK xs)) (rk : RkOk W xs kvs) (e : Ext (W.put a (.frz od (.dK xs))) W') (O' : Own W' ms') (hc : ms'[j]? = some (.lck (.dic kvs))) :
    W'.H a = some (.frz od (.dK xs)) ∧ Own (W'.put a (.dK xs)) (ms'.set j (.dic kvs)) ∧ Ext W (W'.put a (.dK xs)) := by
  have hH : W'.H a = some (.frz od (.dK xs)) := e.frz _ _ _ upd_same
  have hA : W'.A[j]? = some a := e.adr j a hj
  obtain ⟨b, o, hb, hg', ho, _⟩ := O'.cell j _ hc (fun z => by cases z)
  rw [hA] at hb; cases hb
  have low : Low W W' := ⟨e.k, e.ex, e.adr⟩
  refine ⟨hH, O'.put hA hg' ⟨xs, rfl, rk.low low⟩, ⟨e.s, e.ex, e.adr, fun b ob v hb => ?_, e.p⟩⟩
  have z : b ≠ a := fun z => by subst z; rw [h0] at hb; cases hb
  show upd W'.H a _ b = _
  rw [upd_ne z]
  refine e.frz b ob v ?_
  show upd W.H a _ b = _
  rw [upd_ne z]; exact hb
theorem lock_ok {W : Wd} {ms : Ms} {a : Addr} {xs : List (Key × V)} {kvs : List (Key × Dat)} {od : Obj} {j : Nat} (O : Own W ms) (hj : W.A[j]? = some a) (hg : W.G a = none) (rk : RkOk W xs kvs) : Own (W.put a (.frz od (.dK xs))) (ms.set j (.lck (.dic kvs))) := O.put hj hg ⟨od, _, rfl, xs, rfl, rk⟩
theorem Rel.lock {W : Wd} {a : Addr} {xs : List (Key × V)} {od : Obj} {σ : L2.St} {ρ : Env} (h0 : W.H a = some (.dK xs)) (R : Rel W σ ρ) : Rel (W.put a (.frz od (.dK xs))) σ ρ :=
  R.mono (Ext.put h0 fun _ _ z => by cases z)
@[simp] def wLck (i : Nat) (ws : WS) : WS := fun E ρ ms => match ρ.sl[i]? with
  | some (some (.own j)) => (match ms[j]? with
    | some (.dic kvs) => ws (lckE j (.dic kvs) ρ.ex E) ρ (ms.set j (.lck (.dic kvs)))
    | _ => False)
  | _ => False
theorem ds_lock (i : Nat) {st : Stmt} {ws : WS} (h : DS X st ws) : DS X st (wLck i ws) := by
  obtain ⟨t, p, l⟩ := h
  refine ⟨_, ps_lock p, fun W σ ρ ms D E hK R O hw ok => ?_⟩
  unfold wLck at hw
  split at hw
  · rename_i j ej
    split at hw
    · rename_i kvs e0
      obtain ⟨v, hv, okv⟩ := R.get ej
      obtain ⟨a, xs, hA, hg, h0, rk⟩ := O.dicAt e0
      refine ⟨a, .dK xs, h0, trivial, fun od => ?_⟩
      have e1 : Ext W (W.put a (.frz od (.dK xs))) := Ext.put h0 fun _ _ z => by cases z
      refine l (W.put a (.frz od (.dK xs))) σ ρ _ _ (lckE j (.dic kvs) ρ.ex E) hK (R.lock h0) (lock_ok O hA hg rk) hw ⟨fun W' σ' ρ' ms' e O' R' h' => ?_, fun W' v r ms' e O' ok' h' => ?_, fun W' σ' ρ' ms' e O' R' h' => ?_, fun W' σ' ρ' ms' e O' R' h' => ?_⟩
      all_goals obtain ⟨hc, h'⟩ := h'
      all_goals obtain ⟨q1, q2, q3⟩ := unlock_ok hA hg h0 rk e O' hc
      all_goals have e4 : Low W' (W'.put a (.dK xs)) := put_low
      · exact ⟨q1, ok.nx _ σ' ⟨ρ'.sl, ρ.ex, ρ'.xc, ρ'.xf⟩ _ q3 q2 ⟨R'.sl.low e4, R.ex.mono q3, R'.hd.low e4 rfl⟩ h'⟩
      · exact ⟨q1, ok.rt _ v r _ q3 q2 (low_v e4 ok') h'⟩
      · exact ⟨q1, ok.bk _ σ' ⟨ρ'.sl, ρ.ex, ρ'.xc, ρ'.xf⟩ _ q3 q2 ⟨R'.sl.low e4, R.ex.mono q3, R'.hd.low e4 rfl⟩ h'⟩
      · exact ⟨q1, ok.ct _ σ' ⟨ρ'.sl, ρ.ex, ρ'.xc, ρ'.xf⟩ _ q3 q2 ⟨R'.sl.low e4, R.ex.mono q3, R'.hd.low e4 rfl⟩ h'⟩
    · exact hw.elim
  · exact hw.elim
@[simp] def wLckE (i : Nat) (we : WE) : WE := fun ρ ms k => match ρ.sl[i]? with
  | some (some (.own j)) => (match ms[j]? with
    | some (.dic kvs) => we ρ (ms.set j (.lck (.dic kvs))) fun r ms1 => ms1[j]? = some (.lck (.dic kvs)) ∧ k r (ms1.set j (.dic kvs))
    | _ => False)
  | _ => False
theorem de_lock (i : Nat) {e : Expr} {we : WE} (h : DE X e we) : DE X e (wLckE i we) := by
  obtain ⟨t, p, l⟩ := h
  refine ⟨_, pe_lock p, fun W σ ρ ms Q k hK R O hw q => ?_⟩
  unfold wLckE at hw
  split at hw
  · rename_i j ej
    split at hw
    · rename_i kvs e0
      obtain ⟨a, xs, hA, hg, h0, rk⟩ := O.dicAt e0
      refine ⟨a, .dK xs, h0, trivial, fun od => ?_⟩
      refine l (W.put a (.frz od (.dK xs))) σ ρ _ _ _ hK (R.lock h0) (lock_ok O hA hg rk) hw fun W' v r ms' e O' ok' h' => ?_
      obtain ⟨hc, h'⟩ := h'
      obtain ⟨q1, q2, q3⟩ := unlock_ok hA hg h0 rk e O' hc
      exact ⟨q1, q _ v r _ q3 q2 (low_v put_low ok') h'⟩
    · exact hw.elim
  · exact hw.elim
end
end Sy
namespace Sy
open PySem PySem.Spec PyProof.Rows L2
/-! ## exception classes of one's own over Exception -/
def exB : List Value := [.type "Exception", .type "BaseException", .type "object"]
structure XcC (K : PySem.W.Frag) (C : Addr) : Prop where
  ini : PySem.W.excInitIn K C exB "Exception.__new__" = true
  ovr : PySem.W.excOver K C exB = true
  hd : PySem.W.hasDictIn K C = true
  sa : PySem.W.findIn K (.ref C) "__setattr__" = some (some (.builtin "object.__setattr__"))
  sb : PySem.W.subIn K (.ref C) (.type "BaseException") = some true
  ty : PySem.W.typeIn K (.ref C) = some (.type "type")
  kp : PySem.W.keepIn K (.ref C) = true
  ga : PySem.W.findIn K (.ref C) "__getattribute__" = some (some (.builtin "BaseException.__getattribute__"))
  gt : PySem.W.findIn K (.ref C) "__getattr__" = some none
  cl : PySem.W.findIn K (.ref C) "__class__" = some (some (.builtin "object.__class__"))
  cg : PySem.W.specialIn K (.builtin "object.__class__") "__get__" = some (some (.builtin "getset_descriptor.__get__"))
  ct : PySem.W.takesIn K (.builtin "object.__class__") = some true
  mo : PySem.W.mroIn K C (.type "object") = some true
  ic : (PySem.W.clsIn K C).isSome = true
def xcB (K : PySem.W.Frag) (C : Addr) : Bool :=
  (PySem.W.excInitIn K C exB "Exception.__new__" && PySem.W.excOver K C exB && PySem.W.hasDictIn K C && decide (PySem.W.findIn K (.ref C) "__setattr__" = some (some (.builtin "object.__setattr__"))) && decide (PySem.W.subIn K (.ref C) (.type "BaseException") = some true)) &&
  (decide (PySem.W.typeIn K (.ref C) = some (.type "type")) && PySem.W.keepIn K (.ref C) && decide (PySem.W.findIn K (.ref C) "__getattribute__" = some (some (.builtin "BaseException.__getattribute__"))) && decide (PySem.W.findIn K (.ref C) "__getattr__" = some none)) &&
  (decide (PySem.W.findIn K (.ref C) "__class__" = some (some (.builtin "object.__class__"))) && decide (PySem.W.specialIn K (.builtin "object.__class__") "__get__" = some (some (.builtin "getset_descriptor.__get__"))) && decide (PySem.W.takesIn K (.builtin "object.__class__") = some true) && decide (PySem.W.mroIn K C (.type "object") = some true) && (PySem.W.clsIn K C).isSome)
theorem xcB_ok {K : PySem.W.Frag} {C : Addr} (h : xcB K C = true) : XcC K C := by
  unfold xcB at h
  simp only [Bool.and_eq_true, decide_eq_true_eq] at h
  obtain ⟨⟨⟨⟨⟨⟨a1, a2⟩, a3⟩, a4⟩, a5⟩, ⟨⟨b1, b2⟩, b3⟩, b4⟩, ⟨⟨⟨c1, c2⟩, c3⟩, c4⟩, c5⟩ := h
  exact ⟨a1, a2, a3, a4, a5, b1, b2, b3, b4, c1, c2, c3, c4, c5⟩
section
variable {X : Cx} {pins : List (Addr × Obj)} {σ : L2.St} {H : Hp} {s : Shared} {a C dx : Addr} {f : Str} {y : V} {u : Value} {fs : List (Str × V)} {Q : Unit → Shared → Prop} {E : Value → Shared → Prop} {A : Around}
/-- the first field -/
theorem xst_new (T : XcC X.K C) (I : Inv X pins σ H s) (e : H a = some (exo a C none)) (hno : PySem.W.findIn X.K (.ref C) f = some none) (ry : RelV y u)
    (h : ∀ dx s', H dx = none → dx ≠ a → Inv X pins σ (upd (upd H dx (exd dx [(f, y)])) a (exo a C (some dx))) s' → Q () s') : wpAny (model X.prog X.w) A (setAttr (.ref a) f u) Q E s := by
  obtain ⟨t1, ho⟩ := exo_at I.hok e
  obtain ⟨cd, hcd, hdd⟩ := PySem.W.any_some T.hd
  obtain ⟨hp, g, d, t, os⟩ := s
  refine PySem.W.set_plain I.kIn (od := none) ⟨ho, rfl, rfl, trivial⟩ T.sa ?_
  refine PySem.W.osa_openX (s := ⟨hp, g, d, t + 1, os⟩) (od := none) PySem.F.store_Exception I.kIn ⟨ho, rfl, rfl, trivial⟩ T.ovr (NoAttr.taker hno) fun b => ?_
  refine wpAny_bind (wpAny_pure (wpAny_bind (PySem.W.instanceDict_exc (s := ⟨hp, g, d, t + 1, os⟩) ho (PySem.W.looks_clsIn I.kIn hcd) hdd ?_)))
  have hxs : a ≠ hp.objs.size := Nat.ne_of_lt (Heap.lt_size ho)
  have hnd : H hp.objs.size = none := I.hok.fresh (Nat.le_refl _)
  refine PySem.HandSPX.store_in_new ⟨_, #[], _, (Heap.get?_update_ne _ _ _ _ hxs.symm).trans (Heap.get?_push_at rfl rfl), rfl, fun e he => absurd he (by simp), fun _ => rfl⟩ fun h' tk' hn' hs => ?_
  have hx₁ := Heap.get?_push_of_some (h := hp) (PySem.W.dictOf [] 0) ho
  have k : ∀ b o, b ≠ a → hp.get? b = some o → h'.get? b = some o := fun b o hb q => (hs.2 b (Nat.ne_of_lt (Heap.lt_size q))).trans ((Heap.get?_update_ne _ _ _ _ hb).trans (Heap.get?_push_of_some _ q))
  have hx : h'.get? a = some ({ cls := .ref C, dict := some hp.objs.size, data := .fields #[.ref t1, .none, .none, .none, .bool false, .none] } : Obj) := (hs.2 a hxs).trans (Heap.get?_update_self _ hx₁ rfl)
  have nd : ∀ {b : Addr} {o : Obj}, hp.get? b = some o → b ≠ hp.objs.size := fun {b o} q => Nat.ne_of_lt (Heap.lt_size q)
  have na : ∀ {b : Addr}, H b = none → b ≠ a := fun {b} n z => (by rw [z, e] at n; cases n)
  have U : Un X.fs [] H (upd (upd H hp.objs.size (exd hp.objs.size [(f, y)])) a (exo a C (some hp.objs.size))) hp h' := ⟨fun b o q n _ _ => k b o (na n) q, fun b o q n _ _ => ⟨o.slots, k b o (na n) q⟩, fun b o q n _ => (by rw [upd_ne (na n), upd_ne (nd q)]; exact n),
    fun b o q _ => (by by_cases hb : b = a; exact ⟨_, hb ▸ hx⟩; exact ⟨o, k b o hb q⟩), fun b xs q => (by rw [upd_ne (at_ne e q exo_tup), upd_ne (ne_of_none q hnd)]; exact q), fun b o v q => (by rw [upd_ne (at_ne e q exo_frz), upd_ne (ne_of_none q hnd)]; exact q),
    fun b qs q => ⟨#[], (by rw [upd_ne (at_ne e q exo_tbl), upd_ne (ne_of_none q hnd), q]; simp)⟩⟩
  refine h hp.objs.size _ hnd hxs.symm (I.un (t' := tk') U fun b o q => ?_)
  by_cases hb : b = a
  · subst hb; rw [upd_same] at q; cases q; exact exo_ok hx
  · rw [upd_ne hb] at q
    by_cases hd : b = hp.objs.size
    · subst hd; rw [upd_same] at q; cases q; exact exd_ok hn' (relO_put (fs := []) ry fun g => True.intro)
    · rw [upd_ne hd] at q
      exact (I.hok b o q).stay (fun c v hc z => k c v (hc.elim (fun hc => hc ▸ hb) fun hc => at_ne e hc exo_own) z) (fun c hc => (by rw [upd_ne (at_ne e hc exo_own), upd_ne (ne_of_none hc hnd)]; exact hc)) (fun c xs hc => (by rw [upd_ne (at_ne e hc exo_tup), upd_ne (ne_of_none hc hnd)]; exact hc))
/-- a further field -/
theorem xst_old (T : XcC X.K C) (I : Inv X pins σ H s) (e : H a = some (exo a C (some dx))) (ed : H dx = some (exd dx fs)) (hl : fs.length ≤ 900) (hno : PySem.W.findIn X.K (.ref C) f = some none) (ry : RelV y u)
    (h : ∀ s', Inv X pins σ (upd H dx (exd dx ((f, y) :: fs))) s' → Q () s') : wpAny (model X.prog X.w) A (setAttr (.ref a) f u) Q E s := by
  obtain ⟨t1, ho⟩ := exo_at I.hok e
  obtain ⟨mA, hns, rel⟩ := exd_at I.hok ed
  have hw := within_of rel
  obtain ⟨cd, hcd, hdd⟩ := PySem.W.any_some T.hd
  obtain ⟨hp, g, d, t, os⟩ := s
  obtain ⟨oD, _, _, hoD, _, _⟩ := hns.count hw
  refine PySem.W.set_plain I.kIn (od := some oD) ⟨ho, rfl, rfl, hoD⟩ T.sa ?_
  refine PySem.W.osa_openX (s := ⟨hp, g, d, t + 1, os⟩) (od := some oD) PySem.F.store_Exception I.kIn ⟨ho, rfl, rfl, hoD⟩ T.ovr (NoAttr.taker hno) fun b => ?_
  have hcls : PySem.W.Looks (model X.prog X.w) hp (classData C) cd := PySem.W.looks_clsIn I.kIn hcd
  show wpAny _ _ (Builtin.ObjectAttr.storeInOwnDict (.ref a) (.ref C) _ f u b) _ _ _
  unfold Builtin.ObjectAttr.storeInOwnDict Builtin.ObjectAttr.ownDictForStores
  repeat (first | with_reducible refine PySem.OEX.store_in_old hns hw (by rw [List.length_map]; omega) ?_ | with_reducible refine wpAny_loadPart_at ho ?_ | with_reducible refine hcls.at ?_ | wp_step)
  intro h' tk' hn' hs
  have hd2 : ∃ o, h'.get? dx = some o := let ⟨o, _, _, e', _⟩ := hn'; ⟨o, e'⟩
  exact h _ (I.write (t' := tk') (x := dx) (e := dx) (o := exd dx ((f, y) :: fs)) (by rw [ed]; exact True.intro) (.inl rfl) (fun b o hb q => (hs.2 b hb).trans q) hd2 (exd_ok hn' (relO_put ry rel)))
/-- Exception.__init__(self, ..) -/
theorem xinit_ok {us : List Value} {Q : Value → Shared → Prop} (T : XcC X.K C) (I : Inv X pins σ H s) (e : H a = some (exo a C none)) (hl : us.length ≤ sizeLine) (h : ∀ s', Inv X pins σ H s' → Q .none s') :
    wpAny (model X.prog X.w) A (call (.builtin "Exception.__init__") (.ref a :: us)) Q E s := by
  obtain ⟨nm, N, qn, bs, bm, hdct, sn, sub, ab, col, dd, k0, k1, k2, k3, k5, hC, hT⟩ := PySem.W.excInit_of I.kIn T.ini
  obtain ⟨t1, ho⟩ := exo_at I.hok e
  obtain ⟨hp, g, d, t, os⟩ := s
  refine wpAny_call (PySem.HandSPX.init_base F.excBase_Exception hT hC ho hl fun h' t2 k hx => ?_)
  have J := I.write (t' := t) (x := a) (e := a) (o := exo a C none) (by rw [e]; exact True.intro) (.inl rfl) k ⟨_, hx⟩ (exo_ok hx)
  rw [upd_id e] at J
  exact h _ J
end
/-! ### its __init__ -/
/-- B.__init__(self, ..), B a class of one's own without one -/
def tXI (K : PySem.W.Frag) (ta : TA) : TE := fun σ H Q => ta σ H fun vs H1 => ∃ (a C : Addr) (ws : List V), vs = .ref a :: ws ∧ ws.length ≤ 1000 ∧ XcC K C ∧ H1 a = some (exo a C none) ∧ Q .non H1
structure BiC (K : PySem.W.Frag) (B : Addr) : Prop where
  rd : PySem.W.readsIn K B (.type "type") = true
  sg : PySem.W.specialIn K (.ref B) "__getattribute__" = some (some (.builtin "type.__getattribute__"))
  at_ : PySem.W.findCls K (.ref B) (.type "type") "__init__" = some (.val (.builtin "Exception.__init__"))
def biB (K : PySem.W.Frag) (B : Addr) : Bool := PySem.W.readsIn K B (.type "type") && decide (PySem.W.specialIn K (.ref B) "__getattribute__" = some (some (.builtin "type.__getattribute__"))) && (match PySem.W.findCls K (.ref B) (.type "type") "__init__" with
  | some (.val (.builtin n)) => decide (n = "Exception.__init__")
  | _ => false)
theorem biB_ok {K : PySem.W.Frag} {B : Addr} (h : biB K B = true) : BiC K B := by
  unfold biB at h
  simp only [Bool.and_eq_true, decide_eq_true_eq] at h
  obtain ⟨⟨h1, h2⟩, h3⟩ := h
  refine ⟨h1, h2, ?_⟩
  split at h3
  · rename_i n e; rw [e, of_decide_eq_true h3]
  · cases h3
section
variable {X : Cx} {o e : Expr} {es : List Expr} {to te : TE} {ta : TA} {f : Str} {p p' p1 p2 pos : Pos}
theorem pe_xinit {B : Str} {pl : Sem Bool} (gl : Gl X B) (hm : X.mg B = some (.ref (He.ga X.K B))) (bc : BiC X.K (He.ga X.K B)) (ha : PA X (e :: es) ta) (hdb : (B == ("__debug__" : Str)) = false := by decide)
    (hc : eval (.Call (.Attribute (.Name B p1) "__init__" p2) (e :: es) [] pos) X.env = (do
      let ov ← eval (.Name B p1) X.env
      standAt p2.atName
      let (f, first) ← holding [ov] (getMethod ov "__init__" pl)
      callWith pos f first (backTo pos (starEach (e :: es) X.env)) (backToKw pos (keywordEach [] X.env))) := by rfl)
    (he : starEach (e :: es) X.env = (false, eval e X.env) :: starEach es X.env := by rfl) (hpl : (backTo pos (starEach es X.env)).any (·.1) = false := by rfl) :
    PE X (.Call (.Attribute (.Name B p1) "__init__" p2) (e :: es) [] pos) (tXI X.K ta) := by
  refine ⟨fun pins s σ H Q I h => ?_⟩
  refine PySem.W.methodCall_KW (ld_glob I gl hm ?_ hdb) hc
  refine PySem.W.method_cls I.kIn bc.sg (PySem.W.cls_value I.kIn bc.rd bc.at_ (by decide +kernel) ?_)
  refine PyProof.Rows.callWith_method1 (thn (ha.run pos pins _ σ H _ (I.tok _) h) fun us s1 ⟨vs, H1, I1, r1, a, C, ws, ev, hl, T, ea, q⟩ => ?_) he hpl
  subst ev
  cases r1 with
  | @cons _ u0 _ ur ra rw' =>
    obtain rfl : u0 = Value.ref a := ra
    exact xinit_ok T I1 ea (by rw [← Paired.length rw', sizeLine_eq]; omega) fun s' J => ⟨.non, H1, J, rfl, q⟩
/-- self.f = e -/
def tXst (K : PySem.W.Frag) (f : Str) (to te : TE) : TS := fun D σ H => te σ H fun y H1 => to σ H1 fun x H2 => ∃ a C : Addr, x = .ref a ∧ XcC K C ∧ PySem.W.findIn K (.ref C) f = some none ∧
  ((H2 a = some (exo a C none) ∧ ∀ dx, H2 dx = none → dx ≠ a → D.nx σ (upd (upd H2 dx (exd dx [(f, y)])) a (exo a C (some dx)))) ∨
    ∃ (dx : Addr) (fs : List (Str × V)), H2 a = some (exo a C (some dx)) ∧ H2 dx = some (exd dx fs) ∧ fs.length ≤ 900 ∧ D.nx σ (upd H2 dx (exd dx ((f, y) :: fs))))
theorem ps_xst (ho : PE X o to) (he : PE X e te) (hs : swapsWith e (some (.Attribute o f p')) pos.line X.env = pure false := by rfl) : PS X (.Assign [.Attribute o f p'] e pos) (tXst X.K f to te) := by
  refine ⟨fun pins s σ H D I h => ?_⟩
  refine plainObj_wpAny_Assign_Attribute (thn (he.run pins s σ H _ I h) fun v s1 ⟨y, H1, I1, r1, q1⟩ => thn (ho.run pins s1 σ H1 _ I1 q1) fun u s2 ⟨x, H2, I2, r2, a, C, ex, T, hno, q⟩ => ?_) hs
  subst ex
  obtain rfl : u = Value.ref a := r2
  rcases q with ⟨ea, q⟩ | ⟨dx, fs, ea, ed, hl, q⟩
  · exact xst_new T I2 ea hno r1 fun dx s' n ne J => ⟨σ, _, J, q dx n ne⟩
  · exact xst_old T I2 ea ed hl hno r1 fun s' J => ⟨σ, _, J, q⟩
end
/-- what __init__ of such a class promises: the fields fs in their order -/
def fieldsX : List Str → List V → List (Str × V)
  | f :: fs, v :: vs => fieldsX fs vs ++ [(f, v)]
  | _, _ => []
def spX (K : PySem.W.Frag) (fs : List Str) : Sp := fun vs H Q E => ∃ (a C : Addr) (ws : List V), vs = .ref a :: ws ∧ ws.length = fs.length ∧ XcC K C ∧ (∀ f ∈ fs, PySem.W.findIn K (.ref C) f = some none) ∧ H a = some (exo a C none) ∧
  ∀ dx, H dx = none → dx ≠ a → Q .non (upd (upd H dx (exd dx (fieldsX fs ws))) a (exo a C (some dx)))
section
variable {P : Program} {w : World} {K : PySem.W.Frag} {mg : Str → Option Value} {base : Heap}
/-- an exception's class keeps the promise -/
structure ExcOk (P : Program) (w : World) (K : PySem.W.Frag) (mg : Str → Option Value) (base : Heap) (C : Str) (fs : List Str) : Prop where
  ex : ∃ fd ps, FnG P w K mg base (L2.CX P w) 1 (fA K (C, some "__init__")) fd ps (spX K fs) ∧ ps.length = fs.length + 1 ∧ Binds K fd ps []
  cl : XcC K (He.ga K C)
  no : ∀ f ∈ fs, PySem.W.findIn K (.ref (He.ga K C)) f = some none
  ii : PySem.W.findIn K (.ref (He.ga K C)) "__init__" = some (some (.ref (fA K (C, some "__init__"))))
  ti : PySem.W.typeIn K (.ref (fA K (C, some "__init__"))) = some (.type "function")
def tInit1 (K : PySem.W.Frag) (f : Str) (z : Str) : TS := tSeq (tDrop (tXI K (tCons (tVar 0) (tCons (tC (.str z)) tNil)))) (tXst K f (tVar 0) (tVar 1))
def tInit2 (K : PySem.W.Frag) (f g : Str) (z : Str) : TS := tSeq (tDrop (tXI K (tCons (tVar 0) (tCons (tC (.str z)) tNil)))) (tSeq (tXst K f (tVar 0) (tVar 1)) (tXst K g (tVar 0) (tVar 2)))
theorem exc_init1 {qual : Str} {st : Stmt} {C f p1 : Str} {z : Str} (D : DefAt K (C, some "__init__") "__init__" qual st ["self", p1]) (S : FnScope ["self", p1] ["self", p1] (defScope st)) (cl : XcC K (He.ga K C)) (no : PySem.W.findIn K (.ref (He.ga K C)) f = some none)
    (ii : PySem.W.findIn K (.ref (He.ga K C)) "__init__" = some (some (.ref (fA K (C, some "__init__"))))) (ti : PySem.W.typeIn K (.ref (fA K (C, some "__init__"))) = some (.type "function"))
    (hb : ∀ (f0 : Addr) (cdv : Value) (A : Around) (out : List PySem.Env) (s : Shared) (H : Hp) (E : XK), PSs (cxOf (L2.CX P w) P w K mg base ["self", p1] qual (defScope st) f0 cdv A out s H E) (defBody st) (tInit1 K f z)) : ExcOk P w K mg base C [f] := by
  obtain ⟨fd, F, b, kp⟩ := D.ex
  refine ⟨⟨fd, _, FnG.of_funD (k := 0) F S (fun vs H Q E ⟨a, C, ws, e, hl, _⟩ => by rw [e, List.length_cons, hl]; rfl) fun cdv A out s H vs Q E hg hr ⟨a, C', ws, ev, hl, T, hn, ha, q⟩ => ⟨_, hb _ cdv A out s H E, ?_⟩, rfl, b⟩, cl, fun g hg => by rw [List.mem_singleton.mp hg]; exact no, ii, ti⟩
  obtain ⟨v, rfl⟩ : ∃ v, ws = [v] := by
    match ws, hl with
    | [v], _ => exact ⟨v, rfl⟩
  subst ev
  exact ⟨.ref a, rfl, a, C', [.str z], rfl, (by show (1 : Nat) ≤ 1000; decide), T, ha, v, rfl, .ref a, rfl, a, C', rfl, T, hn f (by simp), .inl ⟨ha, fun dx h1 h2 => q dx h1 h2⟩⟩
theorem exc_init2 {qual : Str} {st : Stmt} {C f g p1 p2 : Str} {z : Str} (D : DefAt K (C, some "__init__") "__init__" qual st ["self", p1, p2]) (S : FnScope ["self", p1, p2] ["self", p1, p2] (defScope st)) (cl : XcC K (He.ga K C)) (no : ∀ x ∈ [f, g], PySem.W.findIn K (.ref (He.ga K C)) x = some none)
    (ii : PySem.W.findIn K (.ref (He.ga K C)) "__init__" = some (some (.ref (fA K (C, some "__init__"))))) (ti : PySem.W.typeIn K (.ref (fA K (C, some "__init__"))) = some (.type "function"))
    (hb : ∀ (f0 : Addr) (cdv : Value) (A : Around) (out : List PySem.Env) (s : Shared) (H : Hp) (E : XK), PSs (cxOf (L2.CX P w) P w K mg base ["self", p1, p2] qual (defScope st) f0 cdv A out s H E) (defBody st) (tInit2 K f g z)) : ExcOk P w K mg base C [f, g] := by
  obtain ⟨fd, F, b, kp⟩ := D.ex
  refine ⟨⟨fd, _, FnG.of_funD (k := 0) F S (fun vs H Q E ⟨a, C, ws, e, hl, _⟩ => by rw [e, List.length_cons, hl]; rfl) fun cdv A out s H vs Q E hg hr ⟨a, C', ws, ev, hl, T, hn, ha, q⟩ => ⟨_, hb _ cdv A out s H E, ?_⟩, rfl, b⟩, cl, no, ii, ti⟩
  obtain ⟨v, u, rfl⟩ : ∃ v u, ws = [v, u] := by
    match ws, hl with
    | [v, u], _ => exact ⟨v, u, rfl⟩
  subst ev
  refine ⟨.ref a, rfl, a, C', [.str z], rfl, (by show (1 : Nat) ≤ 1000; decide), T, ha, v, rfl, .ref a, rfl, a, C', rfl, T, hn f (by simp), .inl ⟨ha, fun dx h1 h2 => ?_⟩⟩
  refine ⟨u, rfl, .ref a, rfl, a, C', rfl, T, hn g (by simp), .inr ⟨dx, [(f, v)], upd_same, by rw [upd_ne h2]; exact upd_same, (by show (1 : Nat) ≤ 900; decide), ?_⟩⟩
  have := q dx h1 h2
  have e2 : upd (upd (upd H dx (exd dx [(f, v)])) a (exo a C' (some dx))) dx (exd dx [(g, u), (f, v)]) = upd (upd H dx (exd dx (fieldsX [f, g] [v, u]))) a (exo a C' (some dx)) := by
    funext b
    unfold upd
    by_cases x1 : b = dx
    · subst x1; rw [if_pos rfl, if_neg h2, if_pos rfl]; rfl
    · rw [if_neg x1]; by_cases x2 : b = a
      · rw [if_pos x2, if_pos x2]
      · rw [if_neg x2, if_neg x1, if_neg x2, if_neg x1]
  rw [e2]; exact this
end
end Sy
namespace Sy
open PySem PySem.Spec PyProof.Rows L2
/-! ## an exception as a value -/
theorem run_exc {X : Cx} {C : Str} {fs : List Str} {pins : List (Addr × Obj)} {σ : L2.St} {H : Hp} {s : Shared} {Q : VK} {us : List Value} {vs : List V} (D : ExcOk X.prog X.w X.K X.mg X.base C fs) (gd : X.A.guards = some []) (room : Room 2 X.A) (J : Inv X pins σ H s) (r : Vals vs us) (hl : vs.length = fs.length) (h9 : vs.length ≤ 1000)
    (h : ∀ a dx, H a = none → H dx = none → dx ≠ a → Q (.ref a) (upd (upd H dx (exd dx (fieldsX fs vs))) a (exo a (He.ga X.K C) (some dx)))) :
    wpAny (model X.prog X.w) X.A (call (.ref (He.ga X.K C)) us) (EP X pins σ Q) X.xe s := by
  obtain ⟨fd, ps, F1, hps, hb⟩ := D.ex
  obtain ⟨nm, N, qn, bs, bm, hdct, sn, sub, ab, col, dd, k0, k1, k2, k3, k5, hC, hT⟩ := PySem.W.excInit_of J.kIn D.cl.ini
  obtain ⟨hp, g, dr, tk, os⟩ := s
  have big : hp.objs.size ≤ hp.objs.size + 1 := Nat.le_succ _
  have nw : H (hp.objs.size + 1) = none := J.hok.fresh big
  have kk : ∀ b o, hp.get? b = some o → ((hp.push (PySem.W.kdv_tup us)).push (PySem.HandSPX.excO (He.ga X.K C) hp.objs.size)).get? b = some o := fun b o z => Heap.get?_push_of_some _ (Heap.get?_push_of_some _ z)
  have at_ : ((hp.push (PySem.W.kdv_tup us)).push (PySem.HandSPX.excO (He.ga X.K C) hp.objs.size)).get? (hp.objs.size + 1) = some (PySem.HandSPX.excO (He.ga X.K C) hp.objs.size) := by heap_get
  have J2 : Inv X pins σ (upd H (hp.objs.size + 1) (exo (hp.objs.size + 1) (He.ga X.K C) none)) ⟨(hp.push (PySem.W.kdv_tup us)).push (PySem.HandSPX.excO (He.ga X.K C) hp.objs.size), g, dr, tk, os⟩ := J.laid (t' := tk) kk big (exo_ok at_)
  have rr : Vals (V.ref (hp.objs.size + 1) :: vs) (Value.ref (hp.objs.size + 1) :: us) := .cons rfl r
  have hz : us.length ≤ sizeLine := by rw [← Paired.length r, sizeLine_eq]; omega
  have want : spX X.K fs (V.ref (hp.objs.size + 1) :: vs) (upd H (hp.objs.size + 1) (exo (hp.objs.size + 1) (He.ga X.K C) none)) (fun v H2 => v = .non ∧ Q (.ref (hp.objs.size + 1)) H2) (fun _ _ _ => False) := by
    refine ⟨_, _, vs, rfl, hl, D.cl, D.no, upd_same, fun dx hn hne => ⟨rfl, ?_⟩⟩
    have hd : H dx = none := by rw [upd_ne hne] at hn; exact hn
    have q := h (hp.objs.size + 1) dx nw hd hne
    have e : upd (upd (upd H (hp.objs.size + 1) (exo (hp.objs.size + 1) (He.ga X.K C) none)) dx (exd dx (fieldsX fs vs))) (hp.objs.size + 1) (exo (hp.objs.size + 1) (He.ga X.K C) (some dx)) = upd (upd H dx (exd dx (fieldsX fs vs))) (hp.objs.size + 1) (exo (hp.objs.size + 1) (He.ga X.K C) (some dx)) := by
      funext b
      unfold upd
      by_cases z : b = hp.objs.size + 1
      · rw [if_pos z, if_pos z]
      · rw [if_neg z, if_neg z, if_neg z]
    rw [e]; exact q
  have hln : (Value.ref (hp.objs.size + 1) :: us).length = ps.length := by rw [List.length_cons, ← Paired.length r, hl, hps]
  have hb' := hb ⟨(hp.push (PySem.W.kdv_tup us)).push (PySem.HandSPX.excO (He.ga X.K C) hp.objs.size), g, dr, tk, os⟩ (Value.ref (hp.objs.size + 1) :: us) J2.kIn (by rw [List.append_nil]; exact hln)
  rw [List.append_nil] at hb'
  refine wpAny_call (PySem.HandSPX.call_own F.excBase_Exception hT hC (PySem.W.looks_findIn J.kIn D.ii) (fun self => PySem.W.bind_fn J.kIn self D.ti) hz
    (codeAny_mono (F1.go _ X.stack _ _ ⟨Value.ref (hp.objs.size + 1) :: us, []⟩ (Value.ref (hp.objs.size + 1) :: us) _ _ (fun _ _ _ => False) gd ((room.mono (by decide : 1 + 1 ≤ 2)).make (He.ga X.K C) us []) (J2.env0.make (He.ga X.K C) us []) hb' rr want) fun res s2 hres => ?_))
  match res, hres with
  | .error e, z => exact (passL (X := X) pins σ _ _ e s2 J2 z)
  | .ok (.ret u), z =>
    obtain ⟨v, H', J3, rv, ev, q3⟩ := J2.after z
    subst ev
    exact ⟨rv, ⟨V.ref (hp.objs.size + 1), H', J3, rfl, q3⟩⟩
  | .ok .next, z => exact False.elim z
  | .ok .brk, z => exact False.elim z
  | .ok .cont, z => exact False.elim z
@[simp] def fieldsD : List Str → List Dat → List (Str × Dat)
  | f :: fs, v :: vs => fieldsD fs vs ++ [(f, v)]
  | _, _ => []
theorem Dtf.append {K : PySem.W.Frag} {G : Hp} {A : List Addr} : ∀ {xs ys : List (Str × V)} {ds es : List (Str × Dat)}, Dtf K G A xs ds → Dtf K G A ys es → Dtf K G A (xs ++ ys) (ds ++ es)
  | _, _, _, _, .nil, s => s
  | _, _, _, _, .cons h r, s => .cons h (Dtf.append r s)
theorem fields_ok {W : Wd} : ∀ {fs : List Str} {vs : List V} {ds : List Dat}, RvsOk W vs ds → Dtf W.S.K W.G W.A (fieldsX fs vs) (fieldsD fs ds)
  | [], vs, ds, _ => by cases vs <;> cases ds <;> exact .nil
  | f :: fs, _, _, .nil => .nil
  | f :: fs, _, _, .cons h r => Dtf.append (fields_ok r) (.cons h .nil)
section
variable {X : Cy} {pos : Pos}
@[simp] def wExc (C : Str) (fs : List Str) (wa : WA) : WE := fun ρ ms k => wa ρ ms fun rs ms1 => rs.length = fs.length ∧ rs.length ≤ 1000 ∧ k (.exc C (fieldsD fs rs)) ms1
def tExc (C : Addr) (fs : List Str) (ta : TA) : TE := fun σ H Q => ta σ H fun vs H1 => vs.length = fs.length ∧ vs.length ≤ 1000 ∧ ∀ a dx, H1 a = none → H1 dx = none → dx ≠ a → Q (.ref a) (upd (upd H1 dx (exd dx (fieldsX fs vs))) a (exo a C (some dx)))
theorem de_exc {x : Str} {p pos : Pos} {e : Expr} {es : List Expr} {fs : List Str} {wa : WA} (D : ExcOk X.X.prog X.X.w X.X.K X.X.mg X.X.base x fs) (hg : X.X.A.guards = some []) (room : Room 2 X.X.A) (gl : Gl X.X x) (hm : X.X.mg x = some (.ref (He.ga X.X.K x)))
    (ha : DA X (e :: es) wa) (hdb : (x == ("__debug__" : Str)) = false := by decide) (he : starEach (e :: es) X.X.env = (false, eval e X.X.env) :: starEach es X.X.env := by rfl) (hpl : (backTo pos (starEach es X.X.env)).any (·.1) = false := by rfl) :
    DE X (.Call (.Name x p) (e :: es) [] pos) (wExc x fs wa) := by
  obtain ⟨t, pa, la⟩ := ha
  refine ⟨tExc (He.ga X.X.K x) fs t, ⟨fun pins s σ H Q J h => wpAny_Call_Name_kw (ld_glob J gl hm (PySem.W.callWith_K (h₀ := X.X.base) J.ok.mod.kin D.cl.kp (thn (pa.run pos pins s σ H _ J h) fun us s1 ⟨vs, H1, J1, r, z⟩ => ⟨J1.kIn, run_exc D hg room J1 r z.1 z.2.1 z.2.2⟩) he hpl) hdb)⟩, fun W σ ρ ms Q k hK Rl O hw q => ?_⟩
  refine la W σ ρ ms _ _ hK Rl O hw fun W1 vs rs ms1 e1 O1 ok1 h1 => ⟨by rw [ok1.length]; exact h1.1, by rw [ok1.length]; exact h1.2.1, fun a dx ha hdx hne => ?_⟩
  have hKK : X.X.K = W1.K := (congrArg Sg.K (e1.s.trans hK)).symm
  obtain ⟨O2, e2⟩ := O1.lay (o := exd dx (fieldsX fs vs)) hdx
  have ha2 : (W1.lay dx (exd dx (fieldsX fs vs))).H a = none := by show upd W1.H dx _ a = none; rw [upd_ne (fun z => hne z.symm)]; exact ha
  obtain ⟨O3, e3⟩ := O2.lay (o := exo a (He.ga X.X.K x) (some dx)) ha2
  refine q _ (.ref a) (.exc x (fieldsD fs rs)) ms1 ((e1.trans e2).trans e3) O3 (.exc (d := dx) (xs := fieldsX fs vs) ?_ ?_ ?_) h1.2.2
  · show upd _ a _ a = some (exo a (He.ga W1.K x) (some dx)); rw [← hKK]; exact upd_same
  · show upd (upd W1.G dx _) a _ dx = _; rw [upd_ne hne]; exact upd_same
  · exact fields_ok (up_vs (e2.trans e3) ok1)
/-! ### e.f -/
@[simp] def wXfl (Cs : List Str) (f : Str) (wo : WE) : WE := fun ρ ms k => wo ρ ms fun r ms1 => match r with
  | .exc C' fs => C' ∈ Cs ∧ (match fs.lookup f with
    | some d => k d ms1
    | none => False)
  | _ => False
def tXfl (K : PySem.W.Frag) (f : Str) (to : TE) : TE := fun σ H Q => to σ H fun x H1 => ∃ a C d fs v, x = .ref a ∧ XcC K C ∧ PySem.W.findIn K (.ref C) f = some none ∧ H1 a = some (exo a C (some d)) ∧ H1 d = some (exd d fs) ∧ fs.lookup f = some v ∧ Q v H1
theorem pe_xfl {X : Cx} {e : Expr} {te : TE} {pos : Pos} {n : Str} (he : PE X e te) (hb : attributeBase e n X.env (eval e X.env) = eval e X.env := by rfl) : PE X (.Attribute e n pos) (tXfl X.K n te) := by
  refine ⟨fun pins s σ H Q I h => ?_⟩
  refine attr_of hb (thn (he.run pins s σ H _ I h) fun u s1 ⟨x, H1, I1, rx, a, C, d, fs, v, ex, T, hno, ha, hd, l, q⟩ => ?_)
  subst ex
  obtain rfl : u = Value.ref a := rx
  obtain ⟨t1, ho⟩ := exo_at I1.hok ha
  obtain ⟨mA, hns, rel⟩ := exd_at I1.hok hd
  obtain ⟨od, hod, hl⟩ := lookIn_ns hns
  obtain ⟨u, hu, ru⟩ := RelO.some_of (v := v) (o := mA n) (by rw [← l]; exact rel n)
  exact HandSPX.exc_get I1.kIn ⟨ho, rfl, rfl, hod⟩ T.ga T.gt T.sb (PySem.W.findObj_own T.hd hno rfl (by rw [hl, hu])) (handed_of ru) ⟨v, H1, I1.tok _, ru, q⟩
theorem Dtf.look {K : PySem.W.Frag} {G : Hp} {A : List Addr} {f : Str} : ∀ {xs : List (Str × V)} {fs : List (Str × Dat)} {d : Dat}, Dtf K G A xs fs → fs.lookup f = some d → ∃ v, xs.lookup f = some v ∧ Dt K G A v d
  | _, _, _, .nil, h => by cases h
  | (k, v) :: xs, (_, e) :: fs, d, .cons h r, q => by
    cases z : f == k with
    | true => simp only [List.lookup, z] at q ⊢; cases q; exact ⟨v, rfl, h⟩
    | false => simp only [List.lookup, z] at q ⊢; exact Dtf.look r q
theorem de_xfl {o : Expr} {Cs : List Str} {f : Str} {pos : Pos} {wo : WE} (T : ∀ C ∈ Cs, XcC X.X.K (He.ga X.X.K C) ∧ PySem.W.findIn X.X.K (.ref (He.ga X.X.K C)) f = some none) (ho : DE X o wo) (hb : attributeBase o f X.X.env (eval o X.X.env) = eval o X.X.env := by rfl) : DE X (.Attribute o f pos) (wXfl Cs f wo) := by
  obtain ⟨t, p, l⟩ := ho
  refine ⟨_, pe_xfl p hb, fun W σ ρ ms Q k hK Rl O hw q => l W σ ρ ms _ _ hK Rl O hw fun W1 v r ms1 e1 O1 ok1 h1 => ?_⟩
  have hKK : X.X.K = W1.K := (congrArg Sg.K (e1.s.trans hK)).symm
  split at h1
  · rename_i C' fs
    obtain ⟨hC, h1⟩ := h1
    split at h1
    · rename_i d e2
      cases ok1 with
      | exc g1 g2 g3 =>
        obtain ⟨u, hu, oku⟩ := g3.look e2
        refine ⟨_, _, _, _, u, rfl, (T _ hC).1, (T _ hC).2, ?_, O1.ex _ _ g2, hu, q W1 u d ms1 e1 O1 oku h1⟩
        rw [hKK]; exact O1.ex _ _ g1
    · exact h1.elim
  · exact h1.elim
end
end Sy
namespace Sy
open PySem PySem.Spec PyProof.Rows L2
/-! ## isinstance -/
inductive Kd where
  | own (C : Str) | bt (T : String)
  deriving DecidableEq
def Kd.val (K : PySem.W.Frag) : Kd → Value
  | .own C => .ref (He.ga K C)
  | .bt T => .type T
/-- what isinstance asks of a class whose instances it is given -/
structure InC (K : PySem.W.Frag) (C : Addr) : Prop where
  cl : Cls K C
  ha : PySem.W.findIn K (.ref C) "__class__" = some (some (.builtin "object.__class__"))
  hn : PySem.W.specialIn K (.builtin "object.__class__") "__get__" = some (some (.builtin "getset_descriptor.__get__"))
  ht : PySem.W.takesIn K (.builtin "object.__class__") = some true
  hm : PySem.W.mroIn K C (.type "object") = some true
def inB (K : PySem.W.Frag) (C : Addr) : Bool := PySem.W.plainGet K C Str.empty && PySem.W.hasDictIn K C && PySem.W.plainOver K C && decide (PySem.W.findIn K (.ref C) "__setattr__" = some (some (.builtin "object.__setattr__"))) &&
  (decide (PySem.W.findIn K (.ref C) "__class__" = some (some (.builtin "object.__class__"))) && decide (PySem.W.specialIn K (.builtin "object.__class__") "__get__" = some (some (.builtin "getset_descriptor.__get__"))) && decide (PySem.W.takesIn K (.builtin "object.__class__") = some true) && decide (PySem.W.mroIn K C (.type "object") = some true))
theorem inB_ok {K : PySem.W.Frag} {C : Addr} (h : inB K C = true) : InC K C := by
  unfold inB at h
  simp only [Bool.and_eq_true, decide_eq_true_eq] at h
  obtain ⟨⟨⟨⟨a1, a2⟩, a3⟩, a4⟩, ⟨⟨b1, b2⟩, b3⟩, b4⟩ := h
  exact ⟨⟨a1, a2, a3, a4⟩, b1, b2, b3, b4⟩
/-- the classes of the text: kt what isinstance answers, xs the exceptions, ins the others -/
structure KtOk (K : PySem.W.Frag) (kt : Kd → Kd → Option Bool) (xs ins : Str → Bool) : Prop where
  ok : ∀ a b r, kt a b = some r → PySem.W.kitOne K (a.val K) (b.val K) = some r
  xc : ∀ C, xs C = true → XcC K (He.ga K C)
  ic : ∀ C, ins C = true → InC K (He.ga K C)
@[simp] def kindV (xs ins : Str → Bool) (ms : Ms) : Dat → Option Kd
  | .exc C _ => if xs C = true then some (.own C) else none
  | .ins C _ => if ins C = true then some (.own C) else none
  | .own i => (match ms[i]? with
    | some (.ins C _) => if ins C = true then some (.own C) else none
    | some (.lst _) => some (.bt "list")
    | some (.dic _) => some (.bt "dict")
    | some (.lck (.dic _)) => some (.bt "dict")
    | _ => none)
  | .non => some (.bt "NoneType")
  | .bl _ => some (.bt "bool")
  | .int _ => some (.bt "int")
  | .str _ => some (.bt "str")
  | .lst _ => some (.bt "list")
  | .tup _ => some (.bt "tuple")
  | .dic _ => some (.bt "dict")
  | _ => none
@[simp] def clsK : Dat → Option Kd
  | .glo C => some (.own C)
  | .ty T => some (.bt T)
  | _ => none
@[simp] def clsKs : List Dat → Option (List Kd)
  | [] => some []
  | c :: cs => match clsK c, clsKs cs with
    | some b, some bs => some (b :: bs)
    | _, _ => none
@[simp] def ktAny (kt : Kd → Kd → Option Bool) (a : Kd) : List Kd → Option Bool
  | [] => some false
  | b :: bs => match kt a b with
    | some true => some true
    | some false => ktAny kt a bs
    | none => none
def TyA (K : PySem.W.Frag) (H : Hp) (x : V) (t : Value) : Prop := TyX K H x t ∨ ∃ a C d, x = .ref a ∧ t = .ref C ∧ XcC K C ∧ H a = some (exo a C (some d)) ∧ ∃ fs, H d = some (exd d fs)
theorem kit_ofA {X : Cx} {pins : List (Addr × Obj)} {σ : L2.St} {H : Hp} {s : Shared} {x : V} {u t : Value} (I : Inv X pins σ H s) (rx : RelV x u) (ty : TyA X.K H x t) : ∃ P : Heap → Prop, PySem.W.KitX X.K u t P ∧ P s.heap ∧ u ≠ .builtin "__main__.__loader__#opaque" := by
  rcases ty with ty | ⟨a, C, d, rfl, rfl, T, ha, fs, hd⟩
  · exact kit_of I rx ty
  · cases (show u = Value.ref a from rx)
    obtain ⟨t1, ho⟩ := exo_at I.hok ha
    obtain ⟨mA, hns, rel⟩ := exd_at I.hok hd
    obtain ⟨od, hod, _⟩ := lookIn_ns hns
    exact ⟨_, PySem.W.kitx_exc (od := some od) T.ic T.ga T.gt T.sb T.cl T.cg T.ct T.mo, ⟨ho, rfl, rfl, hod⟩, fun z => nomatch z⟩
def rIsA (K : PySem.W.Frag) : List V → Hp → VK → Prop := fun xs H Q => (∃ (x c : V) (t u : Value) (b : Bool), xs = [x, c] ∧ ClsV c u ∧ TyA K H x t ∧ PySem.W.kitOne K t u = some b ∧ Q (.bl b) H) ∨
  ∃ (x : V) (tp : Addr) (cs : List V) (t : Value) (us : List Value) (b : Bool), xs = [x, .ref tp] ∧ H tp = some (.tup cs) ∧ Paired ClsV cs us ∧ TyA K H x t ∧ PySem.W.kitAny K t us = some b ∧ Q (.bl b) H
theorem call_isA {X : Cx} : CallR X (.builtin "isinstance") (rIsA X.K) := by
  intro pins s σ H xs us Q I r h
  rcases h with ⟨x, c, t, u, b, rfl, k, ty, e, q⟩ | ⟨x, tp, cs, t, ws, b, rfl, hT, k, ty, e, q⟩
  · obtain ⟨u1, u2, rfl, r1, r2⟩ := vals2 r
    have e2 := k.eq r2
    subst e2
    obtain ⟨P, Z, p, hx⟩ := kit_ofA I r1 ty
    exact PySem.W.kia_one Z I.kIn p e hx fun tk => ⟨.bl b, H, I.tok tk, rfl, q⟩
  · obtain ⟨u1, u2, rfl, r1, r2⟩ := vals2 r
    cases (show u2 = Value.ref tp from r2)
    obtain ⟨P, Z, p, hx⟩ := kit_ofA I r1 ty
    obtain ⟨_, its, rv, ⟨oc, od, dt, sl⟩, h1, h2, n, h3⟩ := (show ObjOk X.prog X.w H s.heap tp (.tup cs) from I.hok tp _ hT)
    cases ClsV.all k rv
    simp only at h2 h3
    subst h2 h3
    exact PySem.W.kia_tup Z I.kIn p h1 e hx fun tk => ⟨.bl b, H, I.tok tk, rfl, q⟩
section
variable {W : Wd} {ms : Ms} {v : V} {r : Dat} {kt : Kd → Kd → Option Bool} {xs ins : Str → Bool}
theorem ins_ty {K : PySem.W.Frag} {H : Hp} {a C dx : Addr} {fs : List (Str × V)} (T : InC K C) (h : H a = some (.ins C dx fs)) : TyX K H (.ref a) (.ref C) := .base (.ins h T.cl T.ha T.hn T.ht T.hm)
theorem Own.kind (O : Own W ms) (T : KtOk W.K kt xs ins) (ok : RvOk W v r) {a : Kd} (h : kindV xs ins ms r = some a) : TyA W.K W.H v (a.val W.K) := by
  cases ok with
  | non => cases h; exact .inl (.base .non)
  | bl b => cases h; exact .inl (.base (.bl b))
  | int b => cases h; exact .inl (.base (.int b))
  | str b => cases h; exact .inl (.base (.str b))
  | ty n => cases h
  | ref a => cases h
  | glo a => cases h
  | lst h1 _ => cases h; exact .inl (.base (.lst (O.ex _ _ h1)))
  | tup h1 _ => cases h; exact .inl (.base (.tup (O.ex _ _ h1)))
  | dic h1 _ => cases h; exact .inl (.fDict (O.ex _ _ h1))
  | scr _ => cases h
  | @own _ i hA =>
    simp only [kindV] at h
    split at h
    · rename_i C fs e
      split at h
      · rename_i hi
        cases h
        obtain ⟨b, o, hb, hg, ho, dx, xs', rfl, q⟩ := O.cell i _ e (fun z => by cases z)
        rw [hA] at hb; cases hb
        exact .inl (ins_ty (T.ic C hi) ho)
      · cases h
    · rename_i ds e
      cases h
      obtain ⟨b, ys, hb, _, ho, _⟩ := O.lstAt e
      rw [hA] at hb; cases hb
      exact .inl (.base (.lst ho))
    · rename_i ds e
      cases h
      obtain ⟨b, ys, hb, _, ho, _⟩ := O.dicAt e
      rw [hA] at hb; cases hb
      exact .inl (.base (.dK ho))
    · rename_i ds e
      cases h
      obtain ⟨b, o, hb, hg, ho, ob, u, rfl, ys, rfl, rk⟩ := O.cell i _ e (fun z => by cases z)
      rw [hA] at hb; cases hb
      exact .inl (.fDict ho)
    · cases h
  | @ins _ _ C _ _ h1 _ =>
    simp only [kindV] at h
    split at h
    · rename_i hi
      cases h
      exact .inl (ins_ty (T.ic C hi) (O.ex _ _ h1))
    · cases h
  | @exc _ d C _ _ h1 h2 _ =>
    simp only [kindV] at h
    split at h
    · rename_i hi
      cases h
      exact .inr ⟨_, _, d, rfl, rfl, T.xc C hi, O.ex _ _ h1, _, O.ex _ _ h2⟩
    · cases h
theorem clsK_ok {c : V} {d : Dat} {b : Kd} (ok : RvOk W c d) (h : clsK d = some b) : ClsV c (b.val W.K) := by
  cases ok <;> first | (cases h; done) | skip
  · cases h; exact .ty _
  · cases h; exact .own _
theorem clsKs_ok : ∀ {cs : List V} {ds : List Dat} {bs : List Kd}, RvsOk W cs ds → clsKs ds = some bs → Paired ClsV cs (bs.map (Kd.val W.K))
  | _, _, _, .nil, h => by cases h; exact .nil
  | _, _, _, .cons hd hr, h => by
    simp only [clsKs] at h
    split at h
    · rename_i b bs eb es
      cases h
      exact .cons (clsK_ok hd eb) (clsKs_ok hr es)
    · cases h
theorem ktAny_ok (T : KtOk W.K kt xs ins) {a : Kd} : ∀ {bs : List Kd} {r : Bool}, ktAny kt a bs = some r → PySem.W.kitAny W.K (a.val W.K) (bs.map (Kd.val W.K)) = some r
  | [], _, h => by cases h; rfl
  | b :: bs, r, h => by
    unfold ktAny at h
    show (match PySem.W.kitOne W.K (a.val W.K) (b.val W.K) with
      | some true => some true
      | some false => PySem.W.kitAny W.K (a.val W.K) (bs.map (Kd.val W.K))
      | none => none) = some r
    split at h
    · rename_i e; rw [T.ok a b _ e]; exact h
    · rename_i e; rw [T.ok a b _ e]; exact ktAny_ok T h
    · cases h
end
section
variable {X : Cy} {kt : Kd → Kd → Option Bool} {xs ins : Str → Bool}
@[simp] def wIsA (kt : Kd → Kd → Option Bool) (xs ins : Str → Bool) : WC := fun rs ms k => match rs with
  | [r, c] => (match kindV xs ins ms r with
    | some a => (match c with
      | .tup cs => (match clsKs cs with
        | some bs => (match ktAny kt a bs with
          | some t => k (.bl t) ms
          | none => False)
        | none => False)
      | c => (match clsK c with
        | some b => (match kt a b with
          | some t => k (.bl t) ms
          | none => False)
        | none => False))
    | none => False)
  | _ => False
theorem dc_isA (T : KtOk X.X.K kt xs ins) : CallR X.X (.builtin "isinstance") (rIsA X.X.K) ∧ LC X.S (rIsA X.X.K) (wIsA kt xs ins) := ⟨call_isA, fun W vs rs ms Q k hK ok O hw q => by
  have hKK : X.X.K = W.K := (congrArg Sg.K hK).symm
  rw [hKK] at T ⊢
  unfold wIsA at hw
  split at hw
  · rename_i r c
    obtain ⟨v, u, rfl, o1, oc⟩ := ok.two
    split at hw
    · rename_i a ea
      have ty := O.kind T o1 ea
      split at hw
      · rename_i cs
        split at hw
        · rename_i bs eb
          split at hw
          · rename_i t et
            cases oc with
            | tup g1 g2 => exact .inr ⟨v, _, _, _, _, t, rfl, O.ex _ _ g1, clsKs_ok g2 eb, ty, ktAny_ok T et, q W _ (.bl _) ms (Ext.refl W) O (.bl _) hw⟩
          · exact hw.elim
        · exact hw.elim
      · split at hw
        · rename_i b eb
          split at hw
          · rename_i t et
            exact .inl ⟨v, u, _, _, t, rfl, clsK_ok oc eb, ty, T.ok a b t et, q W _ (.bl _) ms (Ext.refl W) O (.bl _) hw⟩
          · exact hw.elim
        · exact hw.elim
    · exact hw.elim
  · exact hw.elim⟩
end
end Sy
namespace Sy
open PySem PySem.Spec PyProof.Rows L2
/-! ## repr of a dict of flat values -/
@[simp] def keyPy : Key → PyData
  | .inl i => .int i
  | .inr x => .str x
@[simp] def dicPy (kvs : List (Key × Dat)) : PyData := .dict (kvs.map fun p => (keyPy p.1, toPy p.2))
theorem reads_key {h : Heap} {P : Program} {w : World} {k : Key} {v : Value} (e : (mixKind P w).is k v = true) : Reads h v (keyPy k) [] := by
  rcases keyIs_shape e with ⟨i, t, rfl, rfl⟩ | ⟨x, t, rfl, rfl⟩
  · exact .int i t
  · exact .str x t
theorem reads_flat {h : Heap} {K : PySem.W.Frag} {G : Hp} {A : List Addr} {v : V} {d : Dat} {u : Value} (ok : Dt K G A v d) (f : flat d = true) (r : RelV v u) : Reads h u (toPy d) [] := by
  cases ok <;> first | (cases f; done) | skip
  · cases r; exact .none
  · cases r; exact .bool _
  · obtain ⟨t, rfl⟩ := r; exact .int _ t
  · obtain ⟨t, rfl⟩ := r; exact .str _ t
theorem readsAll_nil {h : Heap} : ∀ {vs : List Value} {ds : List PyData}, Paired (fun v d => Reads h v d []) vs ds → ReadsAll h vs ds []
  | _, _, .nil => .nil
  | _, _, .cons a r => ReadsAll.cons (as := []) (bs := []) a (readsAll_nil r)
theorem pairs_keys {h : Heap} {P : Program} {w : World} : ∀ {es : List DictEntry} {vs : List (Key × Value)} {ds : List (Key × PyData)}, Pairs (mixKind P w) es vs → Paired (fun (p : Key × Value) (q : Key × PyData) => p.1 = q.1 ∧ Reads h p.2 q.2 []) vs ds →
    Paired (fun v d => Reads h v d []) (es.map (·.key)) ((ds.map fun p => (keyPy p.1, p.2)).map (·.1)) ∧ Paired (fun v d => Reads h v d []) (es.map (·.val)) ((ds.map fun p => (keyPy p.1, p.2)).map (·.2))
  | _, _, _, .nil, .nil => ⟨.nil, .nil⟩
  | _, _, _, .cons h1 h2 r, .cons q t => by
    obtain ⟨a, b⟩ := pairs_keys r t
    exact ⟨.cons (by dsimp only; rw [← q.1]; exact reads_key h1) a, .cons (by dsimp only; rw [h2]; exact q.2) b⟩
theorem reads_dict {h : Heap} {P : Program} {w : World} {a : Addr} {vs : List (Key × Value)} {ds : List (Key × PyData)} (x : h.DictOf (mixKind P w) a vs) (hp : Paired (fun (p : Key × Value) (q : Key × PyData) => p.1 = q.1 ∧ Reads h p.2 q.2 []) vs ds) : Reads h (.ref a) (.dict (ds.map fun p => (keyPy p.1, p.2))) [a] := by
  obtain ⟨o, es, ep, ho, hc, hd, _, hp2, _⟩ := x
  obtain ⟨hk, hv⟩ := pairs_keys hp2 hp
  exact Reads.dict (as := []) (bs := []) ho hc.1 hd (readsAll_nil hk) (readsAll_nil hv)
/-- a dict of flat values, read -/
def rReprDc : List V → Hp → VK → Prop := fun xs H Q => ∃ (a : Addr) (kvs : List (Key × V)) (ds : List (Key × PyData)), xs = [.ref a] ∧ Rd H a (.dK kvs) ∧ Paired (fun (p : Key × V) (q : Key × PyData) => p.1 = q.1 ∧ ∀ h u, RelV p.2 u → Reads h u q.2 []) kvs ds ∧
  (PyData.dict (ds.map fun p => (keyPy p.1, p.2))).showable = true ∧ (PyData.dict (ds.map fun p => (keyPy p.1, p.2))).depth ≤ 64 ∧ (PyData.dict (ds.map fun p => (keyPy p.1, p.2))).shown.length ≤ sizeLine ∧ Q (.str (PyData.dict (ds.map fun p => (keyPy p.1, p.2))).shown) H
theorem paired_trans {h : Heap} : ∀ {kvs : List (Key × V)} {vs : List (Key × Value)} {ds : List (Key × PyData)}, KV kvs vs → Paired (fun (p : Key × V) (q : Key × PyData) => p.1 = q.1 ∧ ∀ h u, RelV p.2 u → Reads h u q.2 []) kvs ds → Paired (fun (p : Key × Value) (q : Key × PyData) => p.1 = q.1 ∧ Reads h p.2 q.2 []) vs ds
  | _, _, _, .nil, .nil => .nil
  | _, _, _, .cons a r, .cons b t => .cons ⟨a.1.symm.trans b.1, b.2 _ _ a.2⟩ (paired_trans r t)
theorem call_reprDc {X : Cx} (hg : X.A.guards = some []) (hu : X.A.units + 65 < cLine) : CallR X (.builtin "repr") rReprDc := by
  rintro pins s σ H xs us Q J r ⟨a, kvs, ds, rfl, hd, hp, hs, hdep, hsz, q⟩
  obtain ⟨u, rfl, ru⟩ := vals1 r
  cases ru
  obtain ⟨_, hm, vs, kv, dd⟩ := dk_rd J.hok hd
  refine repr_of_reads' (h₀ := s.heap) (reads_dict dd (paired_trans kv hp)) hs (fun _ z => ?_) hg (by omega) (fun _ _ z => z) (fun h' t tk kept => ⟨.str _, H, J.kept (t' := tk) kept, ⟨t, rfl⟩, q⟩) hsz
  rw [List.mem_singleton.mp z] at hm
  simp at hm
theorem RkOk.py {W : Wd} : ∀ {xs : List (Key × V)} {kvs : List (Key × Dat)}, RkOk W xs kvs → (kvs.all fun p => flat p.2) = true → Paired (fun (p : Key × V) (q : Key × PyData) => p.1 = q.1 ∧ ∀ h u, RelV p.2 u → Reads h u q.2 []) xs (kvs.map fun p => (p.1, toPy p.2))
  | _, _, .nil, _ => .nil
  | _, _, .cons h r, f => by
    rw [List.all_cons, Bool.and_eq_true] at f
    exact .cons ⟨rfl, fun _ _ z => reads_flat h f.1 z⟩ (RkOk.py r f.2)
section
variable {X : Cy}
@[simp] def wReprA : WC := fun rs ms k => match rs with
  | [r] => (match dicOf ms r with
    | some kvs => (kvs.all fun p => flat p.2) = true ∧ (dicPy kvs).showable = true ∧ (dicPy kvs).depth ≤ 64 ∧ (dicPy kvs).shown.length ≤ sizeLine ∧ k (.str (dicPy kvs).shown) ms
    | none => wRepr rs ms k)
  | _ => False
theorem dc_reprA (hg : X.X.A.guards = some []) (hu : X.X.A.units + 65 < cLine) : CallR X.X (.builtin "repr") (fun xs H Q => rRepr X.X.K xs H Q ∨ rReprDc xs H Q) ∧ LC X.S (fun xs H Q => rRepr X.X.K xs H Q ∨ rReprDc xs H Q) wReprA := by
  refine ⟨fun pins s σ H xs us Q I rv hh => hh.elim (call_reprD hg hu pins s σ H xs us Q I rv) (call_reprDc hg hu pins s σ H xs us Q I rv), fun W vs rs ms Q k hK ok O hw q => ?_⟩
  unfold wReprA at hw
  split at hw
  · split at hw
    · rename_i r _ kvs e
      obtain ⟨v, rfl, o1⟩ := ok.one
      obtain ⟨a, xs, rfl, h1, h2⟩ := O.dict o1 (dicOf_look e)
      obtain ⟨f, c1, c2, c3, hk⟩ := hw
      have em : ((kvs.map fun p => (p.1, toPy p.2)).map fun p => (keyPy p.1, p.2)) = kvs.map fun p => (keyPy p.1, toPy p.2) := by rw [List.map_map]; rfl
      refine .inr ⟨a, xs, _, rfl, h1, h2.py f, ?_⟩
      rw [em]
      exact ⟨c1, c2, c3, q W _ (.str _) ms (Ext.refl W) O (.str _) hk⟩
    · exact .inl ((dc_repr hg hu).2 W vs _ ms Q k hK ok O hw q)
  · exact hw.elim
end
end Sy
namespace Sy
open PySem PySem.Spec PyProof.Rows L2
/-! ## the law's end -/
theorem lawG {P : Program} {w : World} {K : PySem.W.Frag} {mg mb : Str → Option Value} {CX : CXT} {k : Nat} {fa a : Addr} {fd : FuncData} {x : Str} {sp : Sp} {s₁ : Shared} {vs : List Value} {ns : List Int}
    (KX : K.In s₁.heap) (hns : s₁.heap.Ns mainGlobals mg) (hb : s₁.heap.Ns builtinsNs mb) (hbb : ∀ x : Str, x ≠ "__name__" → mb x = bootBuiltins x) (hlim : s₁.heap.NoLimit) (hgn : s₁.gens = #[])
    (ha : s₁.heap.get? a = some { cls := .type "list", data := .seq vs.toArray }) (hi : IntsAre vs ns) (hl : ns.length ≤ sizeLine) (room : Room k callerA)
    (F : ∀ base : Heap, K.In base → base.Ns mainGlobals mg → FnG P w K mg base CX k fa fd [x] sp) (hbind : ∀ (s : Shared) (u : Value), BindsTo s fd ⟨[u], []⟩ [(x, u)])
    (hsp : ∀ H : Hp, Only H → SqL K H a (ns.map V.int) → sp [.ref a] H (fun v _ => v = .bl true) fun _ _ _ => False)
    (hCX : ∀ H e s', CX [] H s₁ (fun _ _ _ => False) e s' → False) :
    codeAny (model P w) callerA (.call (.ref fa) ⟨[.ref a], []⟩) (fun r s' => r = .ok (.ret (.bool true)) ∧ OldK s₁.heap s'.heap ∧ s'.os = s₁.os ∧ AllBare s'.gens) s₁ := by
  have vals := vals_ints hi
  have hlen := hi.length
  have main : ∀ H : Hp, Only H → SqL K H a (ns.map V.int) → HOk P w H s₁.heap → (∀ c, H c ≠ none → c = a) → (H a ≠ none → K.lookup a = none) →
      codeAny (model P w) callerA (.call (.ref fa) ⟨[.ref a], []⟩) (fun r s' => r = .ok (.ret (.bool true)) ∧ OldK s₁.heap s'.heap ∧ s'.os = s₁.os ∧ AllBare s'.gens) s₁ := by
    intro H only sq ok onlyA notK
    have away : ∀ {c : Addr} {u : HO}, H c = some u → c = a := fun {c u} z => onlyA c (by rw [z]; intro y; cases y)
    have free : ∀ {c : Addr} {o : Obj} {es : Array DictEntry} {ep : Nat}, s₁.heap.get? c = some o → o.data = .dict es ep → H c = none := fun {c o es ep} z d => by
      cases y : H c with
      | none => rfl
      | some u =>
        have ec := away y
        subst ec
        rw [ha] at z
        cases z
        exact nomatch (show Data.seq vs.toArray _ = Data.dict es ep from d)
    have nsK : ∀ {c : Addr} {m : Str → Option Value}, s₁.heap.Ns c m → (hidT s₁.heap H).Ns c m := fun {c m} ⟨o, es, ep, z, d, r⟩ => ⟨o, es, ep, hidT_get z (free z d), d, r⟩
    have kin : K.In (hidT s₁.heap H) := fun c o z => hidT_get (KX c o z) (by
      cases y : H c with
      | none => rfl
      | some u =>
        have ec := away y
        subst ec
        rw [notK (by rw [y]; intro q; cases q)] at z
        cases z)
    have md : Mod K mg (hidT s₁.heap H) := ⟨kin, nsK hns, ⟨mb, nsK hb, hbb⟩, let ⟨mc, h1, h2⟩ := hlim; ⟨mc, nsK h1, h2⟩⟩
    have en : Env0 P w K mg (hidT s₁.heap H) callerA [] s₁ H := ⟨rfl, md, fun c o z => of_hidT z, Nat.le_of_eq (hidT_size _ _), trivial, fun c hc => absurd (show c ∈ ([] : List Addr) from hc) (by simp), ok, .of_eq hgn⟩
    refine codeAny_mono ((F _ kin (nsK hns)).go callerA [] s₁ H ⟨[.ref a], []⟩ [.ref a] [.ref a] _ _ rfl room en (hbind s₁ (.ref a)) (.cons rfl .nil) (hsp H only sq)) fun res s2 hres => ?_
    match res, hres with
    | .error e, z => exact (hCX H e s2 z).elim
    | .ok .next, z => exact False.elim z
    | .ok .brk, z => exact False.elim z
    | .ok .cont, z => exact False.elim z
    | .ok (.ret u), ⟨v, H2, os, bare, un, ok2, rv, (hv : v = .bl true)⟩ =>
      subst hv
      obtain rfl : u = Value.bool true := rv
      refine ⟨rfl, OldK.of_keep fun c o z => ?_, os, bare⟩
      cases y : H c with
      | none => exact un.keep c o z y (fun q => absurd (show c ∈ ([] : List Addr) from q) (by simp)) (by simp)
      | some t =>
        rcases only c with q | ⟨ob, xs, q⟩
        · rw [y] at q; cases q
        · obtain ⟨e1, _⟩ := ok c _ q
          obtain ⟨e2, _⟩ := ok2 c _ (un.frzs c ob _ q)
          rw [z] at e1
          cases e1
          exact e2
  cases hk : K.lookup a with
  | some o =>
    have z := KX a o hk
    rw [ha] at z
    cases z
    refine main (fun _ => none) (fun _ => Or.inl rfl) (Or.inr ⟨_, vs.toArray, _, hk, rfl, rfl, rfl, by rw [List.size_toArray, hlen]; exact hl, by simpa using vals⟩) (fun c u q => ?_) (fun c q => absurd rfl q) fun q => absurd rfl q
    exact nomatch (show (none : Option HO) = some u from q)
  | none =>
    let ob : Obj := { cls := .type "list", data := .seq vs.toArray }
    have at_a : ∀ {c : Addr}, c = a → (fun c => if c = a then some (HO.frz ob (.lst (ns.map V.int))) else none) c = some (HO.frz ob (.lst (ns.map V.int))) := fun {c} q => if_pos q
    have off_a : ∀ {c : Addr}, ¬ c = a → (fun c => if c = a then some (HO.frz ob (.lst (ns.map V.int))) else none) c = none := fun {c} q => if_neg q
    refine main (fun c => if c = a then some (.frz ob (.lst (ns.map V.int))) else none) (fun c => ?_) (Or.inl (Or.inr ⟨ob, at_a rfl⟩)) (fun c u q => ?_) (fun c q => ?_) fun _ => hk
    · exact (Classical.em (c = a)).elim (fun z => Or.inr ⟨_, _, at_a z⟩) fun z => Or.inl (off_a z)
    · rcases Classical.em (c = a) with z | z
      · have q2 := (at_a z).symm.trans q
        cases q2
        subst z
        exact ⟨ha, by rw [List.length_map]; exact hl, vs, _, vals, ha⟩
      · exact nomatch (off_a z).symm.trans q
    · exact Classical.byContradiction fun z => q (off_a z)
theorem walkG {l : PySem.W.OpenLaw} {n k : Nat} {q : Program} {loose : List Str} {XP : (Str → Option Value) → Heap → Prop} {YP : World → Heap → Prop} {d : DefRec} {CX : World → CXT} {x : Str}
    (hn : l.most = some n) (hn2 : n ≤ sizeLine) (hdf : d.params.defaults = []) (room : Room k callerA)
    (F : ∀ (w : World) (mg : Str → Option Value) (fa : Addr) (h : Heap), YP w h → h.Ns mainGlobals mg → mg d.name = some (.ref fa) →
      ∃ (K : PySem.W.Frag) (fd : FuncData) (sp : Sp), K.In h ∧ (∀ (s : Shared) (u : Value), BindsTo s fd ⟨[u], []⟩ [(x, u)]) ∧
        (∀ (H : Hp) (a : Addr) (ns : List Int), ns.length ≤ n → Only H → SqL K H a (ns.map V.int) → sp [.ref a] H (fun v _ => v = .bl true) fun _ _ _ => False) ∧
        ∀ base : Heap, K.In base → base.Ns mainGlobals mg → FnG l.prog w K mg base (CX w) k fa fd [x] sp)
    (hCX : ∀ (w : World) (H : Hp) (s : Shared) (e : Value) (s' : Shared), CX w [] H s (fun _ _ _ => False) e s' → False) :
    PySem.W.WalkO q loose XP YP l.row.toRowW d [] (fun f vs => PySem.call f vs) := by
  refine Att.attach_call hn hdf fun w s0 s1 mg mb fa o pm cd doc a vs ns gr yp ho hd hcd hmg hobj hints hlen hgn => ?_
  obtain ⟨K, fd, sp, kin, hb, hsp, hF⟩ := F w mg fa _ yp gr.T.g hmg
  exact lawG kin gr.T.g gr.T.b gr.T.builtins gr.T.nolimit hgn hobj hints (Nat.le_trans hlen hn2) room hF hb (fun H hO hS => hsp H a ns hlen hO hS) fun H e s' => hCX w H s1 e s'
theorem cx_none {P : Program} {w : World} {H : Hp} {s : Shared} {e : Value} {s' : Shared} (h : L2.CX P w [] H s (fun _ _ _ => False) e s') : False := by
  obtain ⟨_, _, _, _, _, _, _, _, _, _, _, _, z⟩ := h
  exact z.elim
/-! ## what is fine -/
@[simp] theorem shaped_none : SeqAt.shaped .none = true := by decide
@[simp] theorem shaped_bool (b : Bool) : SeqAt.shaped (.bool b) = true := by cases b <;> decide
@[simp] theorem shaped_int (i : Int) : SeqAt.shaped (.int i) = true := by simp [SeqAt.shaped, PyData.canLay0, PyData.depth]
@[simp] theorem eqv_ii (i j : Int) : PyData.eqv (.int i) (.int j) = decide (i = j) := by simp [PyData.eqv]; rfl
@[simp] theorem eqv_ss (x y : Str) : PyData.eqv (.str x) (.str y) = decide (x = y) := by simp [PyData.eqv]; by_cases h : x = y <;> simp [h]
@[simp] theorem eqv_ts (xs : List PyData) (y : Str) : PyData.eqv (.tuple xs) (.str y) = false := by simp [PyData.eqv]
@[simp] theorem eqv_ll (xs ys : List PyData) : PyData.eqv (.list xs) (.list ys) = PyData.eqvAll xs ys := by simp [PyData.eqv]
@[simp] theorem eqv_tt (xs ys : List PyData) : PyData.eqv (.tuple xs) (.tuple ys) = PyData.eqvAll xs ys := by simp [PyData.eqv]
@[simp] theorem eqvAll_nn : PyData.eqvAll [] [] = true := by simp [PyData.eqvAll]
@[simp] theorem eqvAll_nc (x : PyData) (xs : List PyData) : PyData.eqvAll [] (x :: xs) = false := by simp [PyData.eqvAll]
@[simp] theorem eqvAll_cn (x : PyData) (xs : List PyData) : PyData.eqvAll (x :: xs) [] = false := by simp [PyData.eqvAll]
@[simp] theorem eqvAll_cc (x y : PyData) (xs ys : List PyData) : PyData.eqvAll (x :: xs) (y :: ys) = (PyData.eqv x y && PyData.eqvAll xs ys) := by simp [PyData.eqvAll]
/-- flat lists of good data -/
def leaf : Dat → Bool
  | .non => true
  | .bl _ => true
  | .int _ => true
  | .str x => SeqAt.shaped (.str x)
  | _ => false
theorem leaf_ok : ∀ {d : Dat}, leaf d = true → plain d = true ∧ (toPy d).canLay0 = true ∧ (toPy d).depth ≤ 1 ∧ (toPy d).hasDict = false
  | .non, _ => by simp [PyData.canLay0, PyData.depth, PyData.hasDict]
  | .bl b, _ => by simp [PyData.canLay0, PyData.depth, PyData.hasDict]
  | .int i, _ => by simp [PyData.canLay0, PyData.depth, PyData.hasDict]
  | .str x, h => by
    have h' : (PyData.canLay0 (.str x) && decide (PyData.depth (.str x) ≤ 64)) = true := h
    rw [Bool.and_eq_true] at h'
    refine ⟨by simp, by simpa using h'.1, by simp [PyData.depth], by simp [PyData.hasDict]⟩
/-- depth below n, all laid -/
def fine (n : Nat) (d : Dat) : Prop := plain d = true ∧ (toPy d).canLay0 = true ∧ (toPy d).depth ≤ n ∧ (toPy d).hasDict = false
theorem fines {n : Nat} : ∀ {ds : List Dat}, (∀ d ∈ ds, fine n d) → plains ds = true ∧ PyData.canLayAll0 (toPys ds) = true ∧ PyData.depthAll (toPys ds) ≤ n ∧ PyData.hasDictAll (toPys ds) = false
  | [], _ => by simp [PyData.canLayAll0, PyData.depthAll, PyData.hasDictAll]
  | d :: ds, h => by
    obtain ⟨a1, a2, a3, a4⟩ := h d (by simp)
    obtain ⟨b1, b2, b3, b4⟩ := fines fun x hx => h x (List.mem_cons_of_mem _ hx)
    refine ⟨by simp [a1, b1], by simp [PyData.canLayAll0, a2, b2], ?_, by simp [PyData.hasDictAll, a4, b4]⟩
    simp [PyData.depthAll]
    omega
theorem fine_lst {n : Nat} {ds : List Dat} (h : ∀ d ∈ ds, fine n d) : fine (n + 1) (.lst ds) := by
  obtain ⟨b1, b2, b3, b4⟩ := fines h
  refine ⟨by simpa using b1, by simpa [PyData.canLay0] using b2, ?_, by simpa [PyData.hasDict] using b4⟩
  simp [PyData.depth]; omega
theorem fine_tup {n : Nat} {ds : List Dat} (h : ∀ d ∈ ds, fine n d) : fine (n + 1) (.tup ds) := by
  obtain ⟨b1, b2, b3, b4⟩ := fines h
  refine ⟨by simpa using b1, by simpa [PyData.canLay0] using b2, ?_, by simpa [PyData.hasDict] using b4⟩
  simp [PyData.depth]; omega
theorem fine_leaf {n : Nat} {d : Dat} (hn : 1 ≤ n) (h : leaf d = true) : fine n d := by
  obtain ⟨a1, a2, a3, a4⟩ := leaf_ok h
  exact ⟨a1, a2, by omega, a4⟩
theorem fine.shaped {n : Nat} {d : Dat} (h : fine n d) (hn : n ≤ 64) : SeqAt.shaped (toPy d) = true := by
  have := h.2.2.1
  simp [SeqAt.shaped, h.2.1]; omega
mutual
theorem toPy_inj : ∀ {d e : Dat}, plain d = true → plain e = true → toPy d = toPy e → d = e
  | .non, e, _, h, q => by cases e <;> simp_all
  | .bl b, e, _, h, q => by cases e <;> simp_all
  | .int b, e, _, h, q => by cases e <;> simp_all
  | .str b, e, _, h, q => by cases e <;> simp_all
  | .lst ds, e, g, h, q => by
    cases e with
    | lst es => simp at q g h; rw [toPys_inj g h q]
    | _ => simp_all
  | .tup ds, e, g, h, q => by
    cases e with
    | tup es => simp at q g h; rw [toPys_inj g h q]
    | _ => simp_all
  | .ty _, _, g, _, _ => by simp at g
  | .ref _, _, g, _, _ => by simp at g
  | .dic _, _, g, _, _ => by simp at g
  | .ins _ _, _, g, _, _ => by simp at g
  | .scr _, _, g, _, _ => by simp at g
theorem toPys_inj : ∀ {d e : List Dat}, plains d = true → plains e = true → toPys d = toPys e → d = e
  | [], [], _, _, _ => rfl
  | [], _ :: _, _, _, q => by simp at q
  | _ :: _, [], _, _, q => by simp at q
  | d :: ds, e :: es, g, h, q => by
    simp at q g h
    rw [toPy_inj g.1 h.1 q.1, toPys_inj g.2 h.2 q.2]
end
theorem lcW_run {wg : WG} {wt : WT} {we : WE} {ρ : Env} {k : List Dat → Ms → Prop} {ms : Ms} (f : Dat → List Dat) : ∀ {ds acc : List Dat}
    (h : ∀ d ∈ ds, ∀ kk : List Dat → Ms → Prop, kk (f d) ms → wg d ρ ms fun ρ1 ms1 => wt ρ1 ms1 fun b ms2 => if b = true then we ρ1 ms2 fun y ms3 => kk [y] ms3 else kk [] ms2)
    (hf : ∀ d ∈ ds, f d = [] ∨ ∃ y, f d = [y]) (hs : acc.length + ds.length ≤ sizeLine) (hk : k (acc ++ ds.flatMap f) ms), lcW wg wt we ρ k ds acc ms
  | [], acc, h, hf, hs, hk => by simpa using hk
  | d :: ds, acc, h, hf, hs, hk => by
    simp only [List.length_cons] at hs
    refine h d (by simp) (fun l ms' => match l with
      | [y] => acc.length < sizeLine ∧ lcW wg wt we ρ k ds (acc ++ [y]) ms'
      | _ => lcW wg wt we ρ k ds acc ms') ?_
    rcases hf d (by simp) with e | ⟨y, e⟩
    · rw [e]
      refine lcW_run f (fun x hx => h x (List.mem_cons_of_mem _ hx)) (fun x hx => hf x (List.mem_cons_of_mem _ hx)) (by omega) ?_
      simpa [List.flatMap_cons, e] using hk
    · rw [e]
      refine ⟨by omega, lcW_run f (fun x hx => h x (List.mem_cons_of_mem _ hx)) (fun x hx => hf x (List.mem_cons_of_mem _ hx)) (by simp; omega) ?_⟩
      simpa [List.flatMap_cons, e] using hk
theorem lcW_map {wg : WG} {wt : WT} {we : WE} {ρ : Env} {k : List Dat → Ms → Prop} {ms : Ms} (f : Dat → Dat) {ds : List Dat}
    (h : ∀ d ∈ ds, ∀ kk : List Dat → Ms → Prop, kk [f d] ms → wg d ρ ms fun ρ1 ms1 => wt ρ1 ms1 fun b ms2 => if b = true then we ρ1 ms2 fun y ms3 => kk [y] ms3 else kk [] ms2)
    (hs : ds.length ≤ sizeLine) (hk : k (ds.map f) ms) : lcW wg wt we ρ k ds [] ms :=
  lcW_run (fun d => [f d]) h (fun d _ => .inr ⟨_, rfl⟩) (by simpa using hs) (by
    have e : ds.flatMap (fun d => [f d]) = ds.map f := by
      clear h hs hk
      induction ds with
      | nil => rfl
      | cons d ds ih => rw [List.flatMap_cons, ih]; rfl
    rw [e]; exact hk)
theorem lcW_filter {wg : WG} {wt : WT} {we : WE} {ρ : Env} {k : List Dat → Ms → Prop} {ms : Ms} (p : Dat → Bool) {ds : List Dat}
    (h : ∀ d ∈ ds, ∀ kk : List Dat → Ms → Prop, kk (if p d = true then [d] else []) ms → wg d ρ ms fun ρ1 ms1 => wt ρ1 ms1 fun b ms2 => if b = true then we ρ1 ms2 fun y ms3 => kk [y] ms3 else kk [] ms2)
    (hs : ds.length ≤ sizeLine) (hk : k (ds.filter p) ms) : lcW wg wt we ρ k ds [] ms :=
  lcW_run (fun d => if p d = true then [d] else []) h (fun d _ => by by_cases q : p d = true <;> simp [q]) (by simpa using hs) (by
    have e : ds.flatMap (fun d => if p d = true then [d] else []) = ds.filter p := by
      clear h hs hk
      induction ds with
      | nil => rfl
      | cons d ds ih => rw [List.flatMap_cons, ih]; by_cases q : p d = true <;> simp [q]
    rw [e]; exact hk)
theorem size_big : 1000000 ≤ sizeLine := by decide
/-! texts, with no bound on what stands in them -/
@[simp] def wEqS : WR2 := fun a b ms k => match look ms a, look ms b with
  | some (.str x), some (.str y) => k ((.bl (decide (x = y)))) ms
  | _, _ => False
@[simp] def wNeS : WR2 := fun a b ms k => match look ms a, look ms b with
  | some (.str x), some (.str y) => k ((.bl (!decide (x = y)))) ms
  | _, _ => False
section
variable {X : Cy}
theorem do_eqS : OpR X.X (compareOp .Eq) rEq ∧ LR2 X.S rEq wEqS := ⟨op_eq, fun W x y a b ms Q k hK oa ob O hw q => by
  unfold wEqS at hw
  split at hw
  · rename_i p r h1 h2
    have e1 := O.strv oa h1
    have e2 := O.strv ob h2
    subst e1 e2
    refine ⟨rfl, ?_⟩
    rw [show decide (V.str p = V.str r) = decide (p = r) from by simp]
    exact q W _ (.bl _) ms (Ext.refl W) O (.bl _) hw
  · exact hw.elim⟩
theorem do_neS : OpR X.X (compareOp .NotEq) rNe ∧ LR2 X.S rNe wNeS := ⟨op_ne, fun W x y a b ms Q k hK oa ob O hw q => by
  unfold wNeS at hw
  split at hw
  · rename_i p r h1 h2
    have e1 := O.strv oa h1
    have e2 := O.strv ob h2
    subst e1 e2
    refine ⟨rfl, ?_⟩
    rw [show decide (V.str p = V.str r) = decide (p = r) from by simp]
    exact q W _ (.bl _) ms (Ext.refl W) O (.bl _) hw
  · exact hw.elim⟩
end
end Sy
namespace Sy
open PySem PySem.Spec PyProof.Rows L2
theorem de_globIe {X : Cy} {x : Str} {i : Int} {pos : Pos} (hg : Gl X.X x) (hm : ∃ t, X.X.mg x = some (.int i t)) (hd : (x == ("__debug__" : Str)) = false := by decide) : DE X (.Name x pos) (wC (.int i)) := let ⟨_, m⟩ := hm; de_globI hg m hd
theorem de_globSe {X : Cy} {x : Str} {i : Str} {pos : Pos} (hg : Gl X.X x) (hm : ∃ t, X.X.mg x = some (.str i t)) (hd : (x == ("__debug__" : Str)) = false := by decide) : DE X (.Name x pos) (wC (.str i)) := let ⟨_, m⟩ := hm; de_globS hg m hd
/-! the source of draws -/
def src (n s : Int) : Cell := .lst [.int n, .int s]
def SrcOk (n s : Int) : Prop := 0 ≤ n ∧ 0 ≤ s ∧ s < 2147483647
theorem mod_src {z : Int} : 0 ≤ z % 2147483647 ∧ z % 2147483647 < 2147483647 := ⟨Int.emod_nonneg _ (by decide), Int.emod_lt_of_pos _ (by decide)⟩
def spSource : FSpec := fun rs ms k kx => ∃ ns t, rs = [.scr ns, .int t] ∧ 0 ≤ t ∧ t < 1000 ∧ ∀ n s, SrcOk n s → k (.own ms.length) (ms ++ [src n s])
def spDraw : FSpec := fun rs ms k kx => ∃ j n s m, rs = [.own j, .int m] ∧ ms[j]? = some (src n s) ∧ SrcOk n s ∧ 0 < m ∧ m < 1073741824 ∧ ∀ r n' s', 0 ≤ r → r < m → SrcOk n' s' → k (.int r) (ms.set j (src n' s'))
/-! the head's hook: the names' reach, the statics, and one Bool more -/
def asY (g : Addr → Option Obj) (n : Nat) : List Addr := He.asD g n ++ [cStatics]
def obsY (n : Nat) (fa : List He.Fa) (fn : List He5.DefA) (ex : PySem.W.Frag → Bool) (g : Addr → Option Obj) : He.AlD × Bool := (He5.obsA fa fn (He.frG g (asY g n)), ex (He.frG g (asY g n)))
structure SaysY (fa : List He.Fa) (fn : List He5.DefA) (ex : PySem.W.Frag → Bool) (K : PySem.W.Frag) : Prop where
  d : He5.SaysA fa fn K
  more : ex K = true
def hookY (n : Nat) (fa : List He.Fa) (fn : List He5.DefA) (ex : PySem.W.Frag → Bool) : PySem.W.Hook where
  α := He.AlD × Bool
  obs := fun s => obsY n fa fn ex s.heap.get?
  val := fun _ => (He5.valA fn, true)
  says := fun _ h => ∃ K : PySem.W.Frag, K.In h ∧ SaysY fa fn ex K
  of := fun _ _ e => ⟨_, He.frG_in, ⟨congrArg (fun z : He.AlD × Bool => z.1) e, congrArg (fun z : He.AlD × Bool => z.2) e⟩⟩
  keeps := fun _ _ _ ⟨K, hK, c⟩ k => ⟨K, PySem.W.Frag.In.keeps hK k, c⟩
theorem obsY_eq {n : Nat} {fa : List He.Fa} {fn : List He5.DefA} {ex : PySem.W.Frag → Bool} {g : Addr → Option Obj} {s : Shared} (h : ∀ a, g a = s.heap.get? a) : obsY n fa fn ex g = (hookY n fa fn ex).obs s := by
  have e : g = s.heap.get? := funext h
  rw [e] <;> rfl
end Sy
namespace Sy
open PySem PySem.Spec PyProof.Rows L2
/-! loops and texts -/
theorem forW_inv {wg : WG} {wb : WS} {E : WEnds} {I : Env → Ms → Prop} {D : Dat → Prop}
    (step : ∀ d, D d → ∀ ρ ms, I ρ ms → ∀ F : Env → Ms → Prop, (∀ ρ' ms', I ρ' ms' → F ρ' ms') → wg d ρ ms fun ρ1 ms1 => wb { nx := F, ct := F, bk := E.nx, rt := E.rt } ρ1 ms1)
    (hE : ∀ ρ ms, I ρ ms → E.nx ρ ms) : ∀ ds, (∀ d ∈ ds, D d) → ∀ ρ ms, I ρ ms → forW wg wb E ds ρ ms
  | [], _, ρ, ms, h => hE ρ ms h
  | d :: ds, hd, ρ, ms, h => step d (hd d (by simp)) ρ ms h _ fun ρ' ms' h' => forW_inv step hE ds (fun x hx => hd x (List.mem_cons_of_mem _ hx)) ρ' ms' h'
theorem enumD_mem {ds : List Dat} {x : Dat} (h : x ∈ enumD 0 ds) : ∃ (i : Nat) (e : Dat), x = .tup [.int (i : Nat), e] ∧ ds[i]? = some e := by
  obtain ⟨i, hi⟩ := List.mem_iff_getElem?.mp h
  rw [enumD_get] at hi
  cases q : ds[i]? with
  | none => rw [q] at hi; cases hi
  | some e => rw [q] at hi; simp at hi; exact ⟨i, e, hi.symm, q⟩
theorem rngD_mem {lo : Int} {n : Nat} {x : Dat} (h : x ∈ rngD lo n) : ∃ i : Nat, i < n ∧ x = .int (lo + (i : Int)) := by
  unfold rngD at h
  obtain ⟨i, hi, e⟩ := List.mem_map.mp h
  exact ⟨i, List.mem_range.mp hi, e.symm⟩
theorem int_short {n : Int} (h : n.natAbs < 10 ^ 10) : (PyData.shown (.int n)).length ≤ 13 := by
  have e := int_text_length_le10 (k := 10) (by decide) h
  show (Str.ofString (toString n)).length ≤ 13
  rw [PySem.ofString_length]; omega
theorem int_log {n : Int} (h : n.natAbs < 10 ^ 10) : n.natAbs.log2 < 34 := by
  by_cases z : n.natAbs = 0
  · rw [z]; decide
  · exact (Nat.log2_lt z).mpr (Nat.lt_trans h (by decide))
theorem int_showable {n : Int} (h : n.natAbs < 10 ^ 10) : n.natAbs.log2 < 1920 := Nat.lt_trans (int_log h) (by decide)
theorem int_weight {n : Int} (h : n.natAbs < 10 ^ 10) : PyData.weight (.int n) ≤ 35 := by
  have := int_log h
  simp only [PyData.weight]; split <;> omega
end Sy
/-! ## an exception made by a keyword: C(f = v) -/
namespace PySem
namespace HandSPX
open Builtin Builtin.ObjectAttr
section
variable {mo : Model} {ar : Around} {xE : Value → Shared → Prop} {hp : Heap} {gs : Array GenState} {dr : Drawn} {tt : Nat} {os : OsState}
variable {nm q : Str} {C N : Addr} {bs bm bmB : List Value} {hdct : Bool} {sn : List Str} {sub : List Value} {ab : Bool} {col : Option Bool} {dd : Option Addr} {k0 k1 k2 k3 k5 : Option Value} {B newId initId : String}
theorem check_new_kw (F : ExcBaseFacts B newId initId bmB) (hT : ∀ X : String, bm.contains (.type X) = bmB.contains (.type X)) {kn : Str} {kv : Value} {Q : Unit → Shared → Prop}
    (hC : hp.get? C = some (excClassObj nm q C N bs bm hdct sn sub ab col dd k0 k1 k2 k3 k5 newId)) (hq : Q () ⟨hp, gs, dr, tt, os⟩) : wpAny mo ar (checkBuiltinCall newId ⟨[.ref C], [(kn, kv)]⟩) Q xE ⟨hp, gs, dr, tt, os⟩ := by
  have hcont : (Value.ref C :: bm).contains (.type B) = true := by rw [List.contains_cons, hT, F.hasB, Bool.or_true]
  have star := F.noStar
  simp only [checkBuiltinCall, F.newKind, F.newSplit, F.newRow]
  repeat (first | refine wpAny_loadPart_at hC ?_ | (refine wpAny_isSubtype_exc hC ?_; rw [hcont]) | refine wpAny_staticBase_exc hC ?_ | refine wpAny_madeBy_exc hC ?_ | simp only [bne_self_eq_false, Bool.false_eq_true, if_false] | wp_step)
  exact hq
end
end HandSPX
end PySem
namespace PySem
namespace HandSPX
open Builtin Builtin.ObjectAttr
section
variable {pg : Program} {wo : World} {ar : Around} {xE : Value → Shared → Prop} {res : Result → Shared → Prop} {hp : Heap} {gs : Array GenState} {dr : Drawn} {tt : Nat} {os : OsState}
variable {nm q : Str} {C N : Addr} {bs bm bmB : List Value} {hdct : Bool} {sn : List Str} {sub : List Value} {ab : Bool} {col : Option Bool} {dd : Option Addr} {k0 k1 k2 k3 k5 : Option Value} {B newId initId : String}
theorem new_kw (F : ExcBaseFacts B newId initId bmB) (hT : ∀ X : String, bm.contains (.type X) = bmB.contains (.type X)) {kn : Str} {kv : Value}
    (hC : hp.get? C = some (excClassObj nm q C N bs bm hdct sn sub ab col dd k0 k1 k2 k3 k5 newId))
    (hq : res (.ok (.ret (.ref (hp.objs.size + 1)))) ⟨(hp.push (W.kdv_tup [])).push (excO C hp.objs.size), gs, dr, tt, os⟩) :
    codeAny (model pg wo) ar (.builtin newId ⟨[.ref C], [(kn, kv)]⟩) res ⟨hp, gs, dr, tt, os⟩ := by
  have fin := F.ends
  have cB : (Value.ref C :: bm).contains (.type B) = true := by rw [List.contains_cons, hT, F.hasB, Bool.or_true]
  have cA : (Value.ref C :: bm).contains (.type "AttributeError") = false := by rw [List.contains_cons, hT, F.noAttr]; rfl
  have cN : (Value.ref C :: bm).contains (.type "NameError") = false := by rw [List.contains_cons, hT, F.noName]; rfl
  refine codeAny_builtinAt F.entry ?_
  unfold Builtin.«BaseException.__new__»
  refine wpAt_bind ?_
  show wpAt _ _ _ (stack >>= _) _ _ _
  refine wpAt_bind (wpAt_stack fun p below => wpAt_of_wpAny ?_)
  wp_walk
  refine wpAt_of_wpAny ?_
  rw [F.owner]
  have hz : ([] : List Value).length ≤ sizeLine := Nat.zero_le _
  repeat (first | with_reducible refine wpAny_madeHere_exc F.canon hC ?_ | with_reducible refine wpAny_loadPart_at hC ?_ | (with_reducible refine wpAny_isSubtype_exc hC ?_; first | rw [cB] | rw [cA] | rw [cN]) | wp_step)
  show res _ _
  rw [Heap.size_push]
  exact hq
theorem type_call_kw (F : ExcBaseFacts B newId initId bmB) (hT : ∀ X : String, bm.contains (.type X) = bmB.contains (.type X)) {kn : Str} {kv : Value} {fI : Addr} {Q : Fin → Shared → Prop}
    (hC : hp.get? C = some (excClassObj nm q C N bs bm hdct sn sub ab col dd k0 k1 k2 k3 k5 newId))
    (hi : W.Looks (model pg wo) hp (typeLookup (.ref C) "__init__") (some (.ref fI))) (hb : ∀ self, W.Looks (model pg wo) hp (bindSpecial (.ref fI) self) (.ref fI, [self]))
    (hq : codeAny (model pg wo) ar (.call (.ref fI) ⟨[.ref (hp.objs.size + 1)], [(kn, kv)]⟩)
      (fun r s' => match r with | .ok (.ret v) => v = .none ∧ Q (.done (.ret (.ref (hp.objs.size + 1)))) s' | .ok _ => False | .error e => xE e s')
      ⟨(hp.push (W.kdv_tup [])).push (excO C hp.objs.size), gs, dr, tt, os⟩) :
    wpAny (model pg wo) ar (Builtin.«type.__call__» ⟨[.ref C], [(kn, kv)]⟩) Q xE ⟨hp, gs, dr, tt, os⟩ := by
  repeat (first | with_reducible refine wpAny_loadPart_at hC ?_ | with_reducible refine wpAny_madeBy_exc hC ?_ | wp_step)
  refine codeAny_call_builtin_code (Code.quiet_builtin _ F.quiet) (check_new_kw F hT hC ?_)
  refine new_kw F hT hC ?_
  show wpAny _ _ _ _ _ _
  have kp : ∀ b o, hp.get? b = some o → ((hp.push (W.kdv_tup [])).push (excO C hp.objs.size)).get? b = some o := fun b o e => Heap.get?_push_of_some _ (Heap.get?_push_of_some _ e)
  have hC1 := kp _ _ hC
  have get1 : ((hp.push (W.kdv_tup [])).push (excO C hp.objs.size)).get? (hp.objs.size + 1) = some (excO C hp.objs.size) := by heap_get
  have cC : (Value.ref C :: bm).contains (.ref C) = true := by simp
  have i2 := hi.keeps kp
  have b2 := (hb (.ref (hp.objs.size + 1))).keeps kp
  unfold isInstance
  repeat (first | with_reducible refine wpAny_loadPart_at get1 ?_ | (with_reducible refine wpAny_isSubtype_exc hC1 ?_; rw [cC]) | wp_step)
  show wpAny _ _ (typeLookup (.ref C) _) _ _ _
  refine i2.at ?_
  refine wpAny_holding (wpAny_bind (b2.at ?_))
  refine wpAny_bind (wpAny_call (codeAny_mono hq fun r s' z => ?_))
  rcases r with e | (v | _ | _ | _) <;> first | exact z | exact z.elim | skip
  obtain ⟨rfl, z⟩ := z
  first
    | exact wpAny_pure (wpAny_pure z)
    | (wp_walk; exact z)
theorem check_type_kw {mo : Model} {kn : Str} {kv : Value} {Q : Unit → Shared → Prop} (hC : hp.get? C = some (excClassObj nm q C N bs bm hdct sn sub ab col dd k0 k1 k2 k3 k5 newId))
    (hq : Q () ⟨hp, gs, dr, tt, os⟩) : wpAny mo ar (checkBuiltinCall "type.__call__" ⟨[.ref C], [(kn, kv)]⟩) Q xE ⟨hp, gs, dr, tt, os⟩ := by
  have sb := tc_sub
  have ty : (⟨hp, gs, dr, tt, os⟩ : Shared).TypeIs (.ref C) "type" := ⟨_, hC, rfl⟩
  simp only [checkBuiltinCall, tc_kind, tc_split]
  repeat (any_goals (first | assumption | with_reducible refine wpAny_loadPart_at hC ?_ | with_reducible refine wpAny_onRaise ?_ | with_reducible refine wpAny_map ?_ | wp_step))
theorem call_kw (F : ExcBaseFacts B newId initId bmB) (hT : ∀ X : String, bm.contains (.type X) = bmB.contains (.type X)) {kn : Str} {kv : Value} {fI : Addr}
    (hC : hp.get? C = some (excClassObj nm q C N bs bm hdct sn sub ab col dd k0 k1 k2 k3 k5 newId))
    (hi : W.Looks (model pg wo) hp (typeLookup (.ref C) "__init__") (some (.ref fI))) (hb : ∀ self, W.Looks (model pg wo) hp (bindSpecial (.ref fI) self) (.ref fI, [self]))
    (hq : codeAny (model pg wo) (ar.under (.builtin "type.__call__" ⟨[.ref C], [(kn, kv)]⟩)) (.call (.ref fI) ⟨[.ref (hp.objs.size + 1)], [(kn, kv)]⟩) (W.InitBack (hp.objs.size + 1) res)
      ⟨(hp.push (W.kdv_tup [])).push (excO C hp.objs.size), gs, dr, tt, os⟩) :
    codeAny (model pg wo) ar (.call (.ref C) ⟨[], [(kn, kv)]⟩) res ⟨hp, gs, dr, tt, os⟩ := by
  have f1 := tc_lookup
  have f2 := tc_bind (.ref C)
  have ty : (⟨hp, gs, dr, tt, os⟩ : Shared).TypeIs (.ref C) "type" := ⟨_, hC, rfl⟩
  refine codeAny_of_tree ?_
  show wpAny _ _ (callAny (.ref C) _) _ _ _
  repeat (any_goals (first | assumption | with_reducible refine wpAny_loadPart_at hC ?_ | wp_step))
  refine ⟨rfl, ?_⟩
  refine codeAny_call_builtin_at (Code.quiet_builtin _ (by decide +kernel)) entry_typeCall (check_type_kw hC (type_call_kw F hT hC hi hb ?_))
  refine codeAny_mono hq fun r s' z => ?_
  rcases r with e | (v | _ | _ | _) <;> exact z
end
end HandSPX
end PySem
namespace Sy
open PySem PySem.Spec PyProof.Rows L2
section
variable {P : Program} {w : World} {K : PySem.W.Frag} {mg : Str → Option Value} {base : Heap}
/-- an exception's class that is also made by its one keyword -/
structure ExcKw (P : Program) (w : World) (K : PySem.W.Frag) (mg : Str → Option Value) (base : Heap) (C f kn : Str) : Prop where
  ok : ExcOk P w K mg base C [f]
  ex : ∃ fd, FnG P w K mg base (L2.CX P w) 1 (fA K (C, some "__init__")) fd ["self", kn] (spX K [f]) ∧ ∀ (s : Shared) (u v : Value), BindsTo s fd ⟨[u], [(kn, v)]⟩ [("self", u), (kn, v)]
theorem bind_kw {x qual : Str} {params : Arguments} {body : List Stmt} {scope : Scope} {kws : List (Str × V)} {f : Addr} {fd : FuncData} {ar : Args} {bd : List (Str × Value)} (F : FunD K x qual params body scope [] kws f fd)
    (h : ∀ (kV doc pm : Value) (an : Option Addr) (cdv ct : Value), bindArgs (PySem.W.fnOf x qual params body scope .none kV doc pm an cdv ct) ar = pure bd) (s : Shared) : BindsTo s fd ar bd := by
  obtain ⟨oc, od, dV, kV, doc, pm, an, cdv, ct, osl, rfl, lk, hcd, hD, hK⟩ := F.ex
  rcases hD with ⟨_, rfl⟩ | ⟨e, _⟩
  · exact .of_eq (h kV doc pm an cdv ct)
  · exact absurd rfl e
theorem exc_initK {qual : Str} {st : Stmt} {C f p1 : Str} {z : Str} (D : DefAt K (C, some "__init__") "__init__" qual st ["self", p1]) (S : FnScope ["self", p1] ["self", p1] (defScope st)) (cl : XcC K (He.ga K C)) (no : PySem.W.findIn K (.ref (He.ga K C)) f = some none)
    (ii : PySem.W.findIn K (.ref (He.ga K C)) "__init__" = some (some (.ref (fA K (C, some "__init__"))))) (ti : PySem.W.typeIn K (.ref (fA K (C, some "__init__"))) = some (.type "function"))
    (hk : ∀ (kV doc pm : Value) (an : Option Addr) (cdv ct u v : Value), bindArgs (PySem.W.fnOf "__init__" qual (defArgs st) (defBody st) (defScope st) .none kV doc pm an cdv ct) ⟨[u], [(p1, v)]⟩ = pure [(("self" : Str), u), (p1, v)])
    (hb : ∀ (f0 : Addr) (cdv : Value) (A : Around) (out : List PySem.Env) (s : Shared) (H : Hp) (E : XK), PSs (cxOf (L2.CX P w) P w K mg base ["self", p1] qual (defScope st) f0 cdv A out s H E) (defBody st) (tInit1 K f z)) : ExcKw P w K mg base C f p1 := by
  refine ⟨exc_init1 D S cl no ii ti hb, ?_⟩
  obtain ⟨fd, F, b, kp⟩ := D.ex
  refine ⟨fd, FnG.of_funD (k := 0) F S (fun vs H Q E ⟨a, C, ws, e, hl, _⟩ => by rw [e, List.length_cons, hl]; rfl) fun cdv A out s H vs Q E hg hr ⟨a, C', ws, ev, hl, T, hn, ha, q⟩ => ⟨_, hb _ cdv A out s H E, ?_⟩, fun s u v => bind_kw F (fun kV doc pm an cdv ct => hk kV doc pm an cdv ct u v) s⟩
  obtain ⟨v, rfl⟩ : ∃ v, ws = [v] := by
    match ws, hl with
    | [v], _ => exact ⟨v, rfl⟩
  subst ev
  exact ⟨.ref a, rfl, a, C', [.str z], rfl, (by show (1 : Nat) ≤ 1000; decide), T, ha, v, rfl, .ref a, rfl, a, C', rfl, T, hn f (by simp), .inl ⟨ha, fun dx h1 h2 => q dx h1 h2⟩⟩
end
theorem run_excK {X : Cx} {C f kn : Str} {pins : List (Addr × Obj)} {σ : L2.St} {H : Hp} {s : Shared} {Q : VK} {u : Value} {v : V} (D : ExcKw X.prog X.w X.K X.mg X.base C f kn) (gd : X.A.guards = some []) (room : Room 2 X.A) (J : Inv X pins σ H s) (r : RelV v u)
    (h : ∀ a dx, H a = none → H dx = none → dx ≠ a → Q (.ref a) (upd (upd H dx (exd dx (fieldsX [f] [v]))) a (exo a (He.ga X.K C) (some dx)))) :
    wpAny (model X.prog X.w) X.A (call (.ref (He.ga X.K C)) [] [(kn, u)]) (EP X pins σ Q) X.xe s := by
  obtain ⟨fd, F1, hb⟩ := D.ex
  obtain ⟨nm, N, qn, bs, bm, hdct, sn, sub, ab, col, dd, k0, k1, k2, k3, k5, hC, hT⟩ := PySem.W.excInit_of J.kIn D.ok.cl.ini
  obtain ⟨hp, g, dr, tk, os⟩ := s
  have big : hp.objs.size ≤ hp.objs.size + 1 := Nat.le_succ _
  have nw : H (hp.objs.size + 1) = none := J.hok.fresh big
  have kk : ∀ b o, hp.get? b = some o → ((hp.push (PySem.W.kdv_tup [])).push (PySem.HandSPX.excO (He.ga X.K C) hp.objs.size)).get? b = some o := fun b o z => Heap.get?_push_of_some _ (Heap.get?_push_of_some _ z)
  have at_ : ((hp.push (PySem.W.kdv_tup [])).push (PySem.HandSPX.excO (He.ga X.K C) hp.objs.size)).get? (hp.objs.size + 1) = some (PySem.HandSPX.excO (He.ga X.K C) hp.objs.size) := by heap_get
  have J2 : Inv X pins σ (upd H (hp.objs.size + 1) (exo (hp.objs.size + 1) (He.ga X.K C) none)) ⟨(hp.push (PySem.W.kdv_tup [])).push (PySem.HandSPX.excO (He.ga X.K C) hp.objs.size), g, dr, tk, os⟩ := J.laid (t' := tk) kk big (exo_ok at_)
  have rr : Vals [V.ref (hp.objs.size + 1), v] [Value.ref (hp.objs.size + 1), u] := .cons rfl (.cons r .nil)
  have want : spX X.K [f] [V.ref (hp.objs.size + 1), v] (upd H (hp.objs.size + 1) (exo (hp.objs.size + 1) (He.ga X.K C) none)) (fun v H2 => v = .non ∧ Q (.ref (hp.objs.size + 1)) H2) (fun _ _ _ => False) := by
    refine ⟨_, _, [v], rfl, rfl, D.ok.cl, D.ok.no, upd_same, fun dx hn hne => ⟨rfl, ?_⟩⟩
    have hd : H dx = none := by rw [upd_ne hne] at hn; exact hn
    have q := h (hp.objs.size + 1) dx nw hd hne
    have e : upd (upd (upd H (hp.objs.size + 1) (exo (hp.objs.size + 1) (He.ga X.K C) none)) dx (exd dx (fieldsX [f] [v]))) (hp.objs.size + 1) (exo (hp.objs.size + 1) (He.ga X.K C) (some dx)) = upd (upd H dx (exd dx (fieldsX [f] [v]))) (hp.objs.size + 1) (exo (hp.objs.size + 1) (He.ga X.K C) (some dx)) := by
      funext b
      unfold upd
      by_cases z : b = hp.objs.size + 1
      · rw [if_pos z, if_pos z]
      · rw [if_neg z, if_neg z, if_neg z]
    rw [e]; exact q
  refine wpAny_call (PySem.HandSPX.call_kw F.excBase_Exception hT hC (PySem.W.looks_findIn J.kIn D.ok.ii) (fun self => PySem.W.bind_fn J.kIn self D.ok.ti)
    (codeAny_mono (F1.go _ X.stack _ _ ⟨[Value.ref (hp.objs.size + 1)], [(kn, u)]⟩ [Value.ref (hp.objs.size + 1), u] _ _ (fun _ _ _ => False) gd ((room.mono (by decide : 1 + 1 ≤ 2)).make (He.ga X.K C) [] [(kn, u)]) (J2.env0.make (He.ga X.K C) [] [(kn, u)]) (hb _ _ _) rr want) fun res s2 hres => ?_))
  match res, hres with
  | .error e, z => exact (passL (X := X) pins σ _ _ e s2 J2 z)
  | .ok (.ret u), z =>
    obtain ⟨v, H', J3, rv, ev, q3⟩ := J2.after z
    subst ev
    exact ⟨rv, ⟨V.ref (hp.objs.size + 1), H', J3, rfl, q3⟩⟩
  | .ok .next, z => exact False.elim z
  | .ok .brk, z => exact False.elim z
  | .ok .cont, z => exact False.elim z
section
variable {X : Cy}
theorem de_excK {x kn f : Str} {p pos kpos : Pos} {e : Expr} {we : WE} (D : ExcKw X.X.prog X.X.w X.X.K X.X.mg X.X.base x f kn) (hg : X.X.A.guards = some []) (room : Room 2 X.X.A) (gl : Gl X.X x) (hm : X.X.mg x = some (.ref (He.ga X.X.K x)))
    (he : DE X e we) (hdb : (x == ("__debug__" : Str)) = false := by decide) : DE X (.Call (.Name x p) [] [⟨some kn, e, kpos⟩] pos) (wExc x [f] (wCons we wNil)) := by
  obtain ⟨t, pe, le⟩ := he
  have pk : PK X.X [⟨some kn, e, kpos⟩] (tCons t tNil) := pk_cons pe pk_nil
  refine ⟨fun σ H Q => t σ H fun v H1 => ∀ a dx, H1 a = none → H1 dx = none → dx ≠ a → Q (.ref a) (upd (upd H1 dx (exd dx (fieldsX [f] [v]))) a (exo a (He.ga X.X.K x) (some dx))), ⟨fun pins s σ H Q J h => wpAny_Call_Name_kw (ld_glob J gl hm ?_ hdb)⟩, fun W σ ρ ms Q k hK Rl O hw q => ?_⟩
  · refine PySem.W.callWith_KW0 (h₀ := X.X.base) J.ok.mod.kin D.ok.cl.kp rfl ?_ rfl
    refine thn (pk.run pos pins s σ H (fun zs H1 => match zs with | [v] => (∀ a dx, H1 a = none → H1 dx = none → dx ≠ a → Q (.ref a) (upd (upd H1 dx (exd dx (fieldsX [f] [v]))) a (exo a (He.ga X.X.K x) (some dx)))) | _ => False) J h) fun ws s2 ⟨zs, H2, J2, rz, q2⟩ => ⟨J2.kIn, ?_⟩
    match zs, rz, q2 with
    | [v], .cons r1 .nil, q3 => exact run_excK D hg room J2 r1 q3
  · refine le W σ ρ ms _ _ hK Rl O hw fun W1 v d ms1 e1 O1 ok1 h1 => ?_
    intro a dx ha hdx hne
    have hKK : X.X.K = W1.K := (congrArg Sg.K (e1.s.trans hK)).symm
    obtain ⟨O2, e2⟩ := O1.lay (o := exd dx (fieldsX [f] [v])) hdx
    have ha2 : (W1.lay dx (exd dx (fieldsX [f] [v]))).H a = none := by show upd W1.H dx _ a = none; rw [upd_ne (fun z => hne z.symm)]; exact ha
    obtain ⟨O3, e3⟩ := O2.lay (o := exo a (He.ga X.X.K x) (some dx)) ha2
    refine q _ (.ref a) (.exc x (fieldsD [f] [d])) ms1 ((e1.trans e2).trans e3) O3 (.exc (d := dx) (xs := fieldsX [f] [v]) ?_ ?_ ?_) h1.2.2
    · show upd _ a _ a = some (exo a (He.ga W1.K x) (some dx)); rw [← hKK]; exact upd_same
    · show upd (upd W1.G dx _) a _ dx = _; rw [upd_ne hne]; exact upd_same
    · exact fields_ok (fs := [f]) (up_vs (e2.trans e3) (.cons ok1 .nil))
/-! // by a great divisor -/
theorem do_fdivW : OpR X.X (binaryOp .FloorDiv) (rI CDivW fun i j => .int (i / j)) ∧ LR2 X.S (rI CDivW fun i j => .int (i / j)) (wII L2.CDivW fun i j => .int (i / j)) := ⟨op_fdivW, lr_I fun _ _ _ _ _ => .int _⟩
end
end Sy
namespace Sy
open PySem PySem.Spec PyProof.Rows L2
/-! ## raise C(..) of an own class -/
def tMkX (C : Addr) (fs : List Str) (ta : TA) : L2.St → Hp → XK → Prop := fun σ H Q => ta σ H fun vs H1 => vs.length = fs.length ∧ vs.length ≤ 1000 ∧ ∀ dx, H1 dx = none → Q (.ref C) (some dx) (upd H1 dx (.xd (fieldsX fs vs)))
theorem run_mkX {X : Cx} {C : Str} {fs : List Str} {pins : List (Addr × Obj)} {σ : L2.St} {H : Hp} {s : Shared} {Q : XK} {us : List Value} {vs : List V} (D : ExcOk X.prog X.w X.K X.mg X.base C fs) (gd : X.A.guards = some []) (room : Room 2 X.A) (J : Inv X pins σ H s) (r : Vals vs us) (hl : vs.length = fs.length) (hz0 : vs.length ≤ 1000)
    (h : ∀ dx, H dx = none → Q (.ref (He.ga X.K C)) (some dx) (upd H dx (.xd (fieldsX fs vs)))) :
    wpAny (model X.prog X.w) X.A (call (.ref (He.ga X.K C)) us) (MkP X pins σ Q) X.xe s := by
  obtain ⟨fd, ps, F1, hps, hb⟩ := D.ex
  obtain ⟨nm, N, qn, bs, bm, hdct, sn, sub, ab, col, dd, k0, k1, k2, k3, k5, hC, hT⟩ := PySem.W.excInit_of J.kIn D.cl.ini
  obtain ⟨hp, g, dr, tk, os⟩ := s
  have big : hp.objs.size ≤ hp.objs.size + 1 := Nat.le_succ _
  have nw : H (hp.objs.size + 1) = none := J.hok.fresh big
  have kk : ∀ b o, hp.get? b = some o → ((hp.push (PySem.W.kdv_tup us)).push (PySem.HandSPX.excO (He.ga X.K C) hp.objs.size)).get? b = some o := fun b o z => Heap.get?_push_of_some _ (Heap.get?_push_of_some _ z)
  have at_ : ((hp.push (PySem.W.kdv_tup us)).push (PySem.HandSPX.excO (He.ga X.K C) hp.objs.size)).get? (hp.objs.size + 1) = some (PySem.HandSPX.excO (He.ga X.K C) hp.objs.size) := by heap_get
  have J2 : Inv X pins σ (upd H (hp.objs.size + 1) (exo (hp.objs.size + 1) (He.ga X.K C) none)) ⟨(hp.push (PySem.W.kdv_tup us)).push (PySem.HandSPX.excO (He.ga X.K C) hp.objs.size), g, dr, tk, os⟩ := J.laid (t' := tk) kk big (exo_ok at_)
  have rr : Vals (V.ref (hp.objs.size + 1) :: vs) (Value.ref (hp.objs.size + 1) :: us) := .cons rfl r
  have hz : us.length ≤ sizeLine := by rw [← Paired.length r, sizeLine_eq]; omega
  have want : spX X.K fs (V.ref (hp.objs.size + 1) :: vs) (upd H (hp.objs.size + 1) (exo (hp.objs.size + 1) (He.ga X.K C) none))
      (fun v H2 => v = .non ∧ ∃ (d : Addr) (xs : List (Str × V)), H2 (hp.objs.size + 1) = some (exo (hp.objs.size + 1) (He.ga X.K C) (some d)) ∧ H2 d = some (exd d xs) ∧ H d = none ∧ Q (.ref (He.ga X.K C)) (some d) (upd (del H2 (hp.objs.size + 1)) d (.xd xs))) (fun _ _ _ => False) := by
    refine ⟨_, _, vs, rfl, hl, D.cl, D.no, upd_same, fun dx hn hne => ⟨rfl, ?_⟩⟩
    have hd : H dx = none := by rw [upd_ne hne] at hn; exact hn
    refine ⟨dx, fieldsX fs vs, upd_same, by rw [upd_ne hne]; exact upd_same, hd, ?_⟩
    have q := h dx hd
    have e : upd (del (upd (upd (upd H (hp.objs.size + 1) (exo (hp.objs.size + 1) (He.ga X.K C) none)) dx (exd dx (fieldsX fs vs))) (hp.objs.size + 1) (exo (hp.objs.size + 1) (He.ga X.K C) (some dx))) (hp.objs.size + 1)) dx (.xd (fieldsX fs vs)) = upd H dx (.xd (fieldsX fs vs)) := by
      funext b
      unfold upd del
      by_cases x1 : b = dx
      · rw [if_pos x1, if_pos x1]
      · rw [if_neg x1, if_neg x1]
        by_cases x2 : b = hp.objs.size + 1
        · rw [if_pos x2, x2, nw]
        · simp only [x1, x2, if_false]
    rw [e]; exact q
  have hln : (Value.ref (hp.objs.size + 1) :: us).length = ps.length := by rw [List.length_cons, ← Paired.length r, hl, hps]
  have hb' := hb ⟨(hp.push (PySem.W.kdv_tup us)).push (PySem.HandSPX.excO (He.ga X.K C) hp.objs.size), g, dr, tk, os⟩ (Value.ref (hp.objs.size + 1) :: us) J2.kIn (by rw [List.append_nil]; exact hln)
  rw [List.append_nil] at hb'
  refine wpAny_call (PySem.HandSPX.call_own F.excBase_Exception hT hC (PySem.W.looks_findIn J.kIn D.ii) (fun self => PySem.W.bind_fn J.kIn self D.ti) hz
    (codeAny_mono (F1.go _ X.stack _ _ ⟨Value.ref (hp.objs.size + 1) :: us, []⟩ (Value.ref (hp.objs.size + 1) :: us) _ _ (fun _ _ _ => False) gd ((room.mono (by decide : 1 + 1 ≤ 2)).make (He.ga X.K C) us []) (J2.env0.make (He.ga X.K C) us []) hb' rr want) fun res s2 hres => ?_))
  match res, hres with
  | .error e, z => exact (passL (X := X) pins σ _ _ e s2 J2 z)
  | .ok (.ret u), z =>
    obtain ⟨v, H2, os2, bare2, un2, hok2, rv, ev, d, xs, ea, ed, hd1, q2⟩ := z
    subst ev
    obtain ⟨h2, g2, d2, t2, os'⟩ := s2
    exact ⟨rv, mk_end (raises_own D.cl.sb D.cl.ty) J big kk un2 hok2 os2 bare2 ea ed hd1 q2⟩
  | .ok .next, z => exact False.elim z
  | .ok .brk, z => exact False.elim z
  | .ok .cont, z => exact False.elim z
section
variable {X : Cy}
@[simp] def wRaise (C : Str) (fs : List Str) (wa : WA) : WS := fun E ρ ms => wa ρ ms fun rs ms1 => rs.length = fs.length ∧ rs.length ≤ 1000 ∧ ρ.ex ρ.sl C (fieldsD fs rs) ms1
theorem ds_raise {x : Str} {p pos rpos : Pos} {e : Expr} {es : List Expr} {fs : List Str} {wa : WA} (D : ExcOk X.X.prog X.X.w X.X.K X.X.mg X.X.base x fs) (hg : X.X.A.guards = some []) (room : Room 2 X.X.A) (hc : X.X.calm = true) (gl : Gl X.X x) (hm : X.X.mg x = some (.ref (He.ga X.X.K x)))
    (ha : DA X (e :: es) wa) (hdb : (x == ("__debug__" : Str)) = false := by decide) (he : starEach (e :: es) X.X.env = (false, eval e X.X.env) :: starEach es X.X.env := by rfl) (hpl : (backTo pos (starEach es X.X.env)).any (·.1) = false := by rfl) :
    DS X (.Raise (some (.Call (.Name x p) (e :: es) [] pos)) none rpos) (wRaise x fs wa) := by
  obtain ⟨t, pa, la⟩ := ha
  have mk : PMk X.X (.Call (.Name x p) (e :: es) [] pos) (tMkX (He.ga X.X.K x) fs t) := fun pins s σ H Q J h =>
    wpAny_Call_Name_kw (ld_glob J gl hm (PySem.W.callWith_K (h₀ := X.X.base) J.ok.mod.kin D.cl.kp (thn (pa.run pos pins s σ H _ J h) fun us s1 ⟨vs, H1, J1, r, z⟩ => ⟨J1.kIn, run_mkX D hg room J1 r z.1 z.2.1 z.2.2⟩) he hpl) hdb)
  refine ⟨_, ps_raise hc X.tk mk, fun W σ ρ ms D' E hK Rl O hw ok => ?_⟩
  refine la W σ ρ ms _ _ hK Rl O hw fun W1 vs rs ms1 e1 O1 ok1 h1 => ⟨by rw [ok1.length]; exact h1.1, by rw [ok1.length]; exact h1.2.1, fun dx hdx => ?_⟩
  obtain ⟨O2, e2⟩ := O1.lay (o := .xd (fieldsX fs vs)) hdx
  have hKK : X.X.K = W1.K := (congrArg Sg.K (e1.s.trans hK)).symm
  have z := Rl.ex (W1.lay dx (.xd (fieldsX fs vs))) σ ρ.sl x dx (fieldsX fs vs) (fieldsD fs rs) ms1 (e1.trans e2) O2 ((Rl.mono (e1.trans e2)).sl) upd_same (fields_ok (up_vs e2 ok1)) h1.2.2
  have hZ : W.S.Z = X.Z := congrArg Sg.Z hK
  have hW : W.K = X.X.K := congrArg Sg.K hK
  rw [hZ, hW] at z
  exact z
end
end Sy
/-! ## try: clauses with and without `as` -/
namespace Sy
open PySem PySem.Spec PyProof.Rows L2
abbrev Cl := Value × Option Nat × (Addr → Value → Option Addr → TS)
def offE (i : Nat) (D : Ends) : Ends := { nx := fun σ' H' => D.nx (σ'.set i none) H', rt := D.rt, bk := fun σ' H' => D.bk (σ'.set i none) H', ct := fun σ' H' => D.ct (σ'.set i none) H' }
def wCls (K : PySem.W.Frag) (Wo : WX) (D : Ends) : List Cl → WX
  | [] => Wo
  | (c, none, ts) :: r => fun cls d σ H => ∃ b, PySem.W.exmOne K cls c = some b ∧ (b = true → ∀ a, H a = none → ts a cls d D σ H) ∧ (b = false → wCls K Wo D r cls d σ H)
  | (c, some i, ts) :: r => fun cls d σ H => ∃ b, PySem.W.exmOne K cls c = some b ∧ (b = true → ∀ a, H a = none → ts a cls d (offE i D) (σ.set i (some (.ref a))) H) ∧ (b = false → wCls K Wo D r cls d σ H)
inductive ClsOk (X : Cx) : List ExceptHandler → List Cl → Prop
  | nil : ClsOk X [] []
  | no {x : Str} {c : Value} {ts : Addr → Value → Option Addr → TS} {b₀ : Stmt} {suite : List Stmt} {np hp : Pos} {hds : List ExceptHandler} {l : List Cl} (hc : Names X x c)
      (hsu : ∀ (a : Addr) (oe : Obj) (cls : Value) (d : Option Addr) (pn : List (Addr × Obj)), Zc cls d oe → (∃ vs, oe.data = .fields vs) → PSs (X.suite a ((a, oe) :: pn)) (b₀ :: suite) (ts a cls d)) (r : ClsOk X hds l) :
      ClsOk X (.ExceptHandler (some (.Name x np)) none (b₀ :: suite) hp :: hds) ((c, none, ts) :: l)
  | as {x n : Str} {i : Nat} {c : Value} {ts : Addr → Value → Option Addr → TS} {b₀ : Stmt} {suite : List Stmt} {np hp : Pos} {hds : List ExceptHandler} {l : List Cl} (hN : X.N.Nodup) (hi : X.N[i]? = some n) (hln : X.env.kindOf n = some .local) (hc : Names X x c)
      (hsu : ∀ (a : Addr) (oe : Obj) (cls : Value) (d : Option Addr) (pn : List (Addr × Obj)), Zc cls d oe → (∃ vs, oe.data = .fields vs) → PSs (X.suite a ((a, oe) :: pn)) (b₀ :: suite) (ts a cls d)) (r : ClsOk X hds l) :
      ClsOk X (.ExceptHandler (some (.Name x np)) (some n) (b₀ :: suite) hp :: hds) ((c, some i, ts) :: l)
theorem ps_try {X : Cx} {body : List Stmt} {h0 : ExceptHandler} {hds : List ExceptHandler} {l : List Cl} {pos : Pos} {tb : WX → TS} {Wo : WX} (hs : X.stack = X.env :: X.outer) (hf : X.env.frame = some X.env.locals) (tk : Takes X Wo)
    (hb : ∀ (W : WX) (pn : List (Addr × Obj)) (xe : Value → Shared → Prop), Takes (X.tr pn xe) W → PassesOwn (model X.prog X.w) X.A X.env xe → PSs (X.tr pn xe) body (tb W))
    (hh : ClsOk X (h0 :: hds) l) : PS X (.Try body (h0 :: hds) [] [] pos) (fun D σ H => tb (wCls X.K Wo D l) D σ H) := by
  refine ⟨fun pins s σ H D J0 h => ?_⟩
  have ok := J0.ok
  have frm : X.A.frames = some (X.env :: X.outer) := by rw [ok.frames, hs]
  refine wpAny_Try_except ?_
  refine wpAny_mono ((hb (wCls X.K Wo D l) (X.pn ++ pins) (fun e s1 => wpAny (model X.prog X.w) X.A (noteFrame e X.env) (fun _ s2 => wpAny (model X.prog X.w) X.A (setFlight e none) (fun _ s3 =>
    wpAny (model X.prog X.w) X.A (handleBy e X.env (h0 :: hds)) (SP X pins D) X.xe s3) X.xe s2) X.xe s1) (fun u s' xx => ?_) PassesOwn.looking).run [] s σ H D (J0.toTry _) h) (fun f s1 hsp => ?_) (fun e s1 he => he)
  · obtain ⟨a, B, sI, pins', σ', H', cls, d, rfl, J', nb, up, sky, na, os, ag, w⟩ := xx
    have J : Inv X pins σ' H' sI := J'.ofTry ok
    have sky2 : Sky B (X.env :: X.outer) a (Zc cls d) X.env.locals s'.heap := by rw [← hs]; exact sky
    show wpAny (model X.prog X.w) X.A (noteFrame (.ref a) X.env) _ _ _
    refine Sky.land Zc.steady frm hf sky2 fun h3 fl3 up3 => ?_
    have J3 : Inv X pins σ' H' { s' with heap := h3 } := J.landed nb fl3.1 (up.trans up3) os ag
    obtain ⟨oe3, vs3, he3, hz3, hd3⟩ := fl3.there
    have notin : a ∉ frs (X.env :: X.outer) := fun hm => by
      obtain ⟨_, o', e', hnf⟩ := fl3.2.2.1.mem hm
      rw [he3] at e'; cases e'
      exact hnf _ hd3
    have nL : a ≠ X.env.locals := fun z => notin (List.mem_filterMap.mpr ⟨X.env, List.mem_cons_self, by rw [hf, z]⟩)
    have nF : a ∉ X.fs := fun hm => by
      obtain ⟨e, he, q⟩ := List.mem_filterMap.mp hm
      exact notin (List.mem_filterMap.mpr ⟨e, List.mem_cons_of_mem _ he, q⟩)
    have S3 := J3.suite he3 hd3 na nL nF
    have LT : PySem.W.Looks (model X.prog X.w) h3 (typeOf (.ref a)) cls := fun A Q E s k q => wpAny_typeOf_ref (k _ _ he3) (by rw [hz3.1]; exact q)
    have test : ∀ {x : Str} {c : Value} {np : Pos}, Names X x c → ∀ {Q : Value → Shared → Prop} {E : Value → Shared → Prop}, Q c { s' with heap := h3 } → wpAny (model X.prog X.w) (X.A.mark (some (.ref a))) (eval (.Name x np) X.env) Q E { s' with heap := h3 } := fun {x c np} hc {Q E} q => by
      obtain ⟨hg, hdbg, hm | ⟨hm, hv, hnn⟩⟩ := hc
      · exact ld_glob (X := X.suite a ((a, oe3) :: (X.pn ++ pins))) S3 hg hm q hdbg
      · exact ld_blt (X := X.suite a ((a, oe3) :: (X.pn ++ pins))) S3 hg hm hv q hnn hdbg
    have go : ∀ {hds' : List ExceptHandler} {l' : List Cl}, ClsOk X hds' l' → wCls X.K Wo D l' cls d σ' H' → wpAny (model X.prog X.w) X.A (handleBy (.ref a) X.env hds') (SP X pins D) X.xe { s' with heap := h3 } := by
      intro hds' l' hk
      induction hk with
      | nil =>
        intro w
        refine wpAny_handleBy_nil ?_
        obtain ⟨k1, k2, k3, oe, vs, T, oT, ts', he, hz, hd, h1, hr⟩ := id fl3
        unfold PySem.passOn
        refine wpAny_bind (wpAny_field he hd h1 ?_)
        rw [if_neg (show ¬ ((Value.ref T == Value.none) = true) from by simp)]
        have fin : wpAny (model X.prog X.w) X.A (setFlight (.ref a) X.env.frame) (fun _ s4 => wpAny (model X.prog X.w) X.A (throw (.ref a) : Sem Flow) (SP X pins D) X.xe s4) X.xe { s' with heap := h3 } := by
          rw [hf]
          refine HandSPX.setFlight_upZ fl3 fun h4 hh4 up4 => wpAny_throw (tk _ _ ?_)
          exact ⟨a, B, sI, pins, σ', H', cls, d, rfl, J, nb, (up.trans up3).trans up4, .inr (.inr (by rw [hs]; exact hh4)), na, os, ag, w⟩
        first
          | exact wpAny_bind (wpAny_pure (wpAny_bind fin))
          | exact wpAny_bind fin
      | @no x c ts b₀ suite np hp hds2 l2 hc hsu r ih =>
        intro w
        obtain ⟨b, hb1, hyes, hno⟩ := w
        refine wpAny_handleBy_cons (codeAny_handlers_test ?_) (by intro q; cases q)
        have LM := PySem.W.exm_one (M := model X.prog X.w) (J3.kIn) LT hb1
        refine test hc (LM.here ?_)
        cases b with
        | true =>
          refine codeAny_handlers_suite ?_
          refine HandSPX.lands_againZ fl3 fun h4 fl4 up4 => ?_
          have J4 : Inv X pins σ' H' { s' with heap := h4 } := J.landed nb fl4.1 ((up.trans up3).trans up4) os ag
          obtain ⟨oe4, vs4, he4, hz4, hd4⟩ := fl4.there
          have S4 := J4.suite he4 hd4 na nL nF
          refine wpAny_mono ((hsu a oe4 cls d (X.pn ++ pins) hz4 ⟨_, hd4⟩).run [] _ _ H' _ S4 (hyes rfl a na)) (fun f s6 hsp => ?_) (fun _ _ z => False.elim z)
          cases f with
          | ret u => obtain ⟨v6, σ6, H6, S6, r6, q6⟩ := hsp; exact ⟨_, _, _, S6.unsuite ok, r6, q6⟩
          | next => obtain ⟨σ6, H6, S6, q6⟩ := hsp; exact ⟨_, _, S6.unsuite ok, q6⟩
          | brk => obtain ⟨σ6, H6, S6, q6⟩ := hsp; exact ⟨_, _, S6.unsuite ok, q6⟩
          | cont => obtain ⟨σ6, H6, S6, q6⟩ := hsp; exact ⟨_, _, S6.unsuite ok, q6⟩
        | false =>
          show wpAny _ X.A (handleBy (.ref a) X.env hds2) _ _ _
          exact ih (hno rfl)
      | @as x n i c ts b₀ suite np hp hds2 l2 hN hi hln hc hsu r ih =>
        intro w
        obtain ⟨b, hb1, hyes, hno⟩ := w
        refine wpAny_handleBy_cons (codeAny_handlers_test ?_) (by intro q; cases q)
        have LM := PySem.W.exm_one (M := model X.prog X.w) (J3.kIn) LT hb1
        refine test hc (LM.here ?_)
        cases b with
        | true =>
          refine codeAny_handlers_suite_as ?_
          refine HandSPX.lands_againZ fl3 fun h4 fl4 up4 => ?_
          have J4 : Inv X pins σ' H' { s' with heap := h4 } := J.landed nb fl4.1 ((up.trans up3).trans up4) os ag
          obtain ⟨oe4, vs4, he4, hz4, hd4⟩ := fl4.there
          have S4 := J4.suite he4 hd4 na nL nF
          refine store_ok (X := X.suite a ((a, oe4) :: (X.pn ++ pins))) (v := .ref a) S4 hN hi (.inl hln) rfl (fun s5 S5 => ?_) (.inr hln)
          refine wpAny_mono ((hsu a oe4 cls d (X.pn ++ pins) hz4 ⟨_, hd4⟩).run [] s5 _ H' _ S5 (hyes rfl a na)) (fun f s6 hsp => ?_) (fun _ _ z => False.elim z)
          have done : ∀ {σ6 : L2.St} {H6 : Hp} {Q : Shared → Prop}, Inv (X.suite a ((a, oe4) :: (X.pn ++ pins))) [] σ6 H6 s6 → (∀ s7, Inv X pins (σ6.set i none) H6 s7 → Q s7) →
              wpAny (model X.prog X.w) X.A (do bindName X.env n .none; unbindBehindTheSuite X.env n hp) (fun _ s7 => Q s7) X.xe s6 := fun {σ6 H6 Q} S6 hq => gone_ok (S6.unsuite ok) hN hi hln hq
          cases f with
          | ret u => obtain ⟨v6, σ6, H6, S6, r6, q6⟩ := hsp; exact done S6 fun s7 J7 => ⟨_, _, _, J7, r6, q6⟩
          | next => obtain ⟨σ6, H6, S6, q6⟩ := hsp; exact done S6 fun s7 J7 => ⟨_, _, J7, q6⟩
          | brk => obtain ⟨σ6, H6, S6, q6⟩ := hsp; exact done S6 fun s7 J7 => ⟨_, _, J7, q6⟩
          | cont => obtain ⟨σ6, H6, S6, q6⟩ := hsp; exact done S6 fun s7 J7 => ⟨_, _, J7, q6⟩
        | false =>
          show wpAny _ X.A (handleBy (.ref a) X.env hds2) _ _ _
          exact ih (hno rfl)
    exact go hh w
  · cases f with
    | ret u => obtain ⟨v, σ', H', J', r, q⟩ := hsp; exact ⟨v, σ', H', J'.ofTry ok, r, q⟩
    | next => obtain ⟨σ', H', J', q⟩ := hsp; exact wpAny_execs_nil ⟨σ', H', J'.ofTry ok, q⟩
    | brk => obtain ⟨σ', H', J', q⟩ := hsp; exact ⟨σ', H', J'.ofTry ok, q⟩
    | cont => obtain ⟨σ', H', J', q⟩ := hsp; exact ⟨σ', H', J'.ofTry ok, q⟩
end Sy
namespace Sy
open PySem PySem.Spec PyProof.Rows L2
/-! ## try over data -/
/-- the reading itself as a wish -/
def tOf (S : Sg) (w : WS) : TS := fun D σ H => ∃ (W : Wd) (ρ : Env) (ms : Ms) (E : WEnds), W.S = S ∧ W.H = H ∧ Rel W σ ρ ∧ Own W ms ∧ w E ρ ms ∧ EndsOk W E D
theorem DSs.pss {X : Cy} {sts : List Stmt} {w : WS} (h : DSs X sts w) : PSs X.X sts (tOf X.S w) := by
  obtain ⟨t, p, l⟩ := h
  refine ⟨fun pins s σ H D J ⟨W, ρ, ms, E, hS, hH, R, O, hw, ok⟩ => ?_⟩
  subst hH
  exact p.run pins s σ W.H D J (l W σ ρ ms D E hS R O hw ok)
/-- what an except clause answers of an own class -/
def XtOk (K : PySem.W.Frag) (xt : Str → Kd → Option Bool) : Prop := ∀ C b r, xt C b = some r → PySem.W.exmOne K (.ref (He.ga K C)) (b.val K) = some r
abbrev Wcl := Kd × Option Nat × WS
def tryE (ρ : Env) (E : WEnds) : WEnds := { nx := fun ρ' ms => E.nx { ρ' with ex := ρ.ex } ms, rt := E.rt, bk := fun ρ' ms => E.bk { ρ' with ex := ρ.ex } ms, ct := fun ρ' ms => E.ct { ρ' with ex := ρ.ex } ms }
def offS (o : Option Nat) (sl : Sl) : Sl := match o with
  | none => sl
  | some i => sl.set i none
def suiE (o : Option Nat) (ρ : Env) (E : WEnds) : WEnds := { nx := fun ρ' ms => E.nx { ρ with sl := offS o ρ'.sl } ms, rt := E.rt, bk := fun ρ' ms => E.bk { ρ with sl := offS o ρ'.sl } ms, ct := fun ρ' ms => E.ct { ρ with sl := offS o ρ'.sl } ms }
@[simp] def clW (xt : Str → Kd → Option Bool) (E : WEnds) (ρ : Env) : List Wcl → KX
  | [] => ρ.ex
  | (b, none, ws) :: r => fun sl C fs ms => match xt C b with
    | some true => ∀ a, ws (suiE none ρ E) ⟨sl, neverX, C, (Str.empty, .ref a) :: fs⟩ ms
    | some false => clW xt E ρ r sl C fs ms
    | none => False
  | (b, some i, ws) :: r => fun sl C fs ms => match xt C b with
    | some true => ∀ a, ws (suiE (some i) ρ E) ⟨sl.set i (some (.ref a)), neverX, C, (Str.empty, .ref a) :: fs⟩ ms
    | some false => clW xt E ρ r sl C fs ms
    | none => False
@[simp] def wTry (xt : Str → Kd → Option Bool) (wb : WS) (cl : List Wcl) : WS := fun E ρ ms => wb (tryE ρ E) { ρ with ex := clW xt E ρ cl } ms
def suiS (K : PySem.W.Frag) (a : Addr) (cls : Value) (d : Option Addr) : Sg := ⟨K, never, some (a, cls, d)⟩
def toCl (K : PySem.W.Frag) : Wcl → Cl
  | (b, o, ws) => (b.val K, o, fun a cls d => tOf (suiS K a cls d) ws)
section
variable {K : PySem.W.Frag} {xt : Str → Kd → Option Bool} {W : Wd} {ρ : Env} {E : WEnds} {D : Ends} {σ0 : L2.St}
def offD : Option Nat → Ends → Ends
  | none, D => D
  | some i, D => offE i D
theorem sui_ends (R : Rel W σ0 ρ) (ok : EndsOk W E D) (o : Option Nat) {W3 : Wd} (e : Ext0 W W3) (hp : W3.P = W.P) : EndsOk W3 (suiE o ρ E) (offD o D) := by
  have back : ∀ {W4 : Wd}, Ext W3 W4 → Ext W { W4 with S := W.S } := fun e' => ⟨rfl, e.ex.trans e'.ex, fun i x h => e'.adr i x (e.adr i x h), fun x o u h => e'.frz x o u (e.frz x o u h), e'.p.trans hp⟩
  have hk : ∀ {W4 : Wd}, Ext W3 W4 → W.S.K = W4.S.K := fun {W4} e' => by
    have h1 : W4.S.K = W3.S.K := by rw [e'.s]
    exact (h1.trans e.k).symm
  have rl : ∀ {W4 : Wd} {σ4 : L2.St} {sl4 : Sl}, Ext W3 W4 → RelS W4 σ4 sl4 → RelS { W4 with S := W.S } σ4 sl4 := fun e' r => r.low (sg_low (hk e'))
  have rv : ∀ {W4 : Wd} {v : V} {r : Dat}, Ext W3 W4 → RvOk W4 v r → RvOk { W4 with S := W.S } v r := fun {W4 v r} e' z => by
    show Dt W.S.K W4.G W4.A v r
    rw [hk e']; exact z
  cases o with
  | none => exact ⟨fun W4 σ4 ρ4 ms4 e4 O4 R4 h4 => ok.nx { W4 with S := W.S } σ4 { ρ with sl := ρ4.sl } ms4 (back e4) (O4.sg (hk e4)) ⟨rl e4 R4.sl, (R.mono (back e4)).ex, (R.mono (back e4)).hd⟩ h4,
      fun W4 v r ms4 e4 O4 r4 h4 => ok.rt { W4 with S := W.S } v r ms4 (back e4) (O4.sg (hk e4)) (rv e4 r4) h4,
      fun W4 σ4 ρ4 ms4 e4 O4 R4 h4 => ok.bk { W4 with S := W.S } σ4 { ρ with sl := ρ4.sl } ms4 (back e4) (O4.sg (hk e4)) ⟨rl e4 R4.sl, (R.mono (back e4)).ex, (R.mono (back e4)).hd⟩ h4,
      fun W4 σ4 ρ4 ms4 e4 O4 R4 h4 => ok.ct { W4 with S := W.S } σ4 { ρ with sl := ρ4.sl } ms4 (back e4) (O4.sg (hk e4)) ⟨rl e4 R4.sl, (R.mono (back e4)).ex, (R.mono (back e4)).hd⟩ h4⟩
  | some i => exact ⟨fun W4 σ4 ρ4 ms4 e4 O4 R4 h4 => ok.nx { W4 with S := W.S } (σ4.set i none) { ρ with sl := ρ4.sl.set i none } ms4 (back e4) (O4.sg (hk e4)) ⟨(rl e4 R4.sl).unset i, (R.mono (back e4)).ex, (R.mono (back e4)).hd⟩ h4,
      fun W4 v r ms4 e4 O4 r4 h4 => ok.rt { W4 with S := W.S } v r ms4 (back e4) (O4.sg (hk e4)) (rv e4 r4) h4,
      fun W4 σ4 ρ4 ms4 e4 O4 R4 h4 => ok.bk { W4 with S := W.S } (σ4.set i none) { ρ with sl := ρ4.sl.set i none } ms4 (back e4) (O4.sg (hk e4)) ⟨(rl e4 R4.sl).unset i, (R.mono (back e4)).ex, (R.mono (back e4)).hd⟩ h4,
      fun W4 σ4 ρ4 ms4 e4 O4 R4 h4 => ok.ct { W4 with S := W.S } (σ4.set i none) { ρ with sl := ρ4.sl.set i none } ms4 (back e4) (O4.sg (hk e4)) ⟨(rl e4 R4.sl).unset i, (R.mono (back e4)).ex, (R.mono (back e4)).hd⟩ h4⟩
theorem cl_go (T : XtOk K xt) (hKW : W.K = K) (R : Rel W σ0 ρ) (ok : EndsOk W E D) : ∀ (cl : List Wcl) (W2 : Wd) (σ : L2.St) (sl : Sl) (C : Str) (dd : Addr) (xs : List (Str × V)) (fs : List (Str × Dat)) (ms : Ms), Ext0 W W2 → W2.P = W.P → Own W2 ms → RelS W2 σ sl → W2.G dd = some (.xd xs) → Dtf W2.S.K W2.G W2.A xs fs → clW xt E ρ cl sl C fs ms →
    wCls K W.S.Z D (cl.map (toCl K)) (.ref (He.ga K C)) (some dd) σ W2.H := by
  intro cl
  have back : ∀ {W2 W4 : Wd}, Ext0 W W2 → W2.P = W.P → Ext0 W2 W4 → W4.P = W2.P → Ext W { W4 with S := W.S } := fun e hp e' hp' => ⟨rfl, e.ex.trans e'.ex, fun i x h => e'.adr i x (e.adr i x h), fun x o u h => e'.frz x o u (e.frz x o u h), hp'.trans hp⟩
  induction cl with
  | nil =>
    intro W2 σ sl C dd xs fs ms e hp O RS g x hw
    have hk2 : W2.S.K = W.S.K := e.k
    have e1 : Ext W { W2 with S := W.S } := back e hp (Ext0.refl _) rfl
    have := R.ex { W2 with S := W.S } σ sl C dd xs fs ms e1 (O.sg hk2.symm) (RS.low (sg_low hk2.symm)) g (by rw [show ({ W2 with S := W.S } : Wd).S.K = W2.S.K from hk2.symm]; exact x) hw
    rw [hKW] at this
    exact this
  | cons c r ih =>
    intro W2 σ sl C dd xs fs ms e hp O RS g x hw
    have hk2 : W2.S.K = W.S.K := e.k
    have hk3 : W2.S.K = K := hk2.trans hKW
    obtain ⟨b, o, ws⟩ := c
    have hkS : ∀ a cls d, (suiS K a cls d).K = W2.S.K := fun _ _ _ => hk3.symm
    have e3 : ∀ a cls d, Ext0 W { W2 with S := suiS K a cls d } := fun a cls d => ⟨hKW.symm, e.ex, e.adr, e.frz⟩
    have hd3 : ∀ a, HdOk { W2 with S := suiS K a (.ref (He.ga K C)) (some dd) } C ((Str.empty, .ref a) :: fs) := fun a a' cls' d' z => by
      cases z
      exact ⟨rfl, dd, xs, fs, rfl, g, rfl, by show Dtf K W2.G W2.A xs fs; rw [← hk3]; exact x⟩
    cases o with
    | none =>
      simp only [clW] at hw
      split at hw
      · rename_i hx
        exact ⟨true, T C b true hx, fun _ a _ => ⟨{ W2 with S := suiS K a (.ref (He.ga K C)) (some dd) }, ⟨sl, neverX, C, (Str.empty, .ref a) :: fs⟩, ms, suiE none ρ E, rfl, rfl, ⟨RS.low (sg_low (hkS _ _ _)), never_x, hd3 a⟩, O.sg (hkS _ _ _), hw a, sui_ends R ok none (e3 _ _ _) hp⟩, fun z => by cases z⟩
      · rename_i hx
        exact ⟨false, T C b false hx, (fun z => by cases z), fun _ => ih W2 σ sl C dd xs fs ms e hp O RS g x hw⟩
      · exact hw.elim
    | some i =>
      simp only [clW] at hw
      split at hw
      · rename_i hx
        exact ⟨true, T C b true hx, fun _ a _ => ⟨{ W2 with S := suiS K a (.ref (He.ga K C)) (some dd) }, ⟨sl.set i (some (.ref a)), neverX, C, (Str.empty, .ref a) :: fs⟩, ms, suiE (some i) ρ E, rfl, rfl, ⟨(RS.low (sg_low (hkS _ _ _))).set (.ref a) i, never_x, hd3 a⟩, O.sg (hkS _ _ _), hw a, sui_ends R ok (some i) (e3 _ _ _) hp⟩, fun z => by cases z⟩
      · rename_i hx
        exact ⟨false, T C b false hx, (fun z => by cases z), fun _ => ih W2 σ sl C dd xs fs ms e hp O RS g x hw⟩
      · exact hw.elim
end
/-- the clauses of a try, over data -/
inductive DCls (X : Cy) : List ExceptHandler → List Wcl → Prop
  | nil : DCls X [] []
  | no {x : Str} {b : Kd} {ws : WS} {b0 : Stmt} {suite : List Stmt} {np hp : Pos} {hds : List ExceptHandler} {l : List Wcl} (hc : Names X.X x (b.val X.X.K))
      (hsu : ∀ (a : Addr) (oe : Obj) (cls : Value) (d : Option Addr) (pn : List (Addr × Obj)), Zc cls d oe → (∃ vs, oe.data = .fields vs) → DSs ⟨X.X.suite a ((a, oe) :: pn), never, takes_none5, some (a, cls, d)⟩ (b0 :: suite) ws) (r : DCls X hds l) :
      DCls X (.ExceptHandler (some (.Name x np)) none (b0 :: suite) hp :: hds) ((b, none, ws) :: l)
  | as {x n : Str} {i : Nat} {b : Kd} {ws : WS} {b0 : Stmt} {suite : List Stmt} {np hp : Pos} {hds : List ExceptHandler} {l : List Wcl} (hN : X.X.N.Nodup) (hi : X.X.N[i]? = some n) (hln : X.X.env.kindOf n = some .local) (hc : Names X.X x (b.val X.X.K))
      (hsu : ∀ (a : Addr) (oe : Obj) (cls : Value) (d : Option Addr) (pn : List (Addr × Obj)), Zc cls d oe → (∃ vs, oe.data = .fields vs) → DSs ⟨X.X.suite a ((a, oe) :: pn), never, takes_none5, some (a, cls, d)⟩ (b0 :: suite) ws) (r : DCls X hds l) :
      DCls X (.ExceptHandler (some (.Name x np)) (some n) (b0 :: suite) hp :: hds) ((b, some i, ws) :: l)
theorem DCls.ok {X : Cy} {hds : List ExceptHandler} {l : List Wcl} (h : DCls X hds l) : ClsOk X.X hds (l.map (toCl X.X.K)) := by
  induction h with
  | nil => exact .nil
  | no hc hsu r ih => exact .no hc (fun a oe cls d pn z dd => (hsu a oe cls d pn z dd).pss) ih
  | as hN hi hln hc hsu r ih => exact .as hN hi hln hc (fun a oe cls d pn z dd => (hsu a oe cls d pn z dd).pss) ih
theorem ds_try {X : Cy} {xt : Str → Kd → Option Bool} {body : List Stmt} {h0 : ExceptHandler} {hds : List ExceptHandler} {cl : List Wcl} {wb : WS} {pos : Pos} (T : XtOk X.X.K xt) (hs : X.X.stack = X.X.env :: X.X.outer) (hf : X.X.env.frame = some X.X.env.locals)
    (hb : ∀ (Z : WX) (pn : List (Addr × Obj)) (xe : Value → Shared → Prop) (tk : Takes (X.X.tr pn xe) Z), PassesOwn (model X.X.prog X.X.w) X.X.A X.X.env xe → DSs ⟨X.X.tr pn xe, Z, tk, X.xh⟩ body wb)
    (hh : DCls X (h0 :: hds) cl) : DS X (.Try body (h0 :: hds) [] [] pos) (wTry xt wb cl) := by
  refine ⟨_, ps_try (tb := fun Z => tOf ⟨X.X.K, Z, X.xh⟩ wb) hs hf X.tk (fun Z pn xe tk po => (hb Z pn xe tk po).pss) hh.ok, fun W σ ρ ms D E hK R O hw ok => ?_⟩
  have hKW : W.K = X.X.K := congrArg Sg.K hK
  have hZ : W.S.Z = X.Z := congrArg Sg.Z hK
  have hx : W.S.xh = X.xh := congrArg Sg.xh hK
  let S1 : Sg := ⟨X.X.K, wCls X.X.K X.Z D (cl.map (toCl X.X.K)), X.xh⟩
  have hk1 : S1.K = W.S.K := hKW.symm
  refine ⟨{ W with S := S1 }, { ρ with ex := clW xt E ρ cl }, ms, tryE ρ E, rfl, rfl, ⟨R.sl.low (sg_low hk1), ?_, ?_⟩, O.sg hk1, hw, ?_⟩
  · intro W2 σ2 sl2 C dd xs fs ms2 e2 O2 RS g x h2
    have := cl_go T hKW R ok cl W2 σ2 sl2 C dd xs fs ms2 ⟨by show W2.S.K = W.S.K; rw [e2.s]; exact hk1, e2.ex, e2.adr, e2.frz⟩ e2.p O2 RS g x h2
    rw [hZ] at this
    exact this
  · exact R.hd.low (sg_low hk1) hx.symm
  · have back : ∀ {W4 : Wd}, Ext { W with S := S1 } W4 → Ext W { W4 with S := W.S } := fun e' => ⟨rfl, e'.ex, e'.adr, e'.frz, e'.p⟩
    have hk : ∀ {W4 : Wd}, Ext { W with S := S1 } W4 → W.S.K = W4.S.K := fun {W4} e' => by
      have h1 : W4.S.K = S1.K := by rw [e'.s]
      exact (h1.trans hk1).symm
    have hh2 : ∀ {W4 : Wd}, Ext { W with S := S1 } W4 → W.S.xh = W4.S.xh := fun {W4} e' => by rw [e'.s]; exact hx
    have rl : ∀ {W4 : Wd} {σ4 : L2.St} {ρ4 : Env}, Ext { W with S := S1 } W4 → Rel W4 σ4 ρ4 → Rel { W4 with S := W.S } σ4 { ρ4 with ex := ρ.ex } := fun e' r => ⟨r.sl.low (sg_low (hk e')), (R.mono (back e')).ex, r.hd.low (sg_low (hk e')) (hh2 e')⟩
    have rv : ∀ {W4 : Wd} {v : V} {r : Dat}, Ext { W with S := S1 } W4 → RvOk W4 v r → RvOk { W4 with S := W.S } v r := fun {W4 v r} e' z => by
      show Dt W.S.K W4.G W4.A v r
      rw [hk e']; exact z
    exact ⟨fun W4 σ4 ρ4 ms4 e4 O4 R4 h4 => ok.nx { W4 with S := W.S } σ4 { ρ4 with ex := ρ.ex } ms4 (back e4) (O4.sg (hk e4)) (rl e4 R4) h4, fun W4 v r ms4 e4 O4 r4 h4 => ok.rt { W4 with S := W.S } v r ms4 (back e4) (O4.sg (hk e4)) (rv e4 r4) h4,
      fun W4 σ4 ρ4 ms4 e4 O4 R4 h4 => ok.bk { W4 with S := W.S } σ4 { ρ4 with ex := ρ.ex } ms4 (back e4) (O4.sg (hk e4)) (rl e4 R4) h4, fun W4 σ4 ρ4 ms4 e4 O4 R4 h4 => ok.ct { W4 with S := W.S } σ4 { ρ4 with ex := ρ.ex } ms4 (back e4) (O4.sg (hk e4)) (rl e4 R4) h4⟩
/-! e.f in an except suite -/
def tXs (K : PySem.W.Frag) (a : Addr) (cls : Value) (d : Option Addr) (f : Str) (te : TE) : TE := fun σ H Q => te σ H fun x H1 => ∃ (C dd : Addr) (xs : List (Str × V)) (v : V), x = .ref a ∧ cls = .ref C ∧ XcC K C ∧ PySem.W.findIn K (.ref C) f = some none ∧ d = some dd ∧ H1 dd = some (.xd xs) ∧ xs.lookup f = some v ∧ Q v H1
theorem pe_xs {X : Cx} {a : Addr} {oe : Obj} {cls : Value} {d : Option Addr} {pn : List (Addr × Obj)} {e : Expr} {te : TE} {pos : Pos} {f : Str} (hz : Zc cls d oe) (hf : ∃ vs, oe.data = .fields vs) (he : PE (X.suite a ((a, oe) :: pn)) e te)
    (hb : attributeBase e f X.env (eval e X.env) = eval e X.env := by rfl) : PE (X.suite a ((a, oe) :: pn)) (.Attribute e f pos) (tXs X.K a cls d f te) := by
  refine ⟨fun pins s σ H Q J h => attr_of hb (thn (he.run pins s σ H _ J h) fun u s1 hh => ?_)⟩
  obtain ⟨y, H1, J1, ry, C, dd, xs, v, ey, ec, T, hno, ed, ea, hl, q⟩ := hh
  subst ey ec ed
  obtain rfl : u = Value.ref a := ry
  obtain ⟨at_, _⟩ := J1.pin (a, oe) (List.mem_append_left _ List.mem_cons_self)
  obtain ⟨ws, hd⟩ := hf
  obtain ⟨mA, hns, hr⟩ : ObjOk X.prog X.w H1 s1.heap dd (.xd xs) := J1.hok dd _ ea
  obtain ⟨od, ho, look⟩ := lookIn_ns hns
  obtain ⟨u, hu, ru⟩ := RelO.some_of (v := v) (o := mA f) (by rw [← hl]; exact hr f)
  have I : PySem.W.InstAt s1.heap a oe C (some od) := ⟨at_, hz.1, by unfold PySem.W.notCls; rw [hd] <;> rfl, by rw [hz.2]; exact ho⟩
  exact HandSPX.exc_get J1.kIn I T.ga T.gt T.sb (PySem.W.findObj_own T.hd hno rfl (by rw [look, hu])) (handed_of ru) ⟨v, H1, J1.tok _, ru, q⟩
@[simp] def wXs (Cs : List Str) (f : Str) (we : WE) : WE := fun ρ ms k => we ρ ms fun r ms1 => match r, ρ.xf with
  | .ref a, (_, .ref a') :: fs => a = a' ∧ ρ.xc ∈ Cs ∧ (match fs.lookup f with
    | some d => k d ms1
    | none => False)
  | _, _ => False
theorem de_xs {X : Cx} {a : Addr} {oe : Obj} {cls : Value} {d : Option Addr} {pn : List (Addr × Obj)} {tk : Takes (X.suite a ((a, oe) :: pn)) never} {o : Expr} {Cs : List Str} {f : Str} {pos : Pos} {wo : WE}
    (T : ∀ C ∈ Cs, XcC X.K (He.ga X.K C) ∧ PySem.W.findIn X.K (.ref (He.ga X.K C)) f = some none) (hz : Zc cls d oe) (hf : ∃ vs, oe.data = .fields vs) (ho : DE ⟨X.suite a ((a, oe) :: pn), never, tk, some (a, cls, d)⟩ o wo)
    (hb : attributeBase o f X.env (eval o X.env) = eval o X.env := by rfl) : DE ⟨X.suite a ((a, oe) :: pn), never, tk, some (a, cls, d)⟩ (.Attribute o f pos) (wXs Cs f wo) := by
  obtain ⟨t, p, l⟩ := ho
  refine ⟨_, pe_xs hz hf p hb, fun W σ ρ ms Q k hK Rl O hw q => l W σ ρ ms _ _ hK Rl O hw fun W1 v r ms1 e1 O1 ok1 h1 => ?_⟩
  have hS : W1.S = ⟨X.K, never, some (a, cls, d)⟩ := e1.s.trans hK
  have hKK : W1.K = X.K := congrArg Sg.K hS
  obtain ⟨g1, dd, xs, fs0, g2, g3, g4, g5⟩ := (Rl.mono e1).hd a cls d (congrArg Sg.xh hS)
  rw [g4] at h1
  split at h1
  · rename_i a1 _ a2 fs e
    cases e
    obtain ⟨rfl, hC, h2⟩ := h1
    cases ok1
    split at h2
    · rename_i y e2
      obtain ⟨u, hu, oku⟩ := g5.look e2
      exact ⟨_, dd, xs, u, rfl, g1, by rw [hKK]; exact (T _ hC).1, by rw [hKK]; exact (T _ hC).2, g2, O1.ex _ _ g3, hu, q W1 u y ms1 e1 O1 oku h2⟩
    · exact h2.elim
  · exact h1.elim
end Sy
namespace Sy
open PySem PySem.Spec PyProof.Rows L2
/-! ## e.f, a property -/
theorem getpropG {X : Cx} {k : Nat} {C p g a dx : Addr} {fs : List (Str × V)} {f : Str} {fd : FuncData} {ps : List Str} {sp : Sp} {pins : List (Addr × Obj)} {σ : L2.St} {H : Hp} {s : Shared} {Q : VK} {b : Bool} {E' : Value → Shared → Prop} (J : Inv X pins σ H s) (ea : H a = some (.ins C dx fs)) (c : Cls X.K C) (hp : PropOf X.K C f p g)
    (F : FnG X.prog X.w X.K X.mg X.base (L2.CX X.prog X.w) k g fd ps sp) (gd : X.A.guards = some []) (hr : Room (k + 1) X.A) (hb : Binds X.K fd ps []) (hl : ps.length = 1) (h : sp [.ref a] H Q (fun _ _ _ => False)) :
    wpAny (model X.prog X.w) X.A (getAttr (.ref a) f b) (EP X pins σ Q) E' s := by
  obtain ⟨mA, O, _, _, _, _⟩ := ins_get J.hok ea
  obtain ⟨od, I, _⟩ := O.look
  obtain ⟨rest, hrec⟩ := hp.rec_
  have J1 := J.tok (s.toks + 1)
  have hc : (PySem.W.clsIn X.K C).isSome = true := by
    obtain ⟨cd, hc, _⟩ := PySem.W.any_some c.hd
    rw [hc]
    rfl
  have hb' := hb { s with toks := s.toks + 1 } [.ref a] J1.kIn (by rw [List.append_nil]; exact hl.symm)
  rw [List.append_nil] at hb'
  refine PySem.W.get_bind J.kIn I (PySem.W.plainGet_of (c.get f)).1 (PySem.W.findObj_data hc hp.at_ hp.get hp.tak) (PySem.W.plainGet_of (c.get f)).2 (wpAny_call (PySem.W.prop_get (s := { s with toks := s.toks + 1 }) J.kIn hrec ?_))
  refine codeAny_mono (F.go X.A.in1 X.stack { s with toks := s.toks + 1 } H ⟨[.ref a], []⟩ [.ref a] [.ref a] Q (fun _ _ _ => False) gd hr.in1 J1.env0.in1 hb' (.cons rfl .nil) h) fun r s' hq => ?_
  match r, hq with
  | .error e, z =>
    obtain ⟨_, _, _, _, _, _, _, _, _, _, _, _, y⟩ := z
    exact False.elim y
  | .ok (.ret u), z =>
    obtain ⟨v, H', J3, rv, q3⟩ := J1.after z
    show wpAny _ _ (handedOut u) _ _ _
    rw [PySem.W.handedOut_of (handed_of rv)]
    exact wpAny_pure ⟨v, H', J3, rv, q3⟩
  | .ok .next, z => exact False.elim z
  | .ok .brk, z => exact False.elim z
  | .ok .cont, z => exact False.elim z
section
variable {X : Cy}
@[simp] def wProp (C f : Str) (R : FSpec) (wo : WE) : WE := fun ρ ms k => wo ρ ms fun o ms1 => match insOf ms1 o with
  | some (C', fs) => C' = C ∧ R [o] ms1 k (fun _ _ _ => False)
  | none => False
def tPropG (C : Addr) (sp : Sp) (to : TE) : TE := fun σ H Q => to σ H fun x H1 => ∃ a dx fs, x = .ref a ∧ H1 a = some (.ins C dx fs) ∧ sp [.ref a] H1 Q (fun _ _ _ => False)
theorem de_prop {o : Expr} {C f : Str} {pos : Pos} {k : Nat} {p : Addr} {ps : List Str} {R : FSpec} {wo : WE} (c : Cls X.X.K (He.ga X.X.K C)) (hp : PropOf X.X.K (He.ga X.X.K C) f p (fA X.X.K (C, some f))) (D : DefOk X.X.prog X.X.w X.X.K X.X.mg X.X.base (C, some f) ps k R) (hl : ps.length = 1) (hg : X.X.A.guards = some []) (room : Room (k + 1) X.X.A)
    (ho : DE X o wo) (hb : attributeBase o f X.X.env (eval o X.X.env) = eval o X.X.env := by rfl) : DE X (.Attribute o f pos) (wProp C f R wo) := by
  obtain ⟨to, po, lo⟩ := ho
  obtain ⟨fd, F, bd, kp⟩ := D.ex
  refine ⟨tPropG (He.ga X.X.K C) (spF X.X.K R) to, ⟨fun pins s σ H Q J h => attr_of hb (thn (po.run pins s σ H _ J h) fun u s1 ⟨x, H1, J1, rx, a, dx, fs, ex, ea, q⟩ => ?_)⟩, fun W σ ρ ms Q k hK Rl O hw q => ?_⟩
  · subst ex
    obtain rfl : u = Value.ref a := rx
    exact getpropG J1 ea c hp F hg room bd hl q
  · refine lo W σ ρ ms _ _ hK Rl O hw fun W1 v r ms1 e1 O1 ok1 h1 => ?_
    have hKK : X.X.K = W1.K := (congrArg Sg.K (e1.s.trans hK)).symm
    split at h1
    · rename_i C' fs e
      obtain ⟨rfl, h1⟩ := h1
      obtain ⟨a, dx, xs, rfl, ha, rk⟩ := O1.inst ok1 e
      refine ⟨a, dx, xs, rfl, by rw [hKK]; exact ha, W1, [r], ms1, _, fun _ _ _ => False, rfl, hKK.symm, O1, .cons ok1 .nil, h1, fun W' v r ms' e2 O2 ok2 h2 => q W' v r ms' (e1.trans e2) O2 ok2 h2, fun _ _ _ _ _ _ _ _ _ _ z => z.elim⟩
    · exact h1.elim
end
end Sy
namespace Sy
open PySem PySem.Spec PyProof.Rows L2
/-! ## a op b of two instances of an own class with its method for op -/
theorem bin_own {X : Cx} {op : Operator} {a C f b : Addr} {ox : Obj} {od : Option Obj} {w : Value} {Q : Value → Shared → Prop} {E : Value → Shared → Prop} {s : Shared} (kin : X.K.In s.heap) (I : PySem.W.InstAt s.heap a ox C od) (hb : PySem.W.Looks (model X.prog X.w) s.heap (typeOf w) (.ref C)) (sf : PySem.W.selfFirst X.K C = true)
    (hs : PySem.W.findIn X.K (.ref C) (PySem.dunder op.info.2) = some (some (.ref f))) (hf : PySem.W.isFn X.K (.ref f) = true)
    (h : wpAny (model X.prog X.w) X.A (call (.ref f) [.ref a, w]) (PySem.W.CmpBack Q) E s) : wpAny (model X.prog X.w) X.A (binaryOp op (.ref a) w) Q E s := by
  obtain ⟨cd, hcd, hm⟩ := PySem.W.any_some sf
  obtain ⟨rest, hm⟩ : ∃ rest, cd.mro = .ref C :: rest := by
    cases z : cd.mro with
    | nil => rw [z] at hm; cases hm
    | cons c r => rw [z] at hm; exact ⟨r, by rw [List.head?_cons] at hm; cases (beq_iff_eq.mp hm); rfl⟩
  unfold binaryOp
  refine wpAny_holding (wpAny_bind ?_)
  unfold binaryOp1
  refine wpAny_bind (I.type.here (wpAny_bind (hb.here (wpAny_bind ((PySem.W.fills_K kin hcd hm hs).here ?_)))))
  simp only [beq_self_eq_true, if_true]
  refine wpAny_bind (wpAny_pure ?_)
  simp only [Bool.and_false, Bool.false_eq_true, if_false, Bool.false_and]
  refine wpAny_bind (wpAny_pure ?_)
  simp only [Bool.false_eq_true, if_false]
  refine wpAny_bind (m := tryMethod (.ref a) _ w) ?_
  unfold tryMethod
  refine wpAny_bind (PySem.W.special_fn kin I hs (beq_iff_eq.mp hf) (wpAny_mono h (fun v s' hv => ?_) fun _ _ e => e))
  cases v <;> first | exact hv.elim | exact wpAny_pure (wpAny_pure (wpAny_pure hv))
section
variable {X : Cy}
def rBin (K : PySem.W.Frag) (C : Addr) (sp : Sp) (E : XK) : R2 := fun x y H Q => ∃ a dx fs b dx' fs', x = .ref a ∧ y = .ref b ∧ H a = some (.ins C dx fs) ∧ H b = some (.ins C dx' fs') ∧ sp [x, y] H Q E
@[simp] def wBin (C : Str) (R : FSpec) (wa wb : WE) : WE := fun ρ ms k => wa ρ ms fun o ms1 => wb ρ ms1 fun p ms2 => match insOf ms2 o, insOf ms2 p with
  | some (C1, _), some (C2, _) => C1 = C ∧ C2 = C ∧ R [o, p] ms2 k (ρ.ex ρ.sl)
  | _, _ => False
theorem notNI {v : V} {u : Value} {Q : Value → Shared → Prop} {s : Shared} (r : L2.RelV v u) (h : Q u s) : PySem.W.CmpBack Q u s := by
  cases v with
  | non => cases r; exact h
  | bl b => cases r; exact h
  | ref a => cases r; exact h
  | ty n => cases r; exact h
  | int i => obtain ⟨t, rfl⟩ := r; exact h
  | str i => obtain ⟨t, rfl⟩ := r; exact h
  | byt i => obtain ⟨t, rfl⟩ := r; exact h
  | flt i => obtain ⟨t, rfl⟩ := r; exact h
theorem de_bin {op : Operator} {C m : Str} {k : Nat} {ps : List Str} {R : FSpec} {a b : Expr} {wa wb : WE} {pos : Pos} (sf : PySem.W.selfFirst X.X.K (He.ga X.X.K C) = true) (hs : PySem.W.findIn X.X.K (.ref (He.ga X.X.K C)) (PySem.dunder op.info.2) = some (some (.ref (fA X.X.K (C, some m)))))
    (hf : PySem.W.isFn X.X.K (.ref (fA X.X.K (C, some m))) = true) (D : DefOk X.X.prog X.X.w X.X.K X.X.mg X.X.base (C, some m) ps k R) (hg : X.X.A.guards = some []) (room : Room k X.X.A) (ha : DE X a wa) (hb : DE X b wb) : DE X (.BinOp a op b pos) (wBin C R wa wb) := by
  obtain ⟨ta, pa, la⟩ := ha
  obtain ⟨tb, pb, lb⟩ := hb
  obtain ⟨fd, F, bd, kp⟩ := D.ex
  refine ⟨fun σ H Q => tOp (rBin X.X.K (He.ga X.X.K C) (spF X.X.K R) (exS X σ)) ta tb σ H Q, ⟨fun pins s σ H Q J h => wpAny_BinOp (binT pa pb J h fun v u s2 x y H2 J2 rx ry q => ?_)⟩, fun W σ ρ ms Q k hK Rl O hw q => ?_⟩
  · obtain ⟨p, dx, fs, p', dx', fs', rfl, rfl, e1, e2, want⟩ := q
    cases (show v = Value.ref p from rx)
    cases (show u = Value.ref p' from ry)
    obtain ⟨mA, O1, _, _, _, _⟩ := ins_get J2.hok e1
    obtain ⟨od, I1, _⟩ := O1.look
    obtain ⟨mB, O2, _, _, _, _⟩ := ins_get J2.hok e2
    obtain ⟨od2, I2, _⟩ := O2.look
    refine bin_own (b := p') J2.kIn I1 I2.type sf hs hf ?_
    refine thn (F.runS (us := [.ref p, .ref p']) (vs := [.ref p, .ref p']) hg room bd (pass_s σ) J2 (.cons rfl (.cons rfl .nil)) want) fun u s3 z => ?_
    obtain ⟨v3, H3, J3, r3, q3⟩ := z
    exact notNI r3 ⟨v3, H3, J3, r3, q3⟩
  · refine la W σ ρ ms _ _ hK Rl O hw fun W1 v r ms1 e1 O1 ok1 h1 => lb W1 σ ρ ms1 _ _ (e1.s.trans hK) (Rl.mono e1) O1 h1 fun W2 v2 r2 ms2 e2 O2 ok2 h2 => ?_
    have hKK : X.X.K = W2.K := (congrArg Sg.K (e2.s.trans (e1.s.trans hK))).symm
    split at h2
    · rename_i C1 f1 C2 f2 g1 g2
      obtain ⟨rfl, rfl, h2⟩ := h2
      obtain ⟨p, dx, xs, rfl, hp, _⟩ := O2.inst (up_v e2 ok1) g1
      obtain ⟨p', dx', xs', rfl, hp', _⟩ := O2.inst ok2 g2
      exact ⟨p, dx, xs, p', dx', xs', rfl, rfl, by rw [hKK]; exact hp, by rw [hKK]; exact hp', call_go (e2.s.trans (e1.s.trans hK)) ((Rl.mono e1).mono e2) O2 (.cons (up_v e2 ok1) (.cons ok2 .nil)) h2 fun W3 v r ms3 e3 O3 ok3 h3 => q W3 v r ms3 ((e1.trans e2).trans e3) O3 ok3 h3⟩
    · exact h2.elim
end
end Sy
namespace Sy
open PySem PySem.Spec PyProof.Rows L2
section
variable {X : Cy} {pos : Pos}
/-! ### for c in text -/
def sgns (x : Str) : List Dat := x.cps.toList.map fun c => .str ⟨#[c]⟩
@[simp] def wiStr (we : WE) : WI := fun ρ ms k => we ρ ms fun r ms1 => match r with
  | .str x => k (sgns x) ms1
  | _ => False
theorem di_str {tg e : Expr} {we : WE} (h : DE X e we) : DI X tg e (wiStr we) := by
  obtain ⟨t, p, l⟩ := h
  refine ⟨_, pi_str p, fun W σ ρ ms R k hK Rl O hw q => l W σ ρ ms _ _ hK Rl O hw fun W1 v r ms1 e1 O1 ok1 h1 => ?_⟩
  split at h1
  · rename_i x
    cases ok1
    have hl : (sgns x).length = x.cps.size := by simp [sgns]
    refine ⟨x, rfl, q W1 _ _ ms1 e1 O1 ⟨fun W' ms' i e O' hi => by rw [hl] at hi; exact hi, fun W' ms' e O' => by rw [hl]; exact Nat.le_refl _, fun W' ms' i x' H' d e O' hget y => ?_⟩ h1⟩
    obtain ⟨rfl, c, hc, rfl⟩ := y
    unfold sgns at hget
    rw [List.getElem?_map, Array.getElem?_toList, hc] at hget
    cases hget
    exact ⟨W', Ext.refl _, O', rfl, .str _⟩
  · exact h1.elim
/-! ### xs.count(y), xs.index(y) -/
def rCntF (K : PySem.W.Frag) : V → List V → Hp → VK → Prop := fun x xs H Q => ∃ (p : Addr) (ys : List V) (y : V), x = .ref p ∧ xs = [y] ∧ SqL K H p ys ∧ L2.flatV y = true ∧ ys.all L2.flatV = true ∧ Q (.int (ys.countP fun z => L2.eqV z y : Nat)) H
theorem countU {y : V} : ∀ {ys : List V} {us : List Value}, Vals ys us → ys.all L2.flatV = true → us.countP (eqU y) = ys.countP fun z => L2.eqV z y
  | _, _, .nil, _ => rfl
  | _, _, .cons r t, f => by
    rw [List.all_cons, Bool.and_eq_true] at f
    rw [List.countP_cons, List.countP_cons, countU t f.2, eqU_of r f.1]
theorem mt_lcountF {X : Cx} : MtR X "list.count" (rCntF X.K) := by
  intro pins s σ H x xs v us Q I rx rxs h
  obtain ⟨p, ys, y, rfl, rfl, hs, fy, fys, q⟩ := h
  cases rx
  obtain ⟨u, rfl, ru⟩ := rxs.one
  obtain ⟨its, rv, ⟨⟨cls, dd, data, sl⟩, n, ho, hc, hdn, hd⟩, hlen⟩ := I.list hs
  simp only at hc hd
  subst hc hd
  refine call_meets PySem.F.slot_list_count ⟨_, ho, rfl⟩ PySem.F.entry_list_count (PySem.F.args_list_count_2 _ _)
    (SeqAt.list_countAt p its.toArray n dd sl u (eqU y)) ⟨ho, fun u' hu' => mem_eqAt ru fy rv fys u' (by simpa using hu'), ?_⟩
  have ec : its.toArray.toList.countP (eqU y) = ys.countP fun z => L2.eqV z y := countU rv fys
  refine ⟨.int (ys.countP fun z => L2.eqV z y : Nat), H, I.tok _, ⟨s.toks, ?_⟩, q⟩
  show Value.int ((its.toArray.toList.countP (eqU y) : Nat) : Int) s.toks = _
  rw [ec]
theorem Dts.countV {K : PySem.W.Frag} {G : Hp} {A : List Addr} {x : V} {d : Dat} (h : Dt K G A x d) (f : flat d = true) : ∀ {vs : List V} {ds : List Dat}, Dts K G A vs ds → ds.all flat = true → vs.all L2.flatV = true ∧ (vs.countP fun z => L2.eqV z x) = ds.countP fun z => eqD z d
  | _, _, .nil, _ => ⟨rfl, rfl⟩
  | _, _, .cons q r, a => by
    rw [List.all_cons, Bool.and_eq_true] at a
    obtain ⟨h1, h2⟩ := Dts.countV h f r a.2
    refine ⟨by rw [List.all_cons, q.flatV a.1, h1]; rfl, ?_⟩
    rw [List.countP_cons, List.countP_cons, h2, q.eqV h a.1 f]
@[simp] def lstOf (ms : Ms) (r : Dat) : Option (List Dat) := match look ms r with
  | some (.lst ds) => some ds
  | _ => none
theorem lstOf_look {ms : Ms} {r : Dat} {ds : List Dat} (h : lstOf ms r = some ds) : look ms r = some (.lst ds) := by
  unfold lstOf at h
  split at h
  · rename_i e; cases h; exact e
  · cases h
@[simp] def wCnt (wo we : WE) : WE := fun ρ ms k => wo ρ ms fun r ms1 => match lstOf ms1 r with
  | some _ => we ρ ms1 fun d ms2 => (match lstOf ms2 r with
    | some ds => flat d = true ∧ ds.all flat = true ∧ k (.int (ds.countP fun z => eqD z d : Nat)) ms2
    | none => False)
  | none => False
theorem tyL_of {W : Wd} {ms : Ms} {v : V} {r : Dat} {ds : List Dat} {K : PySem.W.Frag} (O : Own W ms) (ok : RvOk W v r) (h : lstOf ms r = some ds) : tyV K "list" v W.H := by
  obtain ⟨a, xs, rfl, h1, _⟩ := O.list ok (lstOf_look h)
  exact .inl ⟨rfl, _, SqL.of h1⟩
theorem de_count {o e : Expr} {apos cpos : Pos} {wo we : WE} (ho : DE X o wo) (he : DE X e we) (hbase : attributeBase o "count" X.X.env (eval o X.X.env) = eval o X.X.env := by rfl) (hs : starEach [e] X.X.env = (false, eval e X.X.env) :: starEach [] X.X.env := by rfl) (hpl : (backTo cpos (starEach [] X.X.env)).any (·.1) = false := by rfl)
    (hfew : ((backTo cpos (starEach [e] X.X.env)).all (fun x => !x.1) && (backToKw cpos (keywordEach [] X.X.env)).all (fun x => x.1.isSome)
      && decide ([e].length + ([] : List Keyword).length + (if ([] : List Keyword).isEmpty then 0 else 1) < 30)) = true := by rfl) (hline : (apos.endLine == cpos.line) = true := by rfl) :
    DE X (.Call (.Attribute o "count" apos) [e] [] cpos) (wCnt wo we) := by
  obtain ⟨t, p, l⟩ := ho
  obtain ⟨te, pe, le⟩ := he
  refine ⟨_, pe_bm PySem.F.plainAttrs_list PySem.F.slot_list_count PySem.F.type_list_count mt_lcountF p (pa_cons pe pa_nil hs) hbase hfew hline hs hpl, fun W σ ρ ms Q k hK R O hw q => ?_⟩
  refine l W σ ρ ms _ _ hK R O hw fun W1 v r ms1 e1 O1 ok1 h1 => ?_
  split at h1
  · rename_i d0 ek
    refine ⟨tyL_of O1 ok1 ek, le W1 σ ρ ms1 _ _ (e1.s.trans hK) (R.mono e1) O1 h1 fun W2 u d ms2 e2 O2 ok2 h2 => ?_⟩
    split at h2
    · rename_i ds ek2
      obtain ⟨f1, f2, h2⟩ := h2
      have hKK : X.X.K = W2.K := (congrArg Sg.K (e2.s.trans (e1.s.trans hK))).symm
      obtain ⟨a, xs, rfl, g1, g2⟩ := O2.list (up_v e2 ok1) (lstOf_look ek2)
      obtain ⟨c1, c2⟩ := Dts.countV ok2 f1 g2 f2
      exact ⟨a, xs, u, rfl, rfl, SqL.of g1, ok2.flatV f1, c1, by rw [c2]; exact q W2 _ (.int _) ms2 (e1.trans e2) O2 (.int _) h2⟩
    · exact h2.elim
  · exact h1.elim
@[simp] def wIdx (wo we : WE) : WE := fun ρ ms k => wo ρ ms fun r ms1 => match lstOf ms1 r with
  | some _ => we ρ ms1 fun d ms2 => (match lstOf ms2 r with
    | some ds => ∃ (j : Nat) (z : Dat), flat d = true ∧ ds.all flat = true ∧ ds[j]? = some z ∧ eqD z d = true ∧ (∀ (m : Nat) (z' : Dat), m < j → ds[m]? = some z' → eqD z' d = false) ∧ k (.int j) ms2
    | none => False)
  | none => False
theorem de_index {o e : Expr} {apos cpos : Pos} {wo we : WE} (ho : DE X o wo) (he : DE X e we) (hbase : attributeBase o "index" X.X.env (eval o X.X.env) = eval o X.X.env := by rfl) (hs : starEach [e] X.X.env = (false, eval e X.X.env) :: starEach [] X.X.env := by rfl) (hpl : (backTo cpos (starEach [] X.X.env)).any (·.1) = false := by rfl)
    (hfew : ((backTo cpos (starEach [e] X.X.env)).all (fun x => !x.1) && (backToKw cpos (keywordEach [] X.X.env)).all (fun x => x.1.isSome)
      && decide ([e].length + ([] : List Keyword).length + (if ([] : List Keyword).isEmpty then 0 else 1) < 30)) = true := by rfl) (hline : (apos.endLine == cpos.line) = true := by rfl) :
    DE X (.Call (.Attribute o "index" apos) [e] [] cpos) (wIdx wo we) := by
  obtain ⟨t, p, l⟩ := ho
  obtain ⟨te, pe, le⟩ := he
  refine ⟨_, pe_bm PySem.F.plainAttrs_list PySem.F.slot_list_index PySem.F.type_list_index mt_index p (pa_cons pe pa_nil hs) hbase hfew hline hs hpl, fun W σ ρ ms Q k hK R O hw q => ?_⟩
  refine l W σ ρ ms _ _ hK R O hw fun W1 v r ms1 e1 O1 ok1 h1 => ?_
  split at h1
  · rename_i d0 ek
    refine ⟨tyL_of O1 ok1 ek, le W1 σ ρ ms1 _ _ (e1.s.trans hK) (R.mono e1) O1 h1 fun W2 u d ms2 e2 O2 ok2 h2 => ?_⟩
    split at h2
    · rename_i ds ek2
      obtain ⟨j, z, f1, f2, hz, hzj, hno, h2⟩ := h2
      obtain ⟨a, xs, rfl, g1, g2⟩ := O2.list (up_v e2 ok1) (lstOf_look ek2)
      obtain ⟨c1, c2⟩ := Dts.countV ok2 f1 g2 f2
      obtain ⟨vz, hvz, okz⟩ := g2.get hz
      refine ⟨a, xs, u, j, vz, rfl, rfl, SqL.of g1, ok2.flatV f1, c1, hvz, ?_, fun m z' hm hz' => ?_, q W2 _ (.int _) ms2 (e1.trans e2) O2 (.int _) h2⟩
      · rw [okz.eqV ok2 (List.all_eq_true.mp f2 z (List.mem_of_getElem? hz)) f1]; exact hzj
      · obtain ⟨dz, hdz, okz'⟩ := g2.get' hz'
        rw [okz'.eqV ok2 (List.all_eq_true.mp f2 dz (List.mem_of_getElem? hdz)) f1]; exact hno m dz hm hdz
    · exact h2.elim
  · exact h1.elim
/-! ### sorted(d), texts -/
def rSortDS : List V → Hp → VK → Prop := fun xs H Q => ∃ (a : Addr) (kvs : List (Key × V)) (ks : List Str), xs = [.ref a] ∧ Rd H a (.dK kvs) ∧ kvs.map (·.1) = ks.map Sum.inr ∧ ks.length < 64 ∧ ∀ ys p, ys.Perm ks → sortedS ys = true → H p = none → Q (.ref p) (upd H p (.lst (ys.map V.str)))
theorem RkOk.keysEq {κ : Type} {W : Wd} : ∀ {xs : List (κ × V)} {ds : List (κ × Dat)}, RkOk W xs ds → xs.map (·.1) = ds.map (·.1)
  | _, _, .nil => rfl
  | _, _, .cons _ r => by rw [List.map_cons, List.map_cons, RkOk.keysEq r]
@[simp] def wSortDS : WC := fun rs ms k => match rs with
  | [r] => (match dicOf ms r with
    | some kvs => ∃ ks : List Str, kvs.map (·.1) = ks.map Sum.inr ∧ ks.length < 64 ∧ ∀ ys : List Str, ys.Perm ks → sortedS ys = true → k (.lst (ys.map Dat.str)) ms
    | none => False)
  | _ => False
theorem dc_sortDS (hc : X.X.calm = true) : CallR X.X (.builtin "sorted") rSortDS ∧ LC X.S rSortDS wSortDS := ⟨call_sortedD hc, fun W vs rs ms Q k hK ok O hw q => by
  unfold wSortDS at hw
  split at hw
  · obtain ⟨v, rfl, o1⟩ := ok.one
    split at hw
    · rename_i kvs e
      obtain ⟨ks, hks, hl, hk⟩ := hw
      obtain ⟨a, xs, rfl, h1, h2⟩ := O.dict o1 (dicOf_look e)
      refine ⟨a, xs, ks, rfl, h1, by rw [h2.keysEq]; exact hks, hl, fun ys p hp hs hnew => ?_⟩
      obtain ⟨O2, e2⟩ := O.lay (o := .lst (ys.map V.str)) hnew
      exact q (W.lay p _) (.ref p) (.lst (ys.map Dat.str)) ms e2 O2 (.lst upd_same (dts_strs ys)) (hk ys hp hs)
    · exact hw.elim
  · exact hw.elim⟩
/-! ### == of dicts -/
def okV (K : PySem.W.Frag) (H : Hp) (v : V) (d : PyData) : Prop := Dp K H v d ∧ SeqAt.shaped d = true
def getP (ls : List (Key × PyData)) (k : Key) : Option PyData := (ls.find? fun p => decide (p.1 = k)).map (·.2)
inductive DpK (K : PySem.W.Frag) (H : Hp) : List (Key × V) → List (Key × PyData) → Prop
  | nil : DpK K H [] []
  | cons {k : Key} {v : V} {d : PyData} {r : List (Key × V)} {ds : List (Key × PyData)} : Dp K H v d → SeqAt.shaped d = true → DpK K H r ds → DpK K H ((k, v) :: r) ((k, d) :: ds)
def hitsP (ls : List (Key × PyData)) : List (Key × PyData) → Bool
  | [] => true
  | (k, d) :: r => match getP ls k with
    | none => false
    | some e => PyData.eqv d e && hitsP ls r
def eqvDic (ks ls : List (Key × PyData)) : Bool := ks.length == ls.length && hitsP ls ks
theorem DpK.val {K : PySem.W.Frag} {H : Hp} {k : Key} : ∀ {xs : List (Key × V)} {ds : List (Key × PyData)}, DpK K H xs ds → (getP ds k = none → valV xs k = none) ∧ ∀ d, getP ds k = some d → ∃ v, valV xs k = some v ∧ Dp K H v d ∧ SeqAt.shaped d = true
  | _, _, .nil => ⟨fun _ => rfl, fun d h => by cases h⟩
  | _, _, .cons (k := j) (v := v) (d := d) (r := xs) (ds := ds) h s r => by
    obtain ⟨h1, h2⟩ := DpK.val (k := k) r
    by_cases z : j = k
    · subst z
      refine ⟨fun e => by simp [getP] at e, fun d' e => ⟨v, valV_pos rfl, ?_⟩⟩
      have : d = d' := by simpa [getP] using e
      subst this; exact ⟨h, s⟩
    · have e1 : getP ((j, d) :: ds) k = getP ds k := by simp [getP, z]
      have e2 : valV ((j, v) :: xs) k = valV xs k := valV_neg (fun q => z q)
      rw [e1, e2]; exact ⟨h1, h2⟩
theorem DpK.length {K : PySem.W.Frag} {H : Hp} : ∀ {xs : List (Key × V)} {ds : List (Key × PyData)}, DpK K H xs ds → xs.length = ds.length
  | _, _, .nil => rfl
  | _, _, .cons _ _ r => by simp [DpK.length r]
theorem hits_dp {X : Cx} {pins : List (Addr × Obj)} {σ : L2.St} {H : Hp} {s : Shared} (I : Inv X pins σ H s) (hu : X.A.units + 65 < cLine) {ys : List (Key × V)} {ls : List (Key × PyData)} {vb : List (Key × Value)} (rb : KV ys vb) (db : DpK X.K H ys ls) :
    ∀ {xs : List (Key × V)} {ks : List (Key × PyData)} {va : List (Key × Value)}, KV xs va → DpK X.K H xs ks → PySem.W.KeqHits X.A.in1 s vb va (hitsP ls ks) := by
  intro xs ks va ra
  unfold KV at ra
  induction ra generalizing ks with
  | nil => intro d; cases d; exact .nil
  | @cons p q ps qs h t ih =>
    intro d
    obtain ⟨h1, h2⟩ := h
    obtain ⟨k, v⟩ := q
    cases d with
    | @cons k0 v0 d0 _ ds0 hd sd r =>
      have h1' : k0 = k := h1
      subst h1'
      have ih' := ih r
      have rr : RelO (valV ys k0) (valueAt vb k0) := rb.val k0
      unfold hitsP
      cases e : getP ls k0 with
      | none =>
        rw [(db.val (k := k0)).1 e] at rr
        exact .miss rr.none_of
      | some e1 =>
        obtain ⟨w, hw, hdw, sw⟩ := (db.val (k := k0)).2 e1 e
        rw [hw] at rr
        obtain ⟨y, hy, ry⟩ := rr.some_of
        obtain ⟨as, r1⟩ := Dp.reads I d0 v0 v hd h2
        obtain ⟨bs, r2⟩ := Dp.reads I e1 w y hdw ry
        exact .hit hy (SeqAt.eqAt_reads d0 e1 X.A.in1 s v y as bs r1 r2 (SeqAt.canLay_of_shaped sd) (SeqAt.canLay_of_shaped sw) (SeqAt.room_of_shaped sd (by show X.A.units + 1 + 64 < cLine; omega))) ih'
def rEqDD (K : PySem.W.Frag) (neg : Bool) : R2 := fun x y H Q => ∃ a b xs ys ks ls, x = .ref a ∧ y = .ref b ∧ Rd H a (.dK xs) ∧ Rd H b (.dK ys) ∧ DpK K H xs ks ∧ DpK K H ys ls ∧ Q (.bl (if neg then !eqvDic ks ls else eqvDic ks ls)) H
theorem op_eqDD {X : Cx} (hu : X.A.units + 65 < cLine) : OpR X (compareOp .Eq) (rEqDD X.K false) := by
  intro pins s σ H x y v u Q I rx ry h
  obtain ⟨a, b, xs, ys, ks, ls, rfl, rfl, ea, eb, da, db, q⟩ := h
  obtain rfl : v = Value.ref a := rx
  obtain rfl : u = Value.ref b := ry
  obtain ⟨_, ya, va, ra, oa⟩ := dk_rd I.hok ea
  obtain ⟨_, yb, vb, rb, ob⟩ := dk_rd I.hok eb
  exact PySem.W.keq_eq (knd := mixKind X.prog X.w) (r := hitsP ls ks) ya yb oa ob (by omega) (fun _ => hits_dp I hu rb db ra da) (fin_bl I q (by simp [eqvDic, ← ra.length, ← rb.length, da.length, db.length]))
theorem op_neDD {X : Cx} (hu : X.A.units + 65 < cLine) : OpR X (compareOp .NotEq) (rEqDD X.K true) := by
  intro pins s σ H x y v u Q I rx ry h
  obtain ⟨a, b, xs, ys, ks, ls, rfl, rfl, ea, eb, da, db, q⟩ := h
  obtain rfl : v = Value.ref a := rx
  obtain rfl : u = Value.ref b := ry
  obtain ⟨_, ya, va, ra, oa⟩ := dk_rd I.hok ea
  obtain ⟨_, yb, vb, rb, ob⟩ := dk_rd I.hok eb
  exact PySem.W.keq_ne (knd := mixKind X.prog X.w) (r := hitsP ls ks) ya yb oa ob (by omega) (fun _ => hits_dp I hu rb db ra da) (fin_bl I q (by simp [eqvDic, ← ra.length, ← rb.length, da.length, db.length]))
def toPyK (kvs : List (Key × Dat)) : List (Key × PyData) := kvs.map fun p => (p.1, toPy p.2)
def okK (kvs : List (Key × Dat)) : Bool := kvs.all fun p => plain p.2 && SeqAt.shaped (toPy p.2)
theorem RkOk.dpk {W : Wd} {ms : Ms} (O : Own W ms) : ∀ {xs : List (Key × V)} {ds : List (Key × Dat)}, RkOk W xs ds → okK ds = true → DpK W.K W.H xs (toPyK ds)
  | _, _, .nil, _ => .nil
  | _, _, .cons h r, e => by
    simp only [okK, List.all_cons, Bool.and_eq_true] at e
    exact .cons (Dt.dp O.ex h e.1.1) e.1.2 (RkOk.dpk O r (by simp only [okK]; exact e.2))
@[simp] def wEqA (neg : Bool) : WR2 := fun a b ms k => match dicOf ms a, dicOf ms b with
  | some xs, some ys => okK xs = true ∧ okK ys = true ∧ k (.bl (if neg then !eqvDic (toPyK xs) (toPyK ys) else eqvDic (toPyK xs) (toPyK ys))) ms
  | _, _ => if neg then wNe a b ms k else wEq a b ms k
theorem lr_eqDD {S : Sg} {neg : Bool} {W : Wd} {x y : V} {a b : Dat} {ms : Ms} {Q : VK} {k : KR} {xs ys : List (Key × Dat)} (hK : W.S = S) (oa : RvOk W x a) (ob : RvOk W y b) (O : Own W ms) (e1 : dicOf ms a = some xs) (e2 : dicOf ms b = some ys) (f1 : okK xs = true) (f2 : okK ys = true) (hk : k (.bl (if neg then !eqvDic (toPyK xs) (toPyK ys) else eqvDic (toPyK xs) (toPyK ys))) ms)
    (q : ∀ W' v r ms', Ext W W' → Own W' ms' → RvOk W' v r → k r ms' → Q v W'.H) : rEqDD S.K neg x y W.H Q := by
  obtain ⟨p, us, rfl, h1, h2⟩ := O.dict oa (dicOf_look e1)
  obtain ⟨p', us', rfl, h1', h2'⟩ := O.dict ob (dicOf_look e2)
  subst hK
  exact ⟨p, p', us, us', _, _, rfl, rfl, h1, h1', h2.dpk O f1, h2'.dpk O f2, q W _ (.bl _) ms (Ext.refl W) O (.bl _) hk⟩
theorem do_eqA (hu : X.X.A.units + 65 < cLine) : OpR X.X (compareOp .Eq) (fun x y H Q => rEqD X.X.K x y H Q ∨ rEqDD X.X.K false x y H Q) ∧ LR2 X.S (fun x y H Q => rEqD X.X.K x y H Q ∨ rEqDD X.X.K false x y H Q) (wEqA false) := ⟨OpR.or (op_eqD (by omega)) (op_eqDD hu), fun W x y a b ms Q k hK oa ob O hw q => by
  unfold wEqA at hw
  split at hw
  · rename_i xs ys e1 e2
    obtain ⟨f1, f2, hk⟩ := hw
    exact .inr (lr_eqDD hK oa ob O e1 e2 f1 f2 hk q)
  · exact .inl ((do_eq (X := X) (by omega)).2 W x y a b ms Q k hK oa ob O hw q)⟩
theorem do_neA (hu : X.X.A.units + 65 < cLine) : OpR X.X (compareOp .NotEq) (fun x y H Q => rNeD X.X.K x y H Q ∨ rEqDD X.X.K true x y H Q) ∧ LR2 X.S (fun x y H Q => rNeD X.X.K x y H Q ∨ rEqDD X.X.K true x y H Q) (wEqA true) := ⟨OpR.or (op_neD (by omega)) (op_neDD hu), fun W x y a b ms Q k hK oa ob O hw q => by
  unfold wEqA at hw
  split at hw
  · rename_i xs ys e1 e2
    obtain ⟨f1, f2, hk⟩ := hw
    exact .inr (lr_eqDD hK oa ob O e1 e2 f1 f2 hk q)
  · exact .inl ((do_ne (X := X) (by omega)).2 W x y a b ms Q k hK oa ob O hw q)⟩
end
end Sy
namespace Sy
open PySem PySem.Spec PyProof.Rows L2
/-! ## [e for x in xs if .. for y in ys if ..] -/
@[simp] def lc2W (wg : WG) (wt : WT) (wi1 : WI) (wg1 : WG) (wt1 : WT) (we : WE) (vs1 : List Nat) (ρ : Env) (k : List Dat → Ms → Prop) : List Dat → List Dat → Ms → Prop
  | [], acc, ms => k acc ms
  | d :: ds, acc, ms => wg d ρ ms fun ρ1 ms1 => wt ρ1 ms1 fun b ms2 => if b = true then wi1 ρ1 ms2 fun es ms3 => lcW wg1 wt1 we (wipeE ρ1 vs1) (fun acc' ms4 => lc2W wg wt wi1 wg1 wt1 we vs1 ρ k ds acc' ms4) es acc ms3 else lc2W wg wt wi1 wg1 wt1 we vs1 ρ k ds acc ms2
@[simp] def wLc2 (wi : WI) (wg : WG) (wt : WT) (wi1 : WI) (wg1 : WG) (wt1 : WT) (we : WE) (vs vs1 : List Nat) : WE := fun ρ ms k => wi ρ ms fun ds ms1 => lc2W wg wt wi1 wg1 wt1 we vs1 (wipeE ρ vs) (fun acc ms2 => k (.lst acc) ms2) ds [] ms1
theorem Held.e0hold {W1 W' : Wd} {D : Addr} {xs : List V} {u : HO} {ms : Ms} (h : Held W1 W' D (.lst xs)) (O : Own W' ms) : Ext0 W' (W'.hold D u) := ⟨rfl, Same.refl _, fun _ _ x => x, fun a ob v e => by
  show upd W'.H D u a = _
  rw [upd_ne (fun z => by subst z; rw [h.at O] at e; cases e)]; exact e⟩
theorem lc2_go {S : Sg} {ti ti1 : TI} {g g1 : TG} {tt tt1 : TT} {te : TE} {wi wi1 : WI} {wg wg1 : WG} {wt wt1 : WT} {we : WE} {vs ss vs1 ss1 : List Nat} (hss : ∀ i ∈ ss, i ∈ vs) (hss1 : ∀ i ∈ ss1, i ∈ vs1) (li : LI S ti wi) (lg : LG (S.nv) g wg ss) (lt : LT (S.nv) tt wt)
    (li1 : LI (S.nv) ti1 wi1) (lg1 : LG (S.nv) g1 wg1 ss1) (lt1 : LT (S.nv) tt1 wt1) (le : LE (S.nv) te we)
    (W : Wd) (σ : L2.St) (ρ : Env) (ms : Ms) (Q : VK) (kf : List Dat → Ms → Prop) (hK : W.S = S) (R : Rel W σ ρ) (O : Own W ms) (hw : wi ρ ms fun ds ms1 => lc2W wg wt wi1 wg1 wt1 we vs1 (wipeE ρ vs) kf ds [] ms1)
    (q : ∀ W1 W' ms' D xs acc, Ext W W1 → Held W1 W' D (.lst xs) → W'.K = W1.K → Own W' ms' → RvsOk W' xs acc → kf acc ms' → Q (.ref D) W'.H) : tLc2 ti g tt ti1 g1 tt1 te vs vs1 σ W.H Q := by
  refine li W σ ρ ms _ _ hK R O hw fun W1 J ds ms1 e1 O1 wk h1 => ?_
  intro D hD
  have hS1 : W1.S = S := e1.s.trans hK
  obtain ⟨hd0, Oh0⟩ := Held.start (W0 := W1) (o := .lst []) O1 hD
  refine ⟨fun i m H => m = ds.length - i ∧ i ≤ ds.length ∧ ∃ W' ms' xs acc, H = W'.H ∧ W'.S = (S.nv) ∧ Held W1 W' D (.lst xs) ∧ Own W' ms' ∧ RvsOk W' xs acc ∧ lc2W wg wt wi1 wg1 wt1 we vs1 (wipeE ρ vs) kf (ds.drop i) acc ms',
    ⟨ds.length, by simp, Nat.zero_le _, (W1.hold D (.lst [])).wish never, ms1, [], [], rfl, by show ({ W1.S with Z := never } : Sg) = _; rw [hS1]; rfl, ⟨hd0.new, hd0.gn, hd0.pn, hd0.e0.trans wish_e0, hd0.p⟩, Oh0.wish, .nil, h1⟩, ?_⟩
  rintro i m H' ⟨rfl, hi, W', ms', xs, acc, rfl, hS, hh, O', hacc, hf⟩
  have hk' : W'.K = W1.K := by show W'.S.K = W1.S.K; rw [hS, hS1]; rfl
  by_cases hlt : i < ds.length
  · rw [List.drop_eq_getElem_cons hlt] at hf
    refine .inr ⟨wk.goes W' ms' i hh.e0 O' hlt, fun H => ∃ W' ms' xs acc, H = W'.H ∧ W'.S = (S.nv) ∧ Held W1 W' D (.lst xs) ∧ Own W' ms' ∧ RvsOk W' xs acc ∧ lc2W wg wt wi1 wg1 wt1 we vs1 (wipeE ρ vs) kf (ds.drop (i + 1)) acc ms', fun H2 h2 => ⟨ds.length - (i + 1), by omega, rfl, hlt, h2⟩, fun x H2 y => ?_⟩
    obtain ⟨W2, e2, O2, rfl, hd⟩ := wk.yields W' ms' i x H2 _ hh.e0 O' (List.getElem?_eq_getElem hlt) y
    have RS : RelS W2 (L2.wipe σ vs) (wipeE ρ vs).sl := (((R.sl.low e1.low).low hh.e0.low).low e2.low).wipe vs
    refine lg W2 (L2.wipe σ vs) (wipeE ρ vs) ms' x ds[i] _ _ (e2.s.trans hS) ⟨RS, never_x, ((R.hd.low e1.low (by rw [e1.s])).low (hh.e0.low) (by rw [hS, hS1]; rfl)).low e2.low (by rw [e2.s])⟩ O2 hd hf fun W3 σ3 ρ3 ms3 e3 O3 R3 n3 f3 h3 => ?_
    refine ⟨wipe_same hss n3 f3, ?_⟩
    refine lt W3 σ3 ρ3 ms3 _ _ (e3.s.trans (e2.s.trans hS)) R3 O3 h3 fun W4 b ms4 e4 O4 h4 => ?_
    have e24 : Ext W' W4 := (e2.trans e3).trans e4
    cases b with
    | false =>
      rw [if_neg Bool.false_ne_true] at h4 ⊢
      exact ⟨W4, ms4, xs, acc, rfl, e24.s.trans hS, hh.on e24, O4, up_vs e24 hacc, h4⟩
    | true =>
      rw [if_pos rfl] at h4 ⊢
      refine li1 W4 σ3 ρ3 ms4 _ _ (e24.s.trans hS) (R3.mono e4) O4 h4 fun W5 J1 es ms5 e5 O5 wk1 h5 => ?_
      have e25 : Ext W' W5 := e24.trans e5
      have R5 : Rel W5 σ3 ρ3 := (R3.mono e4).mono e5
      have hS5 : W5.S = S.nv := e25.s.trans hS
      have hh5 := hh.on e25
      refine ⟨fun j k H => k = es.length - j ∧ j ≤ es.length ∧ ∃ V ms' xs acc, H = V.H ∧ V.S = (S.nv) ∧ Held W1 V D (.lst xs) ∧ Ext0 W5 V ∧ Own V ms' ∧ RvsOk V xs acc ∧ lcW wg1 wt1 we (wipeE ρ3 vs1) (fun acc' ms4 => lc2W wg wt wi1 wg1 wt1 we vs1 (wipeE ρ vs) kf (ds.drop (i + 1)) acc' ms4) (es.drop j) acc ms',
        ⟨es.length, by simp, Nat.zero_le _, W5, ms5, xs, acc, rfl, hS5, hh5, Ext0.refl _, O5, up_vs e25 hacc, h5⟩, ?_⟩
      rintro j k H6 ⟨rfl, hj, V, msv, xsv, accv, rfl, hSv, hhv, ev, Ov, haccv, hfv⟩
      by_cases hlt1 : j < es.length
      · rw [List.drop_eq_getElem_cons hlt1] at hfv
        refine .inr ⟨wk1.goes V msv j ev Ov hlt1, fun H => ∃ V ms' xs acc, H = V.H ∧ V.S = (S.nv) ∧ Held W1 V D (.lst xs) ∧ Ext0 W5 V ∧ Own V ms' ∧ RvsOk V xs acc ∧ lcW wg1 wt1 we (wipeE ρ3 vs1) (fun acc' ms4 => lc2W wg wt wi1 wg1 wt1 we vs1 (wipeE ρ vs) kf (ds.drop (i + 1)) acc' ms4) (es.drop (j + 1)) acc ms', fun H2 h2 => ⟨es.length - (j + 1), by omega, rfl, hlt1, h2⟩, fun x1 H7 y1 => ?_⟩
        obtain ⟨V2, d2, P2, rfl, hdv⟩ := wk1.yields V msv j x1 H7 _ ev Ov (List.getElem?_eq_getElem hlt1) y1
        have RSv : RelS V2 (L2.wipe σ3 vs1) (wipeE ρ3 vs1).sl := ((R5.sl.low ev.low).low d2.low).wipe vs1
        refine lg1 V2 (L2.wipe σ3 vs1) (wipeE ρ3 vs1) msv x1 es[j] _ _ (d2.s.trans hSv) ⟨RSv, never_x, (R5.hd.low ev.low (by rw [hSv, hS5])).low d2.low (by rw [d2.s])⟩ P2 hdv hfv fun V3 τ3 θ3 ns3 d3 P3 T3 m3 g3 k3 => ?_
        refine ⟨wipe_same hss1 m3 g3, ?_⟩
        refine lt1 V3 τ3 θ3 ns3 _ _ (d3.s.trans (d2.s.trans hSv)) T3 P3 k3 fun V4 b ns4 d4 P4 k4 => ?_
        have d24 : Ext V V4 := (d2.trans d3).trans d4
        cases b with
        | false =>
          rw [if_neg Bool.false_ne_true] at k4 ⊢
          exact ⟨V4, ns4, xsv, accv, rfl, d24.s.trans hSv, hhv.on d24, ev.trans d24.e0, P4, up_vs d24 haccv, k4⟩
        | true =>
          rw [if_pos rfl] at k4 ⊢
          refine le V4 τ3 θ3 ns4 _ _ (d24.s.trans hSv) (T3.mono d4) P4 k4 fun V5 v r ns5 d5 P5 ok5 k5 => ?_
          have d25 : Ext V V5 := d24.trans d5
          have hv5 := hhv.on d25
          have ha5 := up_vs d25 haccv
          obtain ⟨hv6, P6⟩ := hv5.put (u := .lst (xsv ++ [v])) P5
          refine ⟨xsv, hv5.at P5, by rw [ha5.length]; exact k5.1, V5.hold D (.lst (xsv ++ [v])), ns5, xsv ++ [v], accv ++ [r], rfl, d25.s.trans hSv, hv6, (ev.trans d25.e0).trans (hv5.e0hold P5), P6, ?_, k5.2⟩
          exact low_vs hold_low (Dts.append ha5 (.cons ok5 .nil))
      · have hj' : j = es.length := by omega
        subst hj'
        rw [List.drop_length] at hfv
        exact .inl ⟨wk1.stops V msv ev Ov, V, msv, xsv, accv, rfl, hSv, hhv, Ov, haccv, hfv⟩
  · have hi' : i = ds.length := by omega
    subst hi'
    rw [List.drop_length] at hf
    exact .inl ⟨wk.stops W' ms' hh.e0 O', q W1 W' ms' D xs acc e1 hh hk' O' hacc hf⟩
theorem le_lc2 {S : Sg} {ti ti1 : TI} {g g1 : TG} {tt tt1 : TT} {te : TE} {wi wi1 : WI} {wg wg1 : WG} {wt wt1 : WT} {we : WE} {vs ss vs1 ss1 : List Nat} (hss : ∀ i ∈ ss, i ∈ vs) (hss1 : ∀ i ∈ ss1, i ∈ vs1) (li : LI S ti wi) (lg : LG (S.nv) g wg ss) (lt : LT (S.nv) tt wt)
    (li1 : LI (S.nv) ti1 wi1) (lg1 : LG (S.nv) g1 wg1 ss1) (lt1 : LT (S.nv) tt1 wt1) (le : LE (S.nv) te we) : LE S (tLc2 ti g tt ti1 g1 tt1 te vs vs1) (wLc2 wi wg wt wi1 wg1 wt1 we vs vs1) :=
  fun W σ ρ ms Q k hK R O hw q => lc2_go hss hss1 li lg lt li1 lg1 lt1 le W σ ρ ms Q _ hK R O hw fun W1 W' ms' D xs acc e1 hh hk O' ha hkf => by
    obtain ⟨e, O2, low⟩ := hh.lay (u := .lst xs) O' hk
    have := q (W'.laid W1.S W1.P D (.lst xs)) (.ref D) (.lst acc) ms' (e1.trans e) O2 (.lst upd_same (low_vs low ha)) hkf
    have z : (W'.laid W1.S W1.P D (.lst xs)).H = W'.H := upd_id (hh.at O')
    rw [z] at this; exact this
def tiOf (S : Sg) (w : WI) : TI := fun σ H R => ∃ (W : Wd) (ρ : Env) (ms : Ms) (k : List Dat → Ms → Prop), W.H = H ∧ W.S = S ∧ Rel W σ ρ ∧ Own W ms ∧ w ρ ms k ∧ ∀ W' J ds ms', Ext W W' → Own W' ms' → WalkD W' J ds → k ds ms' → R J W'.H
theorem li_of {S : Sg} {w : WI} : LI S (tiOf S w) w := fun W σ ρ ms R k hK Rl O hw q => ⟨W, ρ, ms, k, rfl, hK, Rl, O, hw, q⟩
section
variable {X : Cy} {pos : Pos}
theorem DI.pi {tg e : Expr} {w : WI} (h : DI X tg e w) : PI X.X tg e (tiOf X.S w) := by
  obtain ⟨t, p, l⟩ := h
  exact ⟨fun pins s σ H R I ⟨W, ρ, ms, k, hH, hK, Rl, O, hw, q⟩ => p.run pins s σ H R I (by rw [← hH]; exact l W σ ρ ms R k hK Rl O hw q)⟩
theorem de_lc2 {elt tg iter tg1 iter1 : Expr} {ifs ifs1 : List Expr} {scope : Scope} {own : List (Str × Nat)} {vs1 : List Nat} {wi wi1 : WI} {wg wg1 : WG} {wt wt1 : WT} {we : WE} {ss ss1 : List Nat} (hc : X.X.calm = true) (hN : X.X.N.Nodup) (hi : DI X tg iter wi) (ok : BlkOk X.X.N X.X.env.scope scope own)
    (hg : ∀ s H C cl fp, DG (X.blk s H scope cl C fp) tg wg ss) (ht : ∀ s H C cl fp, DTs (X.blk s H scope cl C fp) ifs wt)
    (hi1 : ∀ s H C cl fp, DI (X.blk s H scope cl C fp) tg1 iter1 wi1) (hg1 : ∀ s H C cl fp, DG (X.blk s H scope cl C fp) tg1 wg1 ss1) (ht1 : ∀ s H C cl fp, DTs (X.blk s H scope cl C fp) ifs1 wt1)
    (he : ∀ s H C cl fp, DE (X.blk s H scope cl C fp) elt we) (hv : ∀ i ∈ vs1, i ∈ own.map (·.2) := by decide) (hss : ∀ i ∈ ss, i ∈ own.map (·.2) := by decide) (hss1 : ∀ i ∈ ss1, i ∈ vs1 := by decide) (hs : ∀ x, foldedSetIterable iter X.X.env x = pure x := by intro _; rfl) (hs1 : ∀ env x, foldedSetIterable iter1 env x = pure x := by intro _ _; rfl) :
    DE X (.ListComp elt [⟨tg, iter, ifs, 0⟩, ⟨tg1, iter1, ifs1, 0⟩] scope pos) (wLc2 wi wg wt wi1 wg1 wt1 we (own.map (·.2)) vs1) := by
  obtain ⟨ti, pi, li⟩ := hi
  exact ⟨_, pe_lc2 (wi1 := tiOf (X.S.nv) wi1) (g := tgOf (X.S.nv) wg ss) (g1 := tgOf (X.S.nv) wg1 ss1) (tt := ttOf (X.S.nv) wt) (tt1 := ttOf (X.S.nv) wt1) (te := teOf (X.S.nv) we) hc hN pi ok hv (fun s H C cl fp => (hg s H C cl fp).pg) (fun s H C cl fp => (ht s H C cl fp).pts) (fun s H C cl fp => (hi1 s H C cl fp).pi) (fun s H C cl fp => (hg1 s H C cl fp).pg) (fun s H C cl fp => (ht1 s H C cl fp).pts) (fun s H C cl fp => (he s H C cl fp).pe) hs hs1, le_lc2 hss hss1 li lg_of lt_of li_of lg_of lt_of le_of⟩
theorem ds_setLc2 {i : Nat} {y : Str} {py : Pos} {elt tg iter tg1 iter1 : Expr} {ifs ifs1 : List Expr} {scope : Scope} {own : List (Str × Nat)} {vs1 : List Nat} {pos spos : Pos} {wi wi1 : WI} {wg wg1 : WG} {wt wt1 : WT} {we : WE} {ss ss1 : List Nat} (hc : X.X.calm = true) (hN : X.X.N.Nodup) (hy : X.X.N[i]? = some y) (hyl : X.X.env.scope.names.lookup y = some .local)
    (hsw : swapsWith (.ListComp elt [⟨tg, iter, ifs, 0⟩, ⟨tg1, iter1, ifs1, 0⟩] scope pos) (some (.Name y py)) spos.line X.X.env = pure true) (hi : DI X tg iter wi) (ok : BlkOk X.X.N X.X.env.scope scope own)
    (hg : ∀ s H C cl fp, DG (X.blk s H scope cl C fp) tg wg ss) (ht : ∀ s H C cl fp, DTs (X.blk s H scope cl C fp) ifs wt)
    (hi1 : ∀ s H C cl fp, DI (X.blk s H scope cl C fp) tg1 iter1 wi1) (hg1 : ∀ s H C cl fp, DG (X.blk s H scope cl C fp) tg1 wg1 ss1) (ht1 : ∀ s H C cl fp, DTs (X.blk s H scope cl C fp) ifs1 wt1)
    (he : ∀ s H C cl fp, DE (X.blk s H scope cl C fp) elt we) (hv : ∀ i ∈ vs1, i ∈ own.map (·.2) := by decide) (hss : ∀ i ∈ ss, i ∈ own.map (·.2) := by decide) (hss1 : ∀ i ∈ ss1, i ∈ vs1 := by decide) (hs : ∀ x, foldedSetIterable iter X.X.env x = pure x := by intro _; rfl) (hs1 : ∀ env x, foldedSetIterable iter1 env x = pure x := by intro _ _; rfl) :
    DS X (.Assign [.Name y py] (.ListComp elt [⟨tg, iter, ifs, 0⟩, ⟨tg1, iter1, ifs1, 0⟩] scope pos) spos) (wAsg (wLc2 wi wg wt wi1 wg1 wt1 we (own.map (·.2)) vs1) (wgName i)) := by
  obtain ⟨ti, pi, li⟩ := hi
  exact ⟨_, L2.ps_setLc2 (wi1 := tiOf (X.S.nv) wi1) (g := tgOf (X.S.nv) wg ss) (g1 := tgOf (X.S.nv) wg1 ss1) (tt := ttOf (X.S.nv) wt) (tt1 := ttOf (X.S.nv) wt1) (te := teOf (X.S.nv) we) hc hN hy hyl hsw pi ok hv (fun s H C cl fp => (hg s H C cl fp).pg) (fun s H C cl fp => (ht s H C cl fp).pts) (fun s H C cl fp => (hi1 s H C cl fp).pi) (fun s H C cl fp => (hg1 s H C cl fp).pg) (fun s H C cl fp => (ht1 s H C cl fp).pts) (fun s H C cl fp => (he s H C cl fp).pe) hs hs1, ls_asg (le_lc2 hss hss1 li lg_of lt_of li_of lg_of lt_of le_of) lg_name⟩
end
end Sy
namespace Sy
open PySem PySem.Spec PyProof.Rows L2
/-! ## an own class: its fields, methods, properties, operators -/
structure Kl where
  nm : Str
  fs : List Str := []
  ms : List Str := []
  ps : List Str := []
  mkq : Bool := false
  ops : List (Operator × Str) := []
def clB (K : PySem.W.Frag) (C : Addr) : Bool := PySem.W.plainGet K C Str.empty && PySem.W.hasDictIn K C && PySem.W.plainOver K C && decide (PySem.W.findIn K (.ref C) "__setattr__" = some (some (.builtin "object.__setattr__")))
theorem clB_ok {K : PySem.W.Frag} {C : Addr} (h : clB K C = true) : Cls K C := by
  unfold clB at h
  simp only [Bool.and_eq_true, decide_eq_true_eq] at h
  exact ⟨h.1.1.1, h.1.1.2, h.1.2, h.2⟩
def meB (K : PySem.W.Frag) (C : Addr) (m : Str) (f : Addr) : Bool := decide (PySem.W.findIn K (.ref C) m = some (some (.ref f))) && PySem.W.isFn K (.ref f) && PySem.W.keepIn K (.ref f)
theorem meB_ok {K : PySem.W.Frag} {C f : Addr} {m : Str} (h : meB K C m f = true) : Meth K C m f := by
  unfold meB at h
  simp only [Bool.and_eq_true, decide_eq_true_eq] at h
  exact ⟨h.1.1, h.1.2, h.2⟩
def mkB (K : PySem.W.Frag) (C f : Addr) : Bool := PySem.W.makesIn K C && decide (PySem.W.findIn K (.ref C) "__init__" = some (some (.ref f))) && PySem.W.isFn K (.ref f) && PySem.W.keepIn K (.ref C)
theorem mkB_ok {K : PySem.W.Frag} {C f : Addr} (h : mkB K C f = true) : Mk K C f := by
  unfold mkB at h
  simp only [Bool.and_eq_true, decide_eq_true_eq] at h
  exact ⟨h.1.1.1, h.1.1.2, h.1.2, h.2⟩
def prB (K : PySem.W.Frag) (C : Addr) (f : Str) (p g : Addr) : Bool := decide (PySem.W.findIn K (.ref C) f = some (some (.ref p))) && decide (PySem.W.specialIn K (.ref p) "__get__" = some (some (.builtin "property.__get__"))) && decide (PySem.W.takesIn K (.ref p) = some true) &&
  (match PySem.W.recIn K p "property" with
    | some (.ref g' :: _) => g' == g
    | _ => false)
theorem prB_ok {K : PySem.W.Frag} {C p g : Addr} {f : Str} (h : prB K C f p g = true) : PropOf K C f p g := by
  unfold prB at h
  simp only [Bool.and_eq_true, decide_eq_true_eq] at h
  refine ⟨h.1.1.1, h.1.1.2, h.1.2, ?_⟩
  have h4 := h.2
  split at h4
  · rename_i g' r e
    rw [← eq_of_beq h4]
    exact ⟨r, e⟩
  · cases h4
structure OpIn (K : PySem.W.Frag) (C : Addr) (op : Operator) (f : Addr) : Prop where
  sf : PySem.W.selfFirst K C = true
  hs : PySem.W.findIn K (.ref C) (PySem.dunder op.info.2) = some (some (.ref f))
  hf : PySem.W.isFn K (.ref f) = true
def opB (K : PySem.W.Frag) (C : Addr) (op : Operator) (f : Addr) : Bool := PySem.W.selfFirst K C && decide (PySem.W.findIn K (.ref C) (PySem.dunder op.info.2) = some (some (.ref f))) && PySem.W.isFn K (.ref f)
theorem opB_ok {K : PySem.W.Frag} {C f : Addr} {op : Operator} (h : opB K C op f = true) : OpIn K C op f := by
  unfold opB at h
  simp only [Bool.and_eq_true, decide_eq_true_eq] at h
  exact ⟨h.1.1, h.1.2, h.2⟩
def klB (K : PySem.W.Frag) (k : Kl) : Bool := clB K (He.ga K k.nm) && (k.fs.all fun f => decide (PySem.W.findIn K (.ref (He.ga K k.nm)) f = some none)) && (k.ms.all fun m => meB K (He.ga K k.nm) m (fA K (k.nm, some m))) &&
  (k.ps.all fun f => prB K (He.ga K k.nm) f (He.ma K (He.ga K k.nm) f) (fA K (k.nm, some f))) && (!k.mkq || mkB K (He.ga K k.nm) (fA K (k.nm, some "__init__"))) && (k.ops.all fun p => opB K (He.ga K k.nm) p.1 (fA K (k.nm, some p.2)))
structure KlOk (K : PySem.W.Frag) (k : Kl) : Prop where
  cls : Cls K (He.ga K k.nm)
  fld : ∀ f ∈ k.fs, NoAttr K (He.ga K k.nm) f
  mth : ∀ m ∈ k.ms, Meth K (He.ga K k.nm) m (fA K (k.nm, some m))
  prp : ∀ f ∈ k.ps, PropOf K (He.ga K k.nm) f (He.ma K (He.ga K k.nm) f) (fA K (k.nm, some f))
  mkr : k.mkq = true → Mk K (He.ga K k.nm) (fA K (k.nm, some "__init__"))
  opr : ∀ p ∈ k.ops, OpIn K (He.ga K k.nm) p.1 (fA K (k.nm, some p.2))
theorem klB_ok {K : PySem.W.Frag} {k : Kl} (h : klB K k = true) : KlOk K k := by
  unfold klB at h
  simp only [Bool.and_eq_true] at h
  obtain ⟨⟨⟨⟨⟨h1, h2⟩, h3⟩, h4⟩, h5⟩, h6⟩ := h
  refine ⟨clB_ok h1, fun f hf => (show PySem.W.findIn K (.ref (He.ga K k.nm)) f = some none from of_decide_eq_true (List.all_eq_true.mp h2 f hf)), fun m hm => meB_ok (List.all_eq_true.mp h3 m hm), fun f hf => prB_ok (List.all_eq_true.mp h4 f hf), fun hk => ?_, fun p hp => opB_ok (List.all_eq_true.mp h6 p hp)⟩
  rw [hk] at h5
  exact mkB_ok (by simpa using h5)
section
variable {X : Cy}
theorem de_binK {op : Operator} {C m : Str} {k : Nat} {ps : List Str} {R : FSpec} {a b : Expr} {wa wb : WE} {pos : Pos} (o : OpIn X.X.K (He.ga X.X.K C) op (fA X.X.K (C, some m))) (D : DefOk X.X.prog X.X.w X.X.K X.X.mg X.X.base (C, some m) ps k R) (hg : X.X.A.guards = some []) (room : Room k X.X.A) (ha : DE X a wa) (hb : DE X b wb) : DE X (.BinOp a op b pos) (wBin C R wa wb) := de_bin o.sf o.hs o.hf D hg room ha hb
end
end Sy
namespace Sy
open PySem PySem.Spec PyProof.Rows L2
/-! a new thing that is frozen at once -/
def fixK (k : KR) : KR := fun r ms1 => match r with
  | .own i => (match ms1[i]? with
    | some (.ins C fs) => k (.ins C fs) (ms1.set i .gone)
    | some (.lst ds) => k (.lst ds) (ms1.set i .gone)
    | some (.dic ds) => k (.dic ds) (ms1.set i .gone)
    | _ => False)
  | x => k x ms1
theorem wFix_eq {we : WE} {ρ : Env} {ms : Ms} {k : KR} : wFix we ρ ms k = we ρ ms (fixK k) := rfl
theorem fixK_at {k : KR} {ms : Ms} {i : Nat} {c : Cell} {d : Dat} (e : ms[i]? = some c) (hc : (∃ C fs, c = .ins C fs ∧ d = .ins C fs) ∨ (∃ ds, c = .lst ds ∧ d = .lst ds) ∨ ∃ ds, c = .dic ds ∧ d = .dic ds) (h : k d (ms.set i .gone)) : fixK k (.own i) ms := by
  rcases hc with ⟨C, fs, rfl, rfl⟩ | ⟨ds, rfl, rfl⟩ | ⟨ds, rfl, rfl⟩ <;> simp [fixK, e, h]
theorem fixK_dic {k : KR} {M : Ms} {d : List (Key × Dat)} (h : k (.dic d) (M ++ [.gone])) : fixK k (.own M.length) (M ++ [.dic d]) := by
  simp [fixK, h]
theorem fixK_lst {k : KR} {M : Ms} {d : List Dat} (h : k (.lst d) (M ++ [.gone])) : fixK k (.own M.length) (M ++ [.lst d]) := by
  simp [fixK, h]
theorem fixK_ins {k : KR} {ms : Ms} {i : Nat} {C : Str} {fs : List (Str × Dat)} (e : ms[i]? = some (.ins C fs)) (h : k (.ins C fs) (ms.set i .gone)) : fixK k (.own i) ms := by
  simp [fixK, e, h]
/-! a cell among others -/
theorem at_set {ms g : Ms} {j : Nat} {c : Cell} (hj : j < ms.length) : (ms.set j c ++ g)[j]? = some c := by
  rw [List.getElem?_append_left (by simpa using hj)]; simp [hj]
theorem set_set {ms g : Ms} {j : Nat} {c c' : Cell} (hj : j < ms.length) : (ms.set j c ++ g).set j c' = ms.set j c' ++ g := by
  rw [List.set_append_left _ _ (by simpa using hj)]; simp
theorem at_app {ms g : Ms} {j : Nat} {c : Cell} (e : ms[j]? = some c) : (ms ++ g)[j]? = some c := by
  rw [List.getElem?_append_left (List.getElem?_eq_some_iff.mp e).1]; exact e
theorem lt_of_at {ms : Ms} {j : Nat} {c : Cell} (e : ms[j]? = some c) : j < ms.length := (List.getElem?_eq_some_iff.mp e).1
/-! all([..]) -/
theorem all_bl {α : Type} {l : List α} : (l.map fun _ => Dat.bl true) = (List.replicate l.length true).map Dat.bl := by
  simp [List.map_const']
theorem all_yes {ms : Ms} {k : KR} {n : Nat} (h : k (.bl true) ms) : wAllL [.lst ((List.replicate n true).map Dat.bl)] ms k := ⟨_, rfl, by simpa using h⟩
theorem all_map {α : Type} {l : List α} {f : α → Bool} {ms : Ms} {k : KR} (h : k (.bl (l.all f)) ms) : wAllL [.lst (l.map fun x => Dat.bl (f x))] ms k := ⟨l.map f, by simp, by simpa [List.all_map] using h⟩
theorem lc_len {α : Type} {xs : List α} {n : Nat} (h : xs.length ≤ n) (hn : n ≤ 1000000) : xs.length ≤ sizeLine := Nat.le_trans h (Nat.le_trans hn size_big)
end Sy
namespace Sy
open PySem PySem.Spec PyProof.Rows L2
@[simp] theorem shI {i : Int} : SeqAt.shaped (.int i) = true := by simp [SeqAt.shaped, PyData.canLay0, PyData.depth]
@[simp] theorem shB {i : Bool} : SeqAt.shaped (.bool i) = true := by simp [SeqAt.shaped, PyData.canLay0, PyData.depth]
@[simp] theorem shN : SeqAt.shaped .none = true := by decide
@[simp] theorem shL0 : SeqAt.shaped (.list []) = true := by decide
theorem shIs (ns : List Int) : plains (ns.map .int) = true ∧ SeqAt.shaped (.list (toPys (ns.map .int))) = true := by
  have f : fine 2 (.lst (ns.map .int)) := fine_lst fun d hd => by
    obtain ⟨i, _, rfl⟩ := List.mem_map.mp hd
    exact fine_leaf (by decide) rfl
  exact ⟨f.1, f.shaped (by decide)⟩
end Sy
namespace Sy
open PySem PySem.Spec PyProof.Rows L2
theorem lcW_ind {wg : WG} {wt : WT} {we : WE} {ρ : Env} {k : List Dat → Ms → Prop} {I : List Dat → List Dat → Ms → Prop}
    (step : ∀ d ds acc ms, I (d :: ds) acc ms → ∀ F : List Dat → Ms → Prop, (∀ acc' ms', I ds acc' ms' → F acc' ms') → wg d ρ ms fun ρ1 ms1 => wt ρ1 ms1 fun b ms2 => if b = true then we ρ1 ms2 fun y ms3 => acc.length < sizeLine ∧ F (acc ++ [y]) ms3 else F acc ms2)
    (fin : ∀ acc ms, I [] acc ms → k acc ms) : ∀ ds acc ms, I ds acc ms → lcW wg wt we ρ k ds acc ms
  | [], acc, ms, h => fin acc ms h
  | d :: ds, acc, ms, h => step d ds acc ms h _ fun acc' ms' h' => lcW_ind step fin ds acc' ms' h'
theorem cut_take {ds : List Dat} {m : Nat} : cutD ds none (some (m : Int)) = ds.take m := by
  unfold cutD
  rw [HT.sIx_none, HT.sIx_nat]
  simp only [List.drop_zero, Nat.sub_zero]
  rw [Nat.min_comm]
  rcases Nat.le_total m ds.length with h | h
  · rw [Nat.min_eq_right h]
  · rw [Nat.min_eq_left h, List.take_of_length_le (Nat.le_refl _), List.take_of_length_le h]
theorem eqI {a b : Int} {ms : Ms} {k : KR} (h : k (.bl (decide (a = b))) ms) : wEq (.int a) (.int b) ms k := ⟨_, _, rfl, rfl, rfl, rfl, shI, shI, h⟩
theorem neI {a b : Int} {ms : Ms} {k : KR} (h : k (.bl (!decide (a = b))) ms) : wNe (.int a) (.int b) ms k := ⟨_, _, rfl, rfl, rfl, rfl, shI, shI, h⟩
theorem cnt_str {ws : List Str} {x : Str} : (ws.map Dat.str).countP (fun z => eqD z (.str x)) = ws.count x := by
  rw [List.countP_map]
  rfl
theorem flat_strs {ws : List Str} : (ws.map Dat.str).all flat = true := by simp
end Sy
namespace Sy
open PySem PySem.Spec PyProof.Rows L2
/-! comprehensions over typed lists -/
theorem lcW_T {α : Type} {wg : WG} {wt : WT} {we : WE} {ρ : Env} {k : List Dat → Ms → Prop} {ms : Ms} (f : α → Dat) (p : α → Bool) (g : α → Dat) {xs : List α}
    (h : ∀ x ∈ xs, ∀ kk : List Dat → Ms → Prop, kk (if p x = true then [g x] else []) ms → wg (f x) ρ ms fun ρ1 ms1 => wt ρ1 ms1 fun b ms2 => if b = true then we ρ1 ms2 fun y ms3 => kk [y] ms3 else kk [] ms2) {acc : List Dat}
    (hs : acc.length + xs.length ≤ sizeLine) (hk : k (acc ++ (xs.filter p).map g) ms) : lcW wg wt we ρ k (xs.map f) acc ms := by
  induction xs generalizing acc with
  | nil => simpa using hk
  | cons x xs ih =>
    simp only [List.length_cons] at hs
    refine h x (by simp) (fun l ms' => match l with
      | [y] => acc.length < sizeLine ∧ lcW wg wt we ρ k (xs.map f) (acc ++ [y]) ms'
      | _ => lcW wg wt we ρ k (xs.map f) acc ms') ?_
    by_cases q : p x = true
    · rw [if_pos q]
      refine ⟨by omega, ih (fun z hz => h z (List.mem_cons_of_mem _ hz)) (by simp; omega) ?_⟩
      simpa [q] using hk
    · rw [if_neg q]
      exact ih (fun z hz => h z (List.mem_cons_of_mem _ hz)) (by omega) (by simpa [q] using hk)
theorem lcW_M {α : Type} {wg : WG} {we : WE} {ρ : Env} {k : List Dat → Ms → Prop} {ms : Ms} (f g : α → Dat) {xs : List α}
    (h : ∀ x ∈ xs, ∀ kk : List Dat → Ms → Prop, kk [g x] ms → wg (f x) ρ ms fun ρ1 ms1 => we ρ1 ms1 fun y ms3 => kk [y] ms3)
    (hs : xs.length ≤ sizeLine) (hk : k (xs.map g) ms) : lcW wg wYes we ρ k (xs.map f) [] ms :=
  lcW_T f (fun _ => true) g (fun x hx kk hkk => by simpa using h x hx kk (by simpa using hkk)) (by simpa using hs) (by rw [List.filter_eq_self.mpr (fun _ _ => rfl)]; exact hk)
/-- dict comprehensions, keys new, with things left over -/
theorem dcW_T {α : Type} {wg : WG} {wk wv : WE} {ρ : Env} {k : List (Key × Dat) → Ms → Prop} {ms : Ms} (f : α → Dat) (ky : α → Key) (g : α → Dat) {xs : List α}
    (h : ∀ x ∈ xs, ∀ gb (kk : Dat → Dat → Ms → Prop), (∀ y gb', keyD y = some (ky x) → kk y (g x) (ms ++ gb')) → wg (f x) ρ (ms ++ gb) fun ρ1 ms1 => wk ρ1 ms1 fun y ms2 => wv ρ1 ms2 fun z ms3 => kk y z ms3) {acc : List (Key × Dat)}
    (hs : acc.length + xs.length ≤ sizeLine) (nd : ((acc.map (·.1)) ++ xs.map ky).Nodup) (hk : ∀ gb, k (acc ++ xs.map fun x => (ky x, g x)) (ms ++ gb)) {gb : Ms} : dcW wg wYes wk wv ρ k (xs.map f) acc (ms ++ gb) := by
  induction xs generalizing acc gb with
  | nil => simpa using hk gb
  | cons x xs ih =>
    simp only [List.length_cons] at hs
    have hn : getK acc (ky x) = none := by
      have : ky x ∉ acc.map (·.1) := fun hm => by
        rw [List.nodup_append] at nd
        exact nd.2.2 _ hm _ (by simp) rfl
      clear nd hs hk ih h
      induction acc with
      | nil => rfl
      | cons a acc ih =>
        simp only [List.map_cons, List.mem_cons, not_or] at this
        simp only [getK]
        rw [if_neg (fun e => this.1 e.symm)]
        exact ih this.2
    show wg (f x) ρ (ms ++ gb) fun ρ1 ms1 => wYes ρ1 ms1 fun b ms2 => if b = true then wk ρ1 ms2 fun y ms3 => wv ρ1 ms3 fun z ms4 => (match keyD y with
      | some key => acc.length < sizeLine ∧ dcW wg wYes wk wv ρ k (xs.map f) (setK acc key z) ms4
      | none => False) else dcW wg wYes wk wv ρ k (xs.map f) acc ms2
    simp only [wYes, if_true]
    refine h x (by simp) gb (fun y z ms4 => match keyD y with
      | some key => acc.length < sizeLine ∧ dcW wg wYes wk wv ρ k (xs.map f) (setK acc key z) ms4
      | none => False) fun y gb' ey => ?_
    simp only [ey]
    have e : setK acc (ky x) (g x) = acc ++ [(ky x, g x)] := by simp [setK, hn]
    rw [e]
    exact ⟨by omega, ih (fun z hz => h z (List.mem_cons_of_mem _ hz)) (by simp; omega) (by simpa using nd) (by simpa using hk)⟩
theorem mergeD_nd {ps : List (Key × Dat)} : ∀ {acc : List (Key × Dat)}, ((acc ++ ps).map (·.1)).Nodup → mergeD acc ps = acc ++ ps := by
  induction ps with
  | nil => intro acc _; simp
  | cons p ps ih =>
    intro acc nd
    obtain ⟨k, d⟩ := p
    have hn : getK acc k = none := by
      have : k ∉ acc.map (·.1) := fun hm => by
        rw [List.map_append, List.nodup_append] at nd
        exact nd.2.2 _ hm _ (by simp) rfl
      clear nd ih
      induction acc with
      | nil => rfl
      | cons a acc ih =>
        simp only [List.map_cons, List.mem_cons, not_or] at this
        simp only [getK]
        rw [if_neg (fun e => this.1 e.symm)]
        exact ih this.2
    have e : setK acc k d = acc ++ [(k, d)] := by simp [setK, hn]
    simp only [mergeD]
    rw [e, ih (by simpa using nd)]
    simp
end Sy
namespace Sy
open PySem PySem.Spec PyProof.Rows L2
theorem cps_inj {x y : Str} (h : x.cps.toList = y.cps.toList) : x = y := by
  cases x; cases y
  simp at h
  simp [h]
theorem sortedS_pw : ∀ {l : List Str}, sortedS l = true → l.Pairwise (fun a b => ¬ b.cps.toList < a.cps.toList)
  | [], _ => .nil
  | [x], _ => by simp
  | x :: y :: r, h => by
    have h : (!ltCps y.cps.toList x.cps.toList && sortedS (y :: r)) = true := h
    simp only [Bool.and_eq_true, Bool.not_eq_true'] at h
    have hp := sortedS_pw h.2
    have h1 : ¬ y.cps.toList < x.cps.toList := by
      have := h.1; rw [ltCps_eq] at this; simpa using this
    refine List.pairwise_cons.mpr ⟨fun z hz => ?_, hp⟩
    rcases List.mem_cons.mp hz with rfl | hz
    · exact h1
    · have h2 := (List.pairwise_cons.mp hp).1 z hz
      exact List.not_lt.mpr (List.le_trans (List.not_lt.mp h1) (List.not_lt.mp h2))
theorem sortedS_uniq {a b : List Str} (hp : a.Perm b) (h1 : sortedS a = true) (h2 : sortedS b = true) : a = b :=
  List.Perm.eq_of_pairwise (le := fun a b => ¬ b.cps.toList < a.cps.toList) (fun x y _ _ h h' => cps_inj (List.le_antisymm (List.not_lt.mp h) (List.not_lt.mp h'))) (sortedS_pw h1) (sortedS_pw h2) hp
theorem str_tri {a b : Str} (h : a ≠ b) : a.cps.toList < b.cps.toList ∨ b.cps.toList < a.cps.toList := by
  by_cases h1 : a.cps.toList < b.cps.toList
  · exact .inl h1
  · by_cases h2 : b.cps.toList < a.cps.toList
    · exact .inr h2
    · exact absurd (cps_inj (List.le_antisymm (List.not_lt.mp h2) (List.not_lt.mp h1))) h
/-! first and last of a rising list -/
theorem headD_mem {l : List Nat} (h : l ≠ []) : l.headD 0 ∈ l := by
  cases l with
  | nil => exact absurd rfl h
  | cons a l => simp
theorem headD_le {l : List Nat} (hp : l.Pairwise (· < ·)) : ∀ m ∈ l, l.headD 0 ≤ m := by
  cases l with
  | nil => intro m hm; cases hm
  | cons a l =>
    intro m hm
    rcases List.mem_cons.mp hm with rfl | hm
    · simp
    · exact Nat.le_of_lt ((List.pairwise_cons.mp hp).1 m hm)
theorem lastD_mem {l : List Nat} (h : l ≠ []) : l.getLastD 0 ∈ l := by
  rw [List.getLastD_eq_getLast?, List.getLast?_eq_some_getLast h]; exact List.getLast_mem h
theorem lastD_ge : ∀ {l : List Nat}, l.Pairwise (· < ·) → ∀ m ∈ l, m ≤ l.getLastD 0
  | [], _, m, hm => by cases hm
  | [a], _, m, hm => by simp at hm; subst hm; simp
  | a :: b :: l, hp, m, hm => by
    have ih := lastD_ge (List.pairwise_cons.mp hp).2
    have e : (a :: b :: l).getLastD 0 = (b :: l).getLastD 0 := by simp [List.getLastD]
    rw [e]
    rcases List.mem_cons.mp hm with rfl | hm
    · exact Nat.le_trans (Nat.le_of_lt ((List.pairwise_cons.mp hp).1 b (by simp))) (ih b (by simp))
    · exact ih m hm
theorem filt_rise {n : Nat} {p : Nat → Bool} : ((List.range n).filter p).Pairwise (· < ·) := List.Pairwise.filter _ List.pairwise_lt_range
end Sy
namespace K41
open PySem PySem.Spec PyProof.Rows L2 Sy
def wds : List PySem.Str := ["a", "key", "zz", "far"]
def wsD (ws : List PySem.Str) : List Dat := ws.map .str
def nums (ns : List Int) : List Dat := ns.map .int
def dnm (nm : List (PySem.Str × Int)) : List (Key × Dat) := nm.map fun p => (.inr p.1, .int p.2)
def cn (ws : List PySem.Str) (x : PySem.Str) (m : Nat) : Int := ((ws.take m).count x : Nat)
def ab (i : Int) : Int := if i < 0 then -i else i
def dst (ws : List PySem.Str) (p : PySem.Str × Int) (m : Nat) : Int := ab (p.2 - cn ws p.1 m)
def mxL (ns : List Int) : Int := ns.foldr max 0
def mnL : List Int → Int
  | [] => 0
  | [a] => a
  | a :: b :: l => min a (mnL (b :: l))
def gp (ws : List PySem.Str) (nm : List (PySem.Str × Int)) (m : Nat) : Int := mxL (nm.map fun p => dst ws p m)
def gps (ws : List PySem.Str) (nm : List (PySem.Str × Int)) : List Int := (List.range (ws.length + 1)).map (gp ws nm)
def trk (ws : List PySem.Str) (x : PySem.Str) : List Int := (List.range (ws.length + 1)).map (cn ws x)
def spr (ws : List PySem.Str) (nm : List (PySem.Str × Int)) : Int := mnL (gps ws nm)
def nea (ws : List PySem.Str) (nm : List (PySem.Str × Int)) : Nat := ((List.range (ws.length + 1)).filter fun m => decide (gp ws nm m = spr ws nm)).headD 0
def trD (ws : List PySem.Str) (nm : List (PySem.Str × Int)) : List (Key × Dat) := nm.map fun p => (.inr p.1, .lst (nums (trk ws p.1)))
def zs (ws : List PySem.Str) (nm : List (PySem.Str × Int)) : List Nat := (List.range (ws.length + 1)).filter fun m => decide (gp ws nm m = 0)
def seenD (ws : List PySem.Str) (nm : List (PySem.Str × Int)) : Dat := if zs ws nm = [] then .non else .tup [.int ((zs ws nm).headD 0 : Nat), .int ((zs ws nm).getLastD 0 : Nat)]
def fdsC (ws : List PySem.Str) (nm : List (PySem.Str × Int)) : List (PySem.Str × Dat) := [("own_order", .tup (wsD ws)), ("own_numbers", .dic (dnm nm)), ("tracks", .dic (trD ws nm)), ("gaps", .lst (nums (gps ws nm))), ("own_spread", .int (spr ws nm)), ("own_nearest", .int (nea ws nm : Nat))]
def cutOf (ws : List PySem.Str) (nm : List (PySem.Str × Int)) : Dat := .ins "Cut" (fdsC ws nm)
structure WsOk (ws : List PySem.Str) : Prop where
  len : ws.length ≤ 30
  mem : ∀ x ∈ ws, x ∈ wds
structure NmOk (ws : List PySem.Str) (nm : List (PySem.Str × Int)) : Prop where
  ne : nm ≠ []
  len : nm.length ≤ 4
  nd : (nm.map (·.1)).Nodup
  mem : ∀ p ∈ nm, p.1 ∈ wds
  low : ∀ p ∈ nm, 0 ≤ p.2
  high : ∀ p ∈ nm, p.2 ≤ cn ws p.1 ws.length
def wz (ws : List PySem.Str) (p : PySem.Str × Int) (sl : Int) : List Nat := (List.range (ws.length + 1)).filter fun m => decide (dst ws p m ≤ sl)
def wf (ws : List PySem.Str) (p : PySem.Str × Int) (sl : Int) : Nat := (wz ws p sl).headD 0
def wl (ws : List PySem.Str) (p : PySem.Str × Int) (sl : Int) : Nat := (wz ws p sl).getLastD 0
def apart (ws : List PySem.Str) (p q : PySem.Str × Int) (sl : Int) : Bool := decide (((wl ws p sl : Nat) : Int) < (wf ws q sl : Nat)) || decide (((wl ws q sl : Nat) : Int) < (wf ws p sl : Nat))
def barB (ws : List PySem.Str) (p q : PySem.Str × Int) (sl : Int) (m : Nat) : Bool := !decide (mxL [dst ws p m, dst ws q m] ≤ sl)
def bars (ws : List PySem.Str) (p q : PySem.Str × Int) (sl : Int) : Bool := (List.range (ws.length + 1)).all (barB ws p q sl)
def atN (ws : List PySem.Str) (ks : List PySem.Str) (m : Nat) : List (PySem.Str × Int) := ks.map fun x => (x, cn ws x m)
/-! counts -/
theorem cn_0 {ws : List PySem.Str} {x : PySem.Str} : cn ws x 0 = 0 := by simp [cn]
theorem cn_s {ws : List PySem.Str} {x : PySem.Str} {m : Nat} : cn ws x (m + 1) = cn ws x m ∨ cn ws x (m + 1) = cn ws x m + 1 := by
  unfold cn
  rw [List.take_add_one, List.count_append]
  cases ws[m]? with
  | none => left; simp
  | some y =>
    by_cases e : y = x
    · right; subst e; simp
    · left; simp [List.count_cons, e]
theorem cn_le {ws : List PySem.Str} {x : PySem.Str} {m n : Nat} (h : m ≤ n) : cn ws x m ≤ cn ws x n := by
  induction h with
  | refl => exact Int.le_refl _
  | step _ ih => rcases cn_s (ws := ws) (x := x) (m := _) with e | e <;> rw [e] <;> omega
theorem cn_nn {ws : List PySem.Str} {x : PySem.Str} {m : Nat} : 0 ≤ cn ws x m := by unfold cn; omega
theorem cn_ivt {ws : List PySem.Str} {x : PySem.Str} {n : Int} (h0 : 0 ≤ n) : ∀ L, n ≤ cn ws x L → ∃ m, m ≤ L ∧ cn ws x m = n
  | 0, h => ⟨0, Nat.le_refl _, by rw [cn_0] at *; omega⟩
  | L + 1, h => by
    by_cases e : n ≤ cn ws x L
    · obtain ⟨m, h1, h2⟩ := cn_ivt h0 L e
      exact ⟨m, by omega, h2⟩
    · refine ⟨L + 1, Nat.le_refl _, ?_⟩
      rcases cn_s (ws := ws) (x := x) (m := L) with e' | e' <;> rw [e'] at h ⊢ <;> omega
theorem ab_nn {i : Int} : 0 ≤ ab i := by unfold ab; split <;> omega
theorem ab_le {i s : Int} : ab i ≤ s ↔ i ≤ s ∧ -i ≤ s := by unfold ab; split <;> omega
theorem dst_nn {ws : List PySem.Str} {p : PySem.Str × Int} {m : Nat} : 0 ≤ dst ws p m := ab_nn
/-! greatest and least -/
theorem le_mx {ns : List Int} {y : Int} (h : y ∈ ns) : y ≤ mxL ns := by
  induction ns with
  | nil => cases h
  | cons a ns ih =>
    show y ≤ max a (mxL ns)
    rcases List.mem_cons.mp h with rfl | h
    · omega
    · have := ih h; omega
theorem mx_le {ns : List Int} {s : Int} (h0 : 0 ≤ s) (h : ∀ y ∈ ns, y ≤ s) : mxL ns ≤ s := by
  induction ns with
  | nil => exact h0
  | cons a ns ih =>
    show max a (mxL ns) ≤ s
    have := ih (fun y hy => h y (List.mem_cons_of_mem _ hy))
    have := h a (by simp)
    omega
theorem mx_nn {ns : List Int} : 0 ≤ mxL ns := by
  induction ns with
  | nil => exact Int.le_refl 0
  | cons a ns ih => show 0 ≤ max a (mxL ns); omega
theorem mx_uniq {ns : List Int} {m : Int} (hm : m ∈ ns) (h : ∀ y ∈ ns, y ≤ m) (h0 : 0 ≤ m) : m = mxL ns := Int.le_antisymm (le_mx hm) (mx_le h0 h)
theorem mn_mem : ∀ {ns : List Int}, ns ≠ [] → mnL ns ∈ ns
  | [], h => absurd rfl h
  | [a], _ => by simp [mnL]
  | a :: b :: l, _ => by
    have ih := mn_mem (ns := b :: l) (by simp)
    show min a (mnL (b :: l)) ∈ _
    by_cases e : a ≤ mnL (b :: l)
    · rw [show min a (mnL (b :: l)) = a by omega]; simp
    · rw [show min a (mnL (b :: l)) = mnL (b :: l) by omega]; exact List.mem_cons_of_mem _ ih
theorem mn_le : ∀ {ns : List Int} {y : Int}, y ∈ ns → mnL ns ≤ y
  | [a], y, h => by simp at h; subst h; simp [mnL]
  | a :: b :: l, y, h => by
    show min a (mnL (b :: l)) ≤ y
    rcases List.mem_cons.mp h with rfl | h
    · omega
    · have := mn_le h; omega
theorem mn_uniq {ns : List Int} {m : Int} (hm : m ∈ ns) (h : ∀ y ∈ ns, m ≤ y) : m = mnL ns := Int.le_antisymm (h _ (mn_mem (by intro e; rw [e] at hm; cases hm))) (mn_le hm)
theorem gp_nn {ws : List PySem.Str} {nm : List (PySem.Str × Int)} {m : Nat} : 0 ≤ gp ws nm m := mx_nn
theorem gps_ne {ws : List PySem.Str} {nm : List (PySem.Str × Int)} : gps ws nm ≠ [] := by
  intro e
  have := congrArg List.length e
  simp [gps] at this
theorem spr_le {ws : List PySem.Str} {nm : List (PySem.Str × Int)} {m : Nat} (h : m ≤ ws.length) : spr ws nm ≤ gp ws nm m :=
  mn_le (List.mem_map_of_mem (List.mem_range.mpr (by omega)))
theorem spr_at {ws : List PySem.Str} {nm : List (PySem.Str × Int)} : ∃ m, m ≤ ws.length ∧ gp ws nm m = spr ws nm := by
  obtain ⟨m, h1, h2⟩ := List.mem_map.mp (mn_mem (gps_ne (ws := ws) (nm := nm)))
  exact ⟨m, by have := List.mem_range.mp h1; omega, h2⟩
theorem spr_nn {ws : List PySem.Str} {nm : List (PySem.Str × Int)} : 0 ≤ spr ws nm := by
  obtain ⟨m, _, h⟩ := spr_at (ws := ws) (nm := nm)
  rw [← h]; exact gp_nn
theorem spr_part {ws : List PySem.Str} {nm nm' : List (PySem.Str × Int)} (h : ∀ p ∈ nm', p ∈ nm) : spr ws nm' ≤ spr ws nm := by
  obtain ⟨m, h1, h2⟩ := spr_at (ws := ws) (nm := nm)
  refine Int.le_trans (spr_le h1) ?_
  rw [← h2]
  refine mx_le gp_nn fun y hy => ?_
  obtain ⟨p, hp, rfl⟩ := List.mem_map.mp hy
  exact le_mx (List.mem_map.mpr ⟨p, h p hp, rfl⟩)
/-! windows -/
section
variable {ws : List PySem.Str} {p q : PySem.Str × Int} {sl : Int} {m : Nat}
theorem wz_mem : m ∈ wz ws p sl ↔ m ≤ ws.length ∧ dst ws p m ≤ sl := by
  unfold wz
  rw [List.mem_filter, List.mem_range]
  simp
  omega
theorem wz_ne (h0 : 0 ≤ p.2) (h1 : p.2 ≤ cn ws p.1 ws.length) (hs : 0 ≤ sl) : wz ws p sl ≠ [] := by
  obtain ⟨m, hm, e⟩ := cn_ivt h0 _ h1
  exact List.ne_nil_of_mem (wz_mem.mpr ⟨hm, by unfold dst; rw [e, ab_le]; omega⟩)
theorem wz_conv {a b : Nat} (ha : a ∈ wz ws p sl) (hb : b ∈ wz ws p sl) (h1 : a ≤ m) (h2 : m ≤ b) : m ∈ wz ws p sl := by
  rw [wz_mem] at *
  refine ⟨by omega, ?_⟩
  have e1 := cn_le (ws := ws) (x := p.1) h1
  have e2 := cn_le (ws := ws) (x := p.1) h2
  have ha := ha.2
  have hb := hb.2
  unfold dst at *
  rw [ab_le] at *
  omega
theorem apart_iff (hp : wz ws p sl ≠ []) (hq : wz ws q sl ≠ []) : apart ws p q sl = true ↔ ∀ m, m ∈ wz ws p sl → m ∈ wz ws q sl → False := by
  have p1 := headD_mem hp
  have p2 := lastD_mem hp
  have q1 := headD_mem hq
  have q2 := lastD_mem hq
  have rp : (wz ws p sl).Pairwise (· < ·) := filt_rise
  have rq : (wz ws q sl).Pairwise (· < ·) := filt_rise
  unfold apart
  rw [Bool.or_eq_true, decide_eq_true_eq, decide_eq_true_eq]
  constructor
  · intro h m hm hm'
    have a1 := headD_le rp m hm
    have a2 := lastD_ge rp m hm
    have b1 := headD_le rq m hm'
    have b2 := lastD_ge rq m hm'
    unfold wl wf at h
    omega
  · intro h
    apply Classical.byContradiction
    intro hn
    unfold wl wf at hn
    by_cases e : (wz ws p sl).headD 0 ≤ (wz ws q sl).headD 0
    · exact h _ (wz_conv p1 p2 e (by omega)) q1
    · exact h _ p1 (wz_conv q1 q2 (by omega) (by omega))
theorem bars_iff (hs : 0 ≤ sl) : bars ws p q sl = true ↔ ∀ m, m ∈ wz ws p sl → m ∈ wz ws q sl → False := by
  unfold bars
  rw [List.all_eq_true]
  constructor
  · intro h m hm hm'
    rw [wz_mem] at hm hm'
    have := h m (List.mem_range.mpr (by omega))
    unfold barB at this
    have h2 : mxL [dst ws p m, dst ws q m] ≤ sl := mx_le hs (fun y hy => by
      simp at hy
      rcases hy with rfl | rfl
      · exact hm.2
      · exact hm'.2)
    simp [h2] at this
  · intro h m hm
    have hm := List.mem_range.mp hm
    unfold barB
    have : ¬ mxL [dst ws p m, dst ws q m] ≤ sl := fun e => h m (wz_mem.mpr ⟨by omega, Int.le_trans (le_mx (by simp)) e⟩) (wz_mem.mpr ⟨by omega, Int.le_trans (le_mx (by simp)) e⟩)
    simp [this]
theorem apart_bars (hp : wz ws p sl ≠ []) (hq : wz ws q sl ≠ []) (hs : 0 ≤ sl) : apart ws p q sl = bars ws p q sl := by
  have := apart_iff hp hq
  have h2 := bars_iff (ws := ws) (p := p) (q := q) hs
  rw [Bool.eq_iff_iff]
  exact this.trans h2.symm
theorem apart_self (hp : wz ws p sl ≠ []) : apart ws p p sl = false := by
  cases a : apart ws p p sl with
  | false => rfl
  | true => exact ((apart_iff hp hp).mp a _ (headD_mem hp) (headD_mem hp)).elim
theorem apart_comm : apart ws p q sl = apart ws q p sl := by unfold apart; rw [Bool.or_comm]
end
theorem most {α : Type} (f : α → Nat) : ∀ {l : List α}, l ≠ [] → ∃ x ∈ l, ∀ y ∈ l, f y ≤ f x
  | [], h => absurd rfl h
  | [a], _ => ⟨a, by simp, by simp⟩
  | a :: b :: l, _ => by
    obtain ⟨x, hx, h⟩ := most f (l := b :: l) (by simp)
    by_cases e : f a ≤ f x
    · exact ⟨x, List.mem_cons_of_mem _ hx, fun y hy => by
        rcases List.mem_cons.mp hy with rfl | hy
        · exact e
        · exact h y hy⟩
    · exact ⟨a, by simp, fun y hy => by
        rcases List.mem_cons.mp hy with rfl | hy
        · exact Nat.le_refl _
        · have := h y hy; omega⟩
theorem NmOk.wz {ws : List PySem.Str} {nm : List (PySem.Str × Int)} (h : NmOk ws nm) {sl : Int} (hs : 0 ≤ sl) {p : PySem.Str × Int} (hp : p ∈ nm) : K41.wz ws p sl ≠ [] := wz_ne (h.low p hp) (h.high p hp) hs
theorem uniq_key {nm : List (PySem.Str × Int)} (nd : (nm.map (·.1)).Nodup) {p q : PySem.Str × Int} (hp : p ∈ nm) (hq : q ∈ nm) (e1 : p.1 = q.1) : p = q := by
  induction nm with
  | nil => cases hp
  | cons a l ih =>
    simp only [List.map_cons, List.nodup_cons] at nd
    rcases List.mem_cons.mp hp with h1 | h1 <;> rcases List.mem_cons.mp hq with h2 | h2
    · rw [h1, h2]
    · exact absurd (List.mem_map.mpr ⟨q, h2, by rw [← e1, h1]⟩) nd.1
    · exact absurd (List.mem_map.mpr ⟨p, h1, by rw [e1, h2]⟩) nd.1
    · exact ih nd.2 h1 h2
theorem helly {ws : List PySem.Str} {nm : List (PySem.Str × Int)} (h : NmOk ws nm) (hs : spr ws nm ≠ 0) : ∃ p ∈ nm, ∃ q ∈ nm, p.1 ≠ q.1 ∧ apart ws p q (spr ws nm - 1) = true := by
  have h0 : 0 ≤ spr ws nm - 1 := by have := spr_nn (ws := ws) (nm := nm); omega
  apply Classical.byContradiction
  intro hn
  obtain ⟨p, hp, hm⟩ := most (fun p => wf ws p (spr ws nm - 1)) h.ne
  have key : ∀ q ∈ nm, wf ws p (spr ws nm - 1) ∈ K41.wz ws q (spr ws nm - 1) := fun q hq => by
    have hqz := h.wz h0 hq
    have hpz := h.wz h0 hp
    refine wz_conv (headD_mem hqz) (lastD_mem hqz) (hm q hq) ?_
    have na : apart ws p q (spr ws nm - 1) ≠ true := fun e => by
      by_cases e1 : p.1 = q.1
      · have : p = q := uniq_key h.nd hp hq e1
        subst this
        rw [apart_self hpz] at e
        cases e
      · exact hn ⟨p, hp, q, hq, e1, e⟩
    unfold apart at na
    rw [Ne, Bool.or_eq_true, decide_eq_true_eq, decide_eq_true_eq, not_or] at na
    show wf ws p _ ≤ wl ws q _
    omega
  have hl : wf ws p (spr ws nm - 1) ≤ ws.length := (wz_mem.mp (key p hp)).1
  have h1 := spr_le (nm := nm) hl
  have h2 : gp ws nm (wf ws p (spr ws nm - 1)) ≤ spr ws nm - 1 := mx_le h0 fun y hy => by
    obtain ⟨q, hq, rfl⟩ := List.mem_map.mp hy
    exact (wz_mem.mp (key q hq)).2
  omega
theorem gp_at {ws ks : List PySem.Str} {m : Nat} : gp ws (atN ws ks m) m = 0 := by
  refine Int.le_antisymm (mx_le (Int.le_refl 0) fun y hy => ?_) gp_nn
  obtain ⟨p, hp, rfl⟩ := List.mem_map.mp hy
  obtain ⟨x, hx, rfl⟩ := List.mem_map.mp hp
  show ab (cn ws x m - cn ws x m) ≤ 0
  rw [ab_le]; omega
theorem cn_max {ws : List PySem.Str} {x : PySem.Str} {m n : Nat} : (if cn ws x n > cn ws x m then cn ws x n else cn ws x m) = cn ws x (max m n) := by
  by_cases h : m ≤ n
  · have := cn_le (ws := ws) (x := x) h
    rw [show max m n = n by omega]; split <;> omega
  · have := cn_le (ws := ws) (x := x) (show n ≤ m by omega)
    rw [show max m n = m by omega]; split <;> omega
theorem cn_min {ws : List PySem.Str} {x : PySem.Str} {m n : Nat} : (if cn ws x n < cn ws x m then cn ws x n else cn ws x m) = cn ws x (min m n) := by
  by_cases h : m ≤ n
  · have := cn_le (ws := ws) (x := x) h
    rw [show min m n = m by omega]; split <;> omega
  · have := cn_le (ws := ws) (x := x) (show n ≤ m by omega)
    rw [show min m n = n by omega]; split <;> omega
theorem atN_ok {ws : List PySem.Str} {nm : List (PySem.Str × Int)} (h : NmOk ws nm) {m : Nat} (hm : m ≤ ws.length) : NmOk ws (atN ws (nm.map (·.1)) m) := by
  have ek : (atN ws (nm.map (·.1)) m).map (·.1) = nm.map (·.1) := by simp [atN]
  refine ⟨fun e => h.ne (by simpa [atN] using e), by simpa [atN] using h.len, by rw [ek]; exact h.nd, fun p hp => ?_, fun p hp => ?_, fun p hp => ?_⟩
  · obtain ⟨x, hx, rfl⟩ := List.mem_map.mp hp
    obtain ⟨q, hq, rfl⟩ := List.mem_map.mp hx
    exact h.mem q hq
  · obtain ⟨x, hx, rfl⟩ := List.mem_map.mp hp
    exact cn_nn
  · obtain ⟨x, hx, rfl⟩ := List.mem_map.mp hp
    exact cn_le hm
theorem mem_zs {ws : List PySem.Str} {nm : List (PySem.Str × Int)} {m : Nat} : m ∈ zs ws nm ↔ m ≤ ws.length ∧ gp ws nm m = 0 := by
  unfold zs
  rw [List.mem_filter, List.mem_range]
  simp
  omega
end K41
namespace K41
open PySem PySem.Spec PyProof.Rows L2 Sy
def isO (o : Dat) (ws : List PySem.Str) : Prop := o = .lst (wsD ws) ∨ o = .tup (wsD ws)
def insIs (ms : Ms) (s : Dat) (fs : List (PySem.Str × Dat)) : Prop := insOf ms s = some (("Cut" : PySem.Str), fs)
def R_is_integer : FSpec := fun rs ms k kx => ∃ i, rs = [.int i] ∧ k (.bl true) ms
def R_is_in_range : FSpec := fun rs ms k kx => ∃ i lo hi, rs = [.int i, .int lo, .int hi] ∧ lo ≤ i ∧ i ≤ hi ∧ k (.bl true) ms
def R_is_word : FSpec := fun rs ms k kx => ∃ x, rs = [.str x] ∧ x ∈ wds ∧ k (.bl true) ms
def R_check_order : FSpec := fun rs ms k kx => ∃ o ws, rs = [o] ∧ isO o ws ∧ WsOk ws ∧ k .non ms
def R_are_numbers : FSpec := fun rs ms k kx => ∃ o ws nm, rs = [.dic (dnm nm), o] ∧ isO o ws ∧ WsOk ws ∧ NmOk ws nm ∧ k (.bl true) ms
def R_numbers_along : FSpec := fun rs ms k kx => ∃ o ws x, rs = [o, .str x] ∧ isO o ws ∧ WsOk ws ∧ x ∈ wds ∧ k (.lst (nums (trk ws x))) (ms ++ [.gone])
def R_Cut_gap : FSpec := fun rs ms k kx => ∃ s ws nm m fs, rs = [s, .int (m : Nat)] ∧ insIs ms s fs ∧ fs.lookup ("own_numbers" : PySem.Str) = some (.dic (dnm nm)) ∧ fs.lookup ("tracks" : PySem.Str) = some (.dic (trD ws nm)) ∧ NmOk ws nm ∧ m ≤ ws.length ∧ k (.int (gp ws nm m)) ms
def R_Cut___init__ : FSpec := fun rs ms k kx => ∃ j o ws nm, rs = [.own j, o, .dic (dnm nm)] ∧ isO o ws ∧ ms[j]? = some (.ins "Cut" []) ∧ WsOk ws ∧ NmOk ws nm ∧ ∀ g, k .non (ms.set j (.ins "Cut" (fdsC ws nm)) ++ g)
def R_Cut_numbers : FSpec := fun rs ms k kx => ∃ ws nm, rs = [cutOf ws nm] ∧ ∀ g, k (.dic (dnm nm)) (ms ++ g)
def R_Cut_spread : FSpec := fun rs ms k kx => ∃ ws nm, rs = [cutOf ws nm] ∧ k (.int (spr ws nm)) ms
def R_Cut_nearest : FSpec := fun rs ms k kx => ∃ ws nm, rs = [cutOf ws nm] ∧ k (.int (nea ws nm : Nat)) ms
def R_Cut_seen : FSpec := fun rs ms k kx => ∃ ws nm, rs = [cutOf ws nm] ∧ WsOk ws ∧ k (seenD ws nm) ms
def R_Cut_window : FSpec := fun rs ms k kx => ∃ ws nm p sl, rs = [cutOf ws nm, .str p.1, .int sl] ∧ p ∈ nm ∧ WsOk ws ∧ NmOk ws nm ∧ 0 ≤ sl ∧ k (.tup [.int (wf ws p sl : Nat), .int (wl ws p sl : Nat)]) ms
def R_Cut_are_apart : FSpec := fun rs ms k kx => ∃ ws nm p q sl, rs = [cutOf ws nm, .str p.1, .str q.1, .int sl] ∧ p ∈ nm ∧ q ∈ nm ∧ WsOk ws ∧ NmOk ws nm ∧ 0 ≤ sl ∧ k (.bl (apart ws p q sl)) ms
def R_check_like : FSpec := fun rs ms k kx => ∃ ws nm nm', rs = [cutOf ws nm, cutOf ws nm'] ∧ WsOk ws ∧ NmOk ws nm ∧ NmOk ws nm' ∧ nm.map (·.1) = nm'.map (·.1) ∧ k .non ms
def R_Cut___or__ : FSpec := fun rs ms k kx => ∃ ws nm m n, rs = [cutOf ws (atN ws (nm.map (·.1)) m), cutOf ws (atN ws (nm.map (·.1)) n)] ∧ WsOk ws ∧ NmOk ws nm ∧ m ≤ ws.length ∧ n ≤ ws.length ∧ ∀ g, k (cutOf ws (atN ws (nm.map (·.1)) (max m n))) (ms ++ g)
def R_Cut___and__ : FSpec := fun rs ms k kx => ∃ ws nm m n, rs = [cutOf ws (atN ws (nm.map (·.1)) m), cutOf ws (atN ws (nm.map (·.1)) n)] ∧ WsOk ws ∧ NmOk ws nm ∧ m ≤ ws.length ∧ n ≤ ws.length ∧ ∀ g, k (cutOf ws (atN ws (nm.map (·.1)) (min m n))) (ms ++ g)
def R_find_bar : FSpec := fun rs ms k kx => ∃ ws nm, rs = [cutOf ws nm] ∧ WsOk ws ∧ NmOk ws nm ∧ (spr ws nm = 0 → k .non ms) ∧ (spr ws nm ≠ 0 → ∀ p ∈ nm, ∀ q ∈ nm, apart ws p q (spr ws nm - 1) = true → k (.tup [.str p.1, .str q.1]) ms)
def R_check_bar : FSpec := fun rs ms k kx => ∃ ws nm o, rs = [cutOf ws nm, o] ∧ WsOk ws ∧ NmOk ws nm ∧ (spr ws nm = 0 → (o = .non ∧ k (.bl true) ms) ∨ ((∃ a b, o = .tup [a, b]) ∧ k (.bl false) ms)) ∧ (spr ws nm ≠ 0 → (o = .non ∧ k (.bl false) ms) ∨ ∃ p ∈ nm, ∃ q ∈ nm, o = .tup [.str p.1, .str q.1] ∧ k (.bl (apart ws p q (spr ws nm - 1))) ms)
def R__law_draw : FSpec := fun rs ms k kx => ∃ j n s m, rs = [.own j, .int m] ∧ ms[j]? = some (src n s) ∧ SrcOk n s ∧ 0 < m ∧ m.natAbs.log2 < 9000 ∧ ∀ r n' s', 0 ≤ r → r < m → SrcOk n' s' → k (.int r) (ms.set j (src n' s'))
def R__law_source : FSpec := fun rs ms k kx => ∃ ns t, rs = [.scr ns, .int t] ∧ 0 ≤ t ∧ t < 1000 ∧ ∀ n s, SrcOk n s → k (.own ms.length) (ms ++ [src n s])
def R__law_order : FSpec := fun rs ms k kx => ∃ j n s, rs = [.own j, .int 30] ∧ ms[j]? = some (src n s) ∧ SrcOk n s ∧ ∀ ws n' s', WsOk ws → SrcOk n' s' → k (.lst (wsD ws)) (ms.set j (src n' s'))
def R__law_numbers : FSpec := fun rs ms k kx => ∃ j n s ws, rs = [.own j, .lst (wsD ws)] ∧ ms[j]? = some (src n s) ∧ SrcOk n s ∧ WsOk ws ∧ ∀ nm n' s' g, NmOk ws nm → SrcOk n' s' → k (.dic (dnm nm)) (ms.set j (src n' s') ++ g)
def R__law_gap : FSpec := fun rs ms k kx => ∃ ws nm m, rs = [.lst (wsD ws), .dic (dnm nm), .int (m : Nat)] ∧ WsOk ws ∧ NmOk ws nm ∧ m ≤ ws.length ∧ k (.int (gp ws nm m)) ms
def R__law_at : FSpec := fun rs ms k kx => ∃ ws nm m, rs = [.lst (wsD ws), .dic (dnm nm), .int (m : Nat)] ∧ WsOk ws ∧ NmOk ws nm ∧ m ≤ ws.length ∧ ∀ g, k (.dic (dnm (atN ws (nm.map (·.1)) m))) (ms ++ g)
def R__law_bars : FSpec := fun rs ms k kx => ∃ ws nm p q sl, rs = [.lst (wsD ws), .dic (dnm nm), .tup [.str p.1, .str q.1], .int sl] ∧ p ∈ nm ∧ q ∈ nm ∧ WsOk ws ∧ NmOk ws nm ∧ k (.bl (bars ws p q sl)) ms
def R__law_right : FSpec := fun rs ms k kx => ∃ ws nm, rs = [.lst (wsD ws), .dic (dnm nm)] ∧ WsOk ws ∧ NmOk ws nm ∧ ∀ g, k (.bl true) (ms ++ g)
def R_law : FSpec := fun rs ms k kx => ∃ ns, rs = [.scr ns] ∧ ms = [] ∧ ns.length ≤ 63 ∧ ∀ m, k (.bl true) m
def xsL : List (PySem.Str × List PySem.Str) := []
def xsB (C : PySem.Str) : Bool := (xsL.lookup C).isSome
def isL : List PySem.Str := ["Cut"]
def isB (C : PySem.Str) : Bool := isL.contains C
def ktL : List (Kd × List Kd × List Kd) := [(.bt "int", [.bt "int"], [.bt "bool"]), (.bt "str", [.bt "str"], []), (.bt "list", [.bt "list"], []), (.bt "tuple", [.bt "tuple"], [.bt "list"]), (.bt "dict", [.bt "dict"], []), (.bt "NoneType", [], [.bt "tuple"]), (.own "Cut", [.own "Cut"], [])]
def kt (a b : Kd) : Option Bool := match ktL.lookup a with
  | some (ts, fs) => if ts.contains b = true then some true else if fs.contains b = true then some false else none
  | none => none
def kl_Cut : Kl := { nm := "Cut", fs := ["own_order", "own_numbers", "tracks", "gaps", "own_spread", "own_nearest"], ms := ["gap", "window", "are_apart"], ps := ["numbers", "spread", "nearest", "seen"], mkq := true, ops := [(.BitOr, "__or__"), (.BitAnd, "__and__")] }
def N_is_integer : List PySem.Str := ["obj"]
def w_is_integer : WS :=
  (wRet (wAndV (wCB (wIsA kt xsB isB) (wCons (wVar 0) (wCons (wC (.ty "int")) wNil))) (wNotV (wCB (wIsA kt xsB isB) (wCons (wVar 0) (wCons (wC (.ty "bool")) wNil))))))
def N_is_in_range : List PySem.Str := ["obj", "low", "high"]
def w_is_in_range : WS :=
  (wRet (wAndV (wCall R_is_integer (wCons (wVar 0) wNil)) (wChain wLe wLe (wVar 1) (wVar 0) (wVar 2))))
def N_is_word : List PySem.Str := ["obj", "letter"]
def w_is_word : WS :=
  (wRet (wAndV (wCB (wIsA kt xsB isB) (wCons (wVar 0) (wCons (wC (.ty "str")) wNil))) (wAndV (wChain wLe wLe (wC (.int 1)) (wCB wLenA (wCons (wVar 0) wNil)) (wC (.int 8))) (wCB wAllL (wCons (wLc (wiStr (wVar 0)) (wgName 1) wYes (wOp (wInA false) (wVar 1) (wC (.str "abcdefghijklmnopqrstuvwxyz"))) [1]) wNil)))))
def N_check_order : List PySem.Str := ["obj", "word"]
def w_check_order : WS :=
  (wIfS (wOr (wNot (wBt (wCB (wIsA kt xsB isB) (wCons (wVar 0) (wCons (wTup (wCons (wC (.ty "list")) (wCons (wC (.ty "tuple")) wNil))) wNil))))) (wOr (wBt (wOp wGt (wCB wLenA (wCons (wVar 0) wNil)) (wC (.int 5000)))) (wNot (wBt (wCB wAllL (wCons (wLc (wiSeq (wVar 0)) (wgName 1) wYes (wCall R_is_word (wCons (wVar 1) wNil)) [1]) wNil)))))) wNever wNext)
def N_are_numbers : List PySem.Str := ["obj", "order", "key", "word"]
def w_are_numbers_1 : WS :=
  (wRet (wCB wAllL (wCons (wLc (wiKeys (wVar 0)) (wgName 2) wYes (wCall R_is_in_range (wCons (wOp wIxA (wVar 0) (wVar 2)) (wCons (wC (.int 0)) (wCons (wCB wLenA (wCons (wLc (wiSeq (wVar 1)) (wgName 3) (wBt (wOp wEq (wVar 3) (wVar 2))) (wVar 3) [3]) wNil)) wNil)))) [2]) wNil)))
def w_are_numbers : WS :=
  (wSeq (wIfS (wOr (wNot (wBt (wCB (wIsA kt xsB isB) (wCons (wVar 0) (wCons (wC (.ty "dict")) wNil))))) (wOr (wBt (wOp wEq (wCB wLenA (wCons (wVar 0) wNil)) (wC (.int 0)))) (wNot (wBt (wCB wAllL (wCons (wLc (wiKeys (wVar 0)) (wgName 2) wYes (wCall R_is_word (wCons (wVar 2) wNil)) [2]) wNil)))))) (wRet (wC (.bl false))) wNext) w_are_numbers_1)
def N_numbers_along : List PySem.Str := ["order", "key", "found", "word"]
def w_numbers_along_1 : WS :=
  (wDrop (wApp (wVar 2) (wOp wAdd (wOp wIxA (wVar 2) (wUn (fun i => -i) (wC (.int 1)))) (wCB wInt1 (wCons (wOp wEq (wVar 3) (wVar 1)) wNil)))))
def w_numbers_along_2 : WS :=
  (wRet (wFix (wVar 2)))
def w_numbers_along_3 : WS :=
  (wSeq (wFor (wiSeq (wVar 0)) (wgName 3) w_numbers_along_1) w_numbers_along_2)
def w_numbers_along : WS :=
  (wSeq (wAsg (wLstO (wCons (wC (.int 0)) wNil)) (wgName 2)) w_numbers_along_3)
def N_Cut_gap : List PySem.Str := ["self", "moment", "key"]
def w_Cut_gap : WS :=
  (wRet (wCB wMaxL (wCons (wLc (wiKeys (wFld "Cut" "own_numbers" (wVar 0))) (wgName 2) wYes (wCB wAbs (wCons (wOp (wI0 fun i j => .int (i - j)) (wOp wIxA (wFld "Cut" "own_numbers" (wVar 0)) (wVar 2)) (wOp wIxA (wOp wIxA (wFld "Cut" "tracks" (wVar 0)) (wVar 2)) (wVar 1))) wNil)) [2]) wNil)))
def N_Cut___init__ : List PySem.Str := ["self", "order", "numbers", "key", "moment", "gap"]
def w_Cut___init___1 : WS :=
  (wSetF "Cut" "own_nearest" (wVar 0) (wOp wIxA (wLc (wiEnum (wCons (wFld "Cut" "gaps" (wVar 0)) wNil)) (wgTup 2 (wgCons (wgName 4) (wgCons (wgName 5) wgNil))) (wBt (wOp wEq (wVar 5) (wFld "Cut" "own_spread" (wVar 0)))) (wVar 4) [4, 5]) (wC (.int 0))))
def w_Cut___init___2 : WS :=
  (wSeq (wSetF "Cut" "own_spread" (wVar 0) (wCB wMinL (wCons (wFld "Cut" "gaps" (wVar 0)) wNil))) w_Cut___init___1)
def w_Cut___init___3 : WS :=
  (wSeq (wSetF "Cut" "gaps" (wVar 0) (wLc (wiRng1 (wCons (wOp wAdd (wCB wLenA (wCons (wVar 1) wNil)) (wC (.int 1))) wNil)) (wgName 4) wYes (wMeth "Cut" "gap" R_Cut_gap (wVar 0) (wCons (wVar 4) wNil)) [4])) w_Cut___init___2)
def w_Cut___init___4 : WS :=
  (wSeq (wSetF "Cut" "tracks" (wVar 0) (wFix (wDc (wiKeys (wVar 2)) (wgName 3) wYes (wVar 3) (wCall R_numbers_along (wCons (wVar 1) (wCons (wVar 3) wNil))) [3]))) w_Cut___init___3)
def w_Cut___init___5 : WS :=
  (wSeq (wSetF "Cut" "own_numbers" (wVar 0) (wFix (wCB wDictOf (wCons (wVar 2) wNil)))) w_Cut___init___4)
def w_Cut___init___6 : WS :=
  (wSeq (wSetF "Cut" "own_order" (wVar 0) (wCB wTupleOf (wCons (wVar 1) wNil))) w_Cut___init___5)
def w_Cut___init___7 : WS :=
  (wSeq (wIfS (wNot (wBt (wCall R_are_numbers (wCons (wVar 2) (wCons (wVar 1) wNil))))) wNever wNext) w_Cut___init___6)
def w_Cut___init__ : WS :=
  (wSeq (wDrop (wCall R_check_order (wCons (wVar 1) wNil))) w_Cut___init___7)
def N_Cut_numbers : List PySem.Str := ["self"]
def w_Cut_numbers : WS :=
  (wRet (wFix (wCB wDictOf (wCons (wFld "Cut" "own_numbers" (wVar 0)) wNil))))
def N_Cut_spread : List PySem.Str := ["self"]
def w_Cut_spread : WS :=
  (wRet (wFld "Cut" "own_spread" (wVar 0)))
def N_Cut_nearest : List PySem.Str := ["self"]
def w_Cut_nearest : WS :=
  (wRet (wFld "Cut" "own_nearest" (wVar 0)))
def N_Cut_seen : List PySem.Str := ["self", "moments", "gap", "moment"]
def w_Cut_seen_1 : WS :=
  (wRet (wIf (wBt (wOp wNe (wVar 1) (wLst wNil))) (wTup (wCons (wOp wIxA (wVar 1) (wC (.int 0))) (wCons (wOp wIxA (wVar 1) (wUn (fun i => -i) (wC (.int 1)))) wNil))) (wC .non)))
def w_Cut_seen : WS :=
  (wSeq (wAsg (wLc (wiEnum (wCons (wFld "Cut" "gaps" (wVar 0)) wNil)) (wgTup 2 (wgCons (wgName 3) (wgCons (wgName 2) wgNil))) (wBt (wOp wEq (wVar 2) (wC (.int 0)))) (wVar 3) [3, 2]) (wgName 1)) w_Cut_seen_1)
def N_Cut_window : List PySem.Str := ["self", "key", "slack", "row", "number", "moments", "moment", "other"]
def w_Cut_window_1 : WS :=
  (wRet (wTup (wCons (wOp wIxA (wVar 5) (wC (.int 0))) (wCons (wOp wIxA (wVar 5) (wUn (fun i => -i) (wC (.int 1)))) wNil))))
def w_Cut_window_2 : WS :=
  (wSeq (wAsg (wLc (wiEnum (wCons (wVar 3) wNil)) (wgTup 2 (wgCons (wgName 6) (wgCons (wgName 7) wgNil))) (wBt (wOp wLe (wCB wAbs (wCons (wOp (wI0 fun i j => .int (i - j)) (wVar 4) (wVar 7)) wNil)) (wVar 2))) (wVar 6) [6, 7]) (wgName 5)) w_Cut_window_1)
def w_Cut_window : WS :=
  (wSeq (wParN [3, 4] (wCons (wOp wIxA (wFld "Cut" "tracks" (wVar 0)) (wVar 1)) (wCons (wOp wIxA (wFld "Cut" "own_numbers" (wVar 0)) (wVar 1)) wNil))) w_Cut_window_2)
def N_Cut_are_apart : List PySem.Str := ["self", "one", "other", "slack", "first", "second"]
def w_Cut_are_apart_1 : WS :=
  (wRet (wOrV (wOp wLt (wOp wIxA (wVar 4) (wC (.int 1))) (wOp wIxA (wVar 5) (wC (.int 0)))) (wOp wLt (wOp wIxA (wVar 5) (wC (.int 1))) (wOp wIxA (wVar 4) (wC (.int 0))))))
def w_Cut_are_apart : WS :=
  (wSeq (wPar 4 5 (wCons (wMeth "Cut" "window" R_Cut_window (wVar 0) (wCons (wVar 1) (wCons (wVar 3) wNil))) (wCons (wMeth "Cut" "window" R_Cut_window (wVar 0) (wCons (wVar 2) (wCons (wVar 3) wNil))) wNil))) w_Cut_are_apart_1)
def N_check_like : List PySem.Str := ["cut", "obj"]
def w_check_like_1 : WS :=
  (wIfS (wBt (wOp wNe (wCB wSortDS (wCons (wFld "Cut" "own_numbers" (wVar 1)) wNil)) (wCB wSortDS (wCons (wFld "Cut" "own_numbers" (wVar 0)) wNil)))) wNever wNext)
def w_check_like : WS :=
  (wSeq (wIfS (wOr (wNot (wBt (wCB (wIsA kt xsB isB) (wCons (wVar 1) (wCons (wC (.glo "Cut")) wNil))))) (wBt (wOp wNe (wFld "Cut" "own_order" (wVar 1)) (wFld "Cut" "own_order" (wVar 0))))) wNever wNext) w_check_like_1)
def N_Cut___or__ : List PySem.Str := ["self", "other", "key"]
def w_Cut___or___1 : WS :=
  (wRet (wFix (wMake "Cut" R_Cut___init__ (wCons (wFld "Cut" "own_order" (wVar 0)) (wCons (wFix (wDc (wiKeys (wFld "Cut" "tracks" (wVar 0))) (wgName 2) wYes (wVar 2) (wCB wMax2 (wCons (wOp wIxA (wFld "Cut" "own_numbers" (wVar 0)) (wVar 2)) (wCons (wOp wIxA (wFld "Cut" "own_numbers" (wVar 1)) (wVar 2)) wNil))) [2])) wNil)))))
def w_Cut___or__ : WS :=
  (wSeq (wDrop (wCall R_check_like (wCons (wVar 0) (wCons (wVar 1) wNil)))) w_Cut___or___1)
def N_Cut___and__ : List PySem.Str := ["self", "other", "key"]
def w_Cut___and___1 : WS :=
  (wRet (wFix (wMake "Cut" R_Cut___init__ (wCons (wFld "Cut" "own_order" (wVar 0)) (wCons (wFix (wDc (wiKeys (wFld "Cut" "tracks" (wVar 0))) (wgName 2) wYes (wVar 2) (wCB wMin2 (wCons (wOp wIxA (wFld "Cut" "own_numbers" (wVar 0)) (wVar 2)) (wCons (wOp wIxA (wFld "Cut" "own_numbers" (wVar 1)) (wVar 2)) wNil))) [2])) wNil)))))
def w_Cut___and__ : WS :=
  (wSeq (wDrop (wCall R_check_like (wCons (wVar 0) (wCons (wVar 1) wNil)))) w_Cut___and___1)
def N_find_bar : List PySem.Str := ["cut", "names", "pairs", "one", "other", "pair"]
def w_find_bar_1 : WS :=
  (wRet (wOp wIxA (wLc (wiSeq (wVar 2)) (wgName 5) (wBt (wMeth "Cut" "are_apart" R_Cut_are_apart (wVar 0) (wCons (wOp wIxA (wVar 5) (wC (.int 0))) (wCons (wOp wIxA (wVar 5) (wC (.int 1))) (wCons (wOp (wI0 fun i j => .int (i - j)) (wProp "Cut" "spread" R_Cut_spread (wVar 0)) (wC (.int 1))) wNil))))) (wVar 5) [5]) (wC (.int 0))))
def w_find_bar_2 : WS :=
  (wSeq (wAsg (wLc2 (wiSeq (wVar 1)) (wgName 3) wYes (wiSeq (wVar 1)) (wgName 4) (wBt (wOp wLt (wVar 3) (wVar 4))) (wTup (wCons (wVar 3) (wCons (wVar 4) wNil))) [3, 4] [4]) (wgName 2)) w_find_bar_1)
def w_find_bar_3 : WS :=
  (wSeq (wAsg (wCB wSortDS (wCons (wFld "Cut" "tracks" (wVar 0)) wNil)) (wgName 1)) w_find_bar_2)
def w_find_bar : WS :=
  (wSeq (wIfS (wBt (wOp wEq (wProp "Cut" "spread" R_Cut_spread (wVar 0)) (wC (.int 0)))) (wRet (wC .non)) wNext) w_find_bar_3)
def N_check_bar : List PySem.Str := ["cut", "obj", "key"]
def w_check_bar_1 : WS :=
  (wRet (wMeth "Cut" "are_apart" R_Cut_are_apart (wVar 0) (wCons (wOp wIxA (wVar 1) (wC (.int 0))) (wCons (wOp wIxA (wVar 1) (wC (.int 1))) (wCons (wOp (wI0 fun i j => .int (i - j)) (wProp "Cut" "spread" R_Cut_spread (wVar 0)) (wC (.int 1))) wNil)))))
def w_check_bar_2 : WS :=
  (wSeq (wIfS (wOr (wNot (wBt (wCB (wIsA kt xsB isB) (wCons (wVar 1) (wCons (wC (.ty "tuple")) wNil))))) (wOr (wBt (wOp wNe (wCB wLenA (wCons (wVar 1) wNil)) (wC (.int 2)))) (wNot (wBt (wCB wAllL (wCons (wLc (wiSeq (wVar 1)) (wgName 2) wYes (wAndV (wCall R_is_word (wCons (wVar 2) wNil)) (wOp (wInA false) (wVar 2) (wFld "Cut" "tracks" (wVar 0)))) [2]) wNil)))))) (wRet (wC (.bl false))) wNext) w_check_bar_1)
def w_check_bar : WS :=
  (wSeq (wIfS (wBt (wOp wEq (wProp "Cut" "spread" R_Cut_spread (wVar 0)) (wC (.int 0)))) (wRet (wOp (wIsN false) (wVar 1) (wC .non))) wNext) w_check_bar_2)
def N__law_source : List PySem.Str := ["_law_script", "_law_turn", "_law_cell", "_law_number", "_law_seed"]
def w__law_source_1 : WS :=
  (wRet (wLstO (wCons (wVar 3) (wCons (wVar 4) wNil))))
def w__law_source_2 : WS :=
  (wSeq (wIfS (wBt (wOp wLt (wVar 3) (wOp (wII L2.CPow fun i j => .int (i ^ j.toNat)) (wC (.int 10)) (wC (.int 18))))) (wAsg (wC (.int 0)) (wgName 3)) wNext) w__law_source_1)
def w__law_source_3 : WS :=
  (wSeq (wAsg (wOp (wII (fun _ j => 0 < j) fun i j => .int (i % j)) (wOp wAdd (wOp wAdd (wOp wMul (wOp (wII (fun _ j => 0 < j) fun i j => .int (i % j)) (wVar 3) (wC (.int 2147483629))) (wC (.int 16807))) (wOp wMul (wC (.int 104729)) (wVar 1))) (wC (.int 11))) (wC (.int 2147483647))) (wgName 4)) w__law_source_2)
def w__law_source_4 : WS :=
  (wSeq (wAsg (wCB wMax2 (wCons (wVar 2) (wCons (wOp (wI0 fun i j => .int (i - j)) (wUn (fun i => -i) (wC (.int 1))) (wVar 2)) wNil))) (wgName 3)) w__law_source_3)
def w__law_source_5 : WS :=
  (wSeq (wIfS (wBt (wOp wLt (wVar 1) (wCB wLenA (wCons (wVar 0) wNil)))) (wAsg (wOp wIxA (wVar 0) (wVar 1)) (wgName 2)) wNext) w__law_source_4)
def w__law_source : WS :=
  (wSeq (wAsg (wC (.int 0)) (wgName 2)) w__law_source_5)
def N__law_draw : List PySem.Str := ["_law_source_here", "_law_amount", "_law_digit"]
def w__law_draw_1 : WS :=
  (wRet (wVar 2))
def w__law_draw_2 : WS :=
  (wSeq (wAsg (wOp (wII L2.CDivW fun i j => .int (i / j)) (wOp wIxA (wVar 0) (wC (.int 0))) (wVar 1)) (wgSub (wVar 0) (wC (.int 0)))) w__law_draw_1)
def w__law_draw_3 : WS :=
  (wRet (wOp (wII (fun _ j => 0 < j) fun i j => .int (i % j)) (wOp (wII L2.CDivW fun i j => .int (i / j)) (wOp (wII (fun _ j => 0 < j) fun i j => .int (i % j)) (wOp wMul (wOp wIxA (wVar 0) (wC (.int 1))) (wOp wIxA (wVar 0) (wC (.int 1)))) (wC (.int 2147483629))) (wC (.int 64))) (wVar 1)))
def w__law_draw_4 : WS :=
  (wSeq (wAsg (wOp (wII (fun _ j => 0 < j) fun i j => .int (i % j)) (wOp wAdd (wOp wMul (wOp wIxA (wVar 0) (wC (.int 1))) (wC (.int 48271))) (wC (.int 11))) (wC (.int 2147483647))) (wgSub (wVar 0) (wC (.int 1)))) w__law_draw_3)
def w__law_draw : WS :=
  (wSeq (wIfS (wBt (wOp wGt (wOp wIxA (wVar 0) (wC (.int 0))) (wC (.int 0)))) (wSeq (wAsg (wOp (wII (fun _ j => 0 < j) fun i j => .int (i % j)) (wOp wIxA (wVar 0) (wC (.int 0))) (wVar 1)) (wgName 2)) w__law_draw_2) wNext) w__law_draw_4)
def N__law_order : List PySem.Str := ["_law_source_here", "_law_most", "_law_words", "_law_attempt"]
def w__law_order_1 : WS :=
  (wRet (wLc (wiRng1 (wCons (wCall R__law_draw (wCons (wVar 0) (wCons (wOp wAdd (wVar 1) (wC (.int 1))) wNil))) wNil)) (wgName 3) wYes (wOp wIxA (wVar 2) (wCall R__law_draw (wCons (wVar 0) (wCons (wCB wLenA (wCons (wVar 2) wNil)) wNil)))) [3]))
def w__law_order : WS :=
  (wSeq (wAsg (wSl (wLst (wCons (wC (.str "a")) (wCons (wC (.str "key")) (wCons (wC (.str "zz")) wNil)))) wNoPart (wPart (wOp wAdd (wC (.int 1)) (wCall R__law_draw (wCons (wVar 0) (wCons (wC (.int 3)) wNil)))))) (wgName 2)) w__law_order_1)
def N__law_numbers : List PySem.Str := ["_law_source_here", "_law_order_here", "_law_some", "_law_words", "_law_word"]
def w__law_numbers_1 : WS :=
  (wRet (wFix (wCB wDictOf (wCons (wLc (wiSeq (wVar 3)) (wgName 4) wYes (wTup (wCons (wVar 4) (wCons (wCall R__law_draw (wCons (wVar 0) (wCons (wOp wAdd (wCnt (wVar 1) (wVar 4)) (wC (.int 1))) wNil))) wNil))) [4]) wNil))))
def w__law_numbers_2 : WS :=
  (wSeq (wAsg (wIf (wBt (wOp wNe (wVar 2) (wLst wNil))) (wVar 2) (wLst (wCons (wC (.str "key")) wNil))) (wgName 3)) w__law_numbers_1)
def w__law_numbers : WS :=
  (wSeq (wAsg (wLc (wiSeq (wLst (wCons (wC (.str "a")) (wCons (wC (.str "key")) (wCons (wC (.str "zz")) (wCons (wC (.str "far")) wNil)))))) (wgName 4) (wBt (wOp wGt (wCall R__law_draw (wCons (wVar 0) (wCons (wC (.int 3)) wNil))) (wC (.int 0)))) (wVar 4) [4]) (wgName 2)) w__law_numbers_2)
def N__law_gap : List PySem.Str := ["_law_order_here", "_law_numbers_here", "_law_moment", "_law_word"]
def w__law_gap : WS :=
  (wRet (wCB wMaxL (wCons (wLc (wiKeys (wVar 1)) (wgName 3) wYes (wCB wAbs (wCons (wOp (wI0 fun i j => .int (i - j)) (wOp wIxA (wVar 1) (wVar 3)) (wCnt (wSl (wVar 0) wNoPart (wPart (wVar 2))) (wVar 3))) wNil)) [3]) wNil)))
def N__law_at : List PySem.Str := ["_law_order_here", "_law_words", "_law_moment", "_law_word"]
def w__law_at : WS :=
  (wRet (wFix (wCB wDictOf (wCons (wLc (wiKeys (wVar 1)) (wgName 3) wYes (wTup (wCons (wVar 3) (wCons (wCnt (wSl (wVar 0) wNoPart (wPart (wVar 2))) (wVar 3)) wNil))) [3]) wNil))))
def N__law_bars : List PySem.Str := ["_law_order_here", "_law_numbers_here", "_law_pair", "_law_slack", "_law_moment", "_law_word"]
def w__law_bars_1 : WS :=
  (wIfS (wBt (wOp wLe (wCB wMaxL (wCons (wLc (wiSeq (wVar 2)) (wgName 5) wYes (wCB wAbs (wCons (wOp (wI0 fun i j => .int (i - j)) (wOp wIxA (wVar 1) (wVar 5)) (wCnt (wSl (wVar 0) wNoPart (wPart (wVar 4))) (wVar 5))) wNil)) [5]) wNil)) (wVar 3))) (wRet (wC (.bl false))) wNext)
def w__law_bars_2 : WS :=
  (wRet (wC (.bl true)))
def w__law_bars : WS :=
  (wSeq (wFor (wiRng1 (wCons (wOp wAdd (wCB wLenA (wCons (wVar 0) wNil)) (wC (.int 1))) wNil)) (wgName 4) w__law_bars_1) w__law_bars_2)
def N__law_right : List PySem.Str := ["_law_order_here", "_law_numbers_here", "_law_cut", "_law_gaps", "_law_least", "_law_seen", "_law_due", "_law_found", "_law_one", "_law_other", "_law_moment"]
def w__law_right_1 : WS :=
  (wIfS (wBt (wOp wGt (wProp "Cut" "spread" R_Cut_spread (wFix (wMake "Cut" R_Cut___init__ (wCons (wVar 0) (wCons (wFix (wDisp [((wVar 8), (wOp wIxA (wVar 1) (wVar 8))), ((wVar 9), (wOp wIxA (wVar 1) (wVar 9)))])) wNil))))) (wVar 4))) (wRet (wC (.bl false))) wNext)
def w__law_right_2 : WS :=
  (wSeq (wIfS (wBt (wOp wNe (wCall R_check_bar (wCons (wVar 2) (wCons (wTup (wCons (wVar 8) (wCons (wVar 9) wNil))) wNil))) (wAndV (wOp wNe (wVar 8) (wVar 9)) (wCall R__law_bars (wCons (wVar 0) (wCons (wVar 1) (wCons (wTup (wCons (wVar 8) (wCons (wVar 9) wNil))) (wCons (wOp (wI0 fun i j => .int (i - j)) (wVar 4) (wC (.int 1))) wNil)))))))) (wRet (wC (.bl false))) wNext) w__law_right_1)
def w__law_right_3 : WS :=
  (wFor (wiKeys (wVar 1)) (wgName 9) w__law_right_2)
def w__law_right_4 : WS :=
  (wRet (wC (.bl true)))
def w__law_right_5 : WS :=
  (wSeq (wFor (wiKeys (wVar 1)) (wgName 8) w__law_right_3) w__law_right_4)
def w__law_right_6 : WS :=
  (wSeq (wIfS (wOr (wBt (wCall R_check_bar (wCons (wVar 2) (wCons (wC .non) wNil)))) (wBt (wOp (wIsB true) (wCall R_check_bar (wCons (wVar 2) (wCons (wVar 7) wNil))) (wC (.bl true))))) (wRet (wC (.bl false))) wNext) w__law_right_5)
def w__law_right_7 : WS :=
  (wSeq (wIfS (wOr (wNot (wBt (wCB (wIsA kt xsB isB) (wCons (wVar 7) (wCons (wC (.ty "tuple")) wNil))))) (wOr (wBt (wOp wNe (wCB wLenA (wCons (wVar 7) wNil)) (wC (.int 2)))) (wNot (wBt (wCall R__law_bars (wCons (wVar 0) (wCons (wVar 1) (wCons (wVar 7) (wCons (wOp (wI0 fun i j => .int (i - j)) (wVar 4) (wC (.int 1))) wNil))))))))) (wRet (wC (.bl false))) wNext) w__law_right_6)
def w__law_right_8 : WS :=
  (wSeq (wIfS (wBt (wOp wEq (wVar 4) (wC (.int 0)))) (wRet (wAndV (wOp (wIsN false) (wVar 7) (wC .non)) (wAndV (wOp (wIsB false) (wCall R_check_bar (wCons (wVar 2) (wCons (wC .non) wNil))) (wC (.bl true))) (wOp (wIsB false) (wCall R_check_bar (wCons (wVar 2) (wCons (wTup (wCons (wC (.str "a")) (wCons (wC (.str "key")) wNil))) wNil))) (wC (.bl false)))))) wNext) w__law_right_7)
def w__law_right_9 : WS :=
  (wSeq (wAsg (wCall R_find_bar (wCons (wVar 2) wNil)) (wgName 7)) w__law_right_8)
def w__law_right_10 : WS :=
  (wSeq (wIfS (wBt (wOp wNe (wLst (wCons (wProp "Cut" "spread" R_Cut_spread (wVar 2)) (wCons (wProp "Cut" "nearest" R_Cut_nearest (wVar 2)) (wCons (wProp "Cut" "seen" R_Cut_seen (wVar 2)) wNil)))) (wLst (wCons (wVar 4) (wCons (wIdx (wVar 3) (wVar 4)) (wCons (wVar 6) wNil)))))) (wRet (wC (.bl false))) wNext) w__law_right_9)
def w__law_right_11 : WS :=
  (wSeq (wAsg (wIf (wBt (wOp wEq (wVar 5) (wLst wNil))) (wC .non) (wTup (wCons (wOp wIxA (wVar 5) (wC (.int 0))) (wCons (wOp wIxA (wVar 5) (wUn (fun i => -i) (wC (.int 1)))) wNil)))) (wgName 6)) w__law_right_10)
def w__law_right_12 : WS :=
  (wSeq (wAsg (wLc (wiRng1 (wCons (wCB wLenA (wCons (wVar 3) wNil)) wNil)) (wgName 10) (wBt (wOp wEq (wOp wIxA (wVar 3) (wVar 10)) (wC (.int 0)))) (wVar 10) [10]) (wgName 5)) w__law_right_11)
def w__law_right_13 : WS :=
  (wSeq (wAsg (wCB wMinL (wCons (wVar 3) wNil)) (wgName 4)) w__law_right_12)
def w__law_right_14 : WS :=
  (wSeq (wAsg (wLc (wiRng1 (wCons (wOp wAdd (wCB wLenA (wCons (wVar 0) wNil)) (wC (.int 1))) wNil)) (wgName 10) wYes (wCall R__law_gap (wCons (wVar 0) (wCons (wVar 1) (wCons (wVar 10) wNil)))) [10]) (wgName 3)) w__law_right_13)
def w__law_right : WS :=
  (wSeq (wAsg (wFix (wMake "Cut" R_Cut___init__ (wCons (wVar 0) (wCons (wVar 1) wNil)))) (wgName 2)) w__law_right_14)
def N_law : List PySem.Str := ["_law_script", "_law_turn", "_law_source_here", "_law_attempt", "_law_order_here", "_law_drawn", "_law_moments", "_law_first", "_law_second", "_law_mixed", "_law_numbers_here", "_law_both", "_law_less", "_law_one", "_law_word"]
def w_law_1 : WS :=
  (wIfS (wNot (wBt (wCall R__law_right (wCons (wVar 4) (wCons (wVar 10) wNil))))) (wRet (wC (.bl false))) wNext)
def w_law_2 : WS :=
  (wIfS (wOr (wBt (wOp (wIsN false) (wProp "Cut" "seen" R_Cut_seen (wVar 11)) (wC .non))) (wNot (wBt (wChain wLe wLe (wOp wIxA (wProp "Cut" "seen" R_Cut_seen (wVar 11)) (wC (.int 0))) (wCB wMaxL (wCons (wVar 6) wNil)) (wOp wIxA (wProp "Cut" "seen" R_Cut_seen (wVar 11)) (wC (.int 1))))))) (wRet (wC (.bl false))) wNext)
def w_law_3 : WS :=
  (wSeq (wIfS (wBt (wOp (wEqA true) (wProp "Cut" "numbers" R_Cut_numbers (wVar 12)) (wCall R__law_at (wCons (wVar 4) (wCons (wVar 5) (wCons (wCB wMinL (wCons (wVar 6) wNil)) wNil)))))) (wRet (wC (.bl false))) wNext) w_law_2)
def w_law_4 : WS :=
  (wSeq (wIfS (wBt (wOp (wEqA true) (wProp "Cut" "numbers" R_Cut_numbers (wVar 11)) (wCall R__law_at (wCons (wVar 4) (wCons (wVar 5) (wCons (wCB wMaxL (wCons (wVar 6) wNil)) wNil)))))) (wRet (wC (.bl false))) wNext) w_law_3)
def w_law_5 : WS :=
  (wSeq (wAsg (wBin "Cut" R_Cut___and__ (wFix (wMake "Cut" R_Cut___init__ (wCons (wVar 4) (wCons (wVar 7) wNil)))) (wFix (wMake "Cut" R_Cut___init__ (wCons (wVar 4) (wCons (wVar 8) wNil))))) (wgName 12)) w_law_4)
def w_law_6 : WS :=
  (wSeq (wAsg (wBin "Cut" R_Cut___or__ (wFix (wMake "Cut" R_Cut___init__ (wCons (wVar 4) (wCons (wVar 7) wNil)))) (wFix (wMake "Cut" R_Cut___init__ (wCons (wVar 4) (wCons (wVar 8) wNil))))) (wgName 11)) w_law_5)
def w_law_7 : WS :=
  (wSeq (wFor (wiSeq (wLst (wCons (wVar 5) (wCons (wVar 7) (wCons (wVar 8) (wCons (wVar 9) wNil)))))) (wgName 10) w_law_1) w_law_6)
def w_law_8 : WS :=
  (wSeq (wAsg (wFix (wCB wDictOf (wCons (wLc (wiKeys (wVar 5)) (wgName 14) wYes (wTup (wCons (wVar 14) (wCons (wOp wIxA (wOp wIxA (wLst (wCons (wVar 7) (wCons (wVar 8) wNil))) (wCall R__law_draw (wCons (wVar 2) (wCons (wC (.int 2)) wNil)))) (wVar 14)) wNil))) [14]) wNil))) (wgName 9)) w_law_7)
def w_law_9 : WS :=
  (wSeq (wParN [7, 8] (wCons (wCall R__law_at (wCons (wVar 4) (wCons (wVar 5) (wCons (wOp wIxA (wVar 6) (wC (.int 0))) wNil)))) (wCons (wCall R__law_at (wCons (wVar 4) (wCons (wVar 5) (wCons (wOp wIxA (wVar 6) (wC (.int 1))) wNil)))) wNil))) w_law_8)
def w_law_10 : WS :=
  (wSeq (wAsg (wLc (wiRng1 (wCons (wC (.int 2)) wNil)) (wgName 13) wYes (wCall R__law_draw (wCons (wVar 2) (wCons (wOp wAdd (wCB wLenA (wCons (wVar 4) wNil)) (wC (.int 1))) wNil))) [13]) (wgName 6)) w_law_9)
def w_law_11 : WS :=
  (wSeq (wAsg (wCall R__law_numbers (wCons (wVar 2) (wCons (wVar 4) wNil))) (wgName 5)) w_law_10)
def w_law_12 : WS :=
  (wSeq (wAsg (wCall R__law_order (wCons (wVar 2) (wCons (wC (.int 30)) wNil))) (wgName 4)) w_law_11)
def w_law_13 : WS :=
  (wFor (wiRng1 (wCons (wC (.int 3)) wNil)) (wgName 3) w_law_12)
def w_law_14 : WS :=
  (wSeq (wAsg (wCall R__law_source (wCons (wVar 0) (wCons (wVar 1) wNil))) (wgName 2)) w_law_13)
def w_law_15 : WS :=
  (wRet (wC (.bl true)))
def w_law : WS :=
  (wSeq (wFor (wiRng1 (wCons (wCB wMax2 (wCons (wC (.int 1)) (wCons (wCB wMin2 (wCons (wCB wLenA (wCons (wVar 0) wNil)) (wCons (wC (.int 8)) wNil))) wNil))) wNil)) (wgName 1) w_law_14) w_law_15)
end K41
namespace K41
open PySem PySem.Spec PyProof.Rows L2 Sy
theorem p__law_draw : ∀ rs ms q qx, R__law_draw rs ms q qx → w__law_draw (endsF q) (startE N__law_draw rs qx) ms := by
  rintro rs ms q qx ⟨j, n, s, m, rfl, e, ⟨hn, hs, hs2⟩, hm, hm2, k⟩
  have hj : j < ms.length := by
    rcases Nat.lt_or_ge j ms.length with h | h
    · exact h
    · rw [List.getElem?_eq_none h] at e; cases e
  have es : ∀ c : Cell, (ms.set j c)[j]? = some c := fun c => by simp [hj]
  clear hj
  simp [w__law_draw, N__law_draw, src, atD, ixN, CMul, CDivW, e, es]
  obtain ⟨h1, h2⟩ := mod_src (z := s * 48271 + 11)
  split
  · simp [w__law_draw_2, w__law_draw_1, atD, ixN, CDivW, src, e, es]
    refine ⟨hm, ⟨hm, hm2⟩, k _ _ _ (Int.emod_nonneg _ (by omega)) (Int.emod_lt_of_pos _ hm) ⟨Int.ediv_nonneg hn (by omega), hs, hs2⟩⟩
  · simp [w__law_draw_4, w__law_draw_3, CMul, CDivW, atD, ixN, src, e, es]
    exact ⟨by omega, by decide, hm, k _ _ _ (Int.emod_nonneg _ (by omega)) (Int.emod_lt_of_pos _ hm) ⟨hn, h1, h2⟩⟩
section
variable {q : KR} {qx : KXF} {ms : Ms} {ns : List Int} {t : Int} (k : ∀ n s, SrcOk n s → q (.own ms.length) (ms ++ [src n s]))
include k
theorem src_2 {c n s : Int} (hn : 0 ≤ n) (hs : 0 ≤ s ∧ s < 2147483647) : w__law_source_2 (endsF q) ⟨[some (.scr ns), some (.int t), some (.int c), some (.int n), some (.int s)], fun _ C fs ms => qx C fs ms, Str.empty, []⟩ ms := by
  simp [w__law_source_2, w__law_source_1, CPow]
  split
  · exact ⟨by decide, k _ _ ⟨Int.le_refl 0, hs.1, hs.2⟩⟩
  · exact ⟨by decide, k _ _ ⟨hn, hs.1, hs.2⟩⟩
theorem src_3 {c n : Int} (hn : 0 ≤ n) (ht : 0 ≤ t ∧ t < 1000) : w__law_source_3 (endsF q) ⟨[some (.scr ns), some (.int t), some (.int c), some (.int n), none], fun _ C fs ms => qx C fs ms, Str.empty, []⟩ ms := by
  simp [w__law_source_3, CMul]
  exact src_2 k hn mod_src
theorem src_4 {c : Int} (ht : 0 ≤ t ∧ t < 1000) : w__law_source_4 (endsF q) ⟨[some (.scr ns), some (.int t), some (.int c), none, none], fun _ C fs ms => qx C fs ms, Str.empty, []⟩ ms :=
  src_3 k (n := if -1 - c > c then -1 - c else c) (by split <;> omega) ht
end
theorem p__law_source : ∀ rs ms q qx, R__law_source rs ms q qx → w__law_source (endsF q) (startE N__law_source rs qx) ms := by
  rintro rs ms q qx ⟨ns, t, rfl, ht, ht2, k⟩
  simp [w__law_source, w__law_source_5, N__law_source]
  split
  · rename_i h
    exact ⟨ht, h, src_4 k ⟨ht, ht2⟩⟩
  · exact src_4 k ⟨ht, ht2⟩
end K41
namespace K41
open PySem PySem.Spec PyProof.Rows L2 Sy
theorem kt_int : kt (.bt "int") (.bt "int") = some true := by decide +kernel
theorem kt_intb : kt (.bt "int") (.bt "bool") = some false := by decide +kernel
theorem kt_str : kt (.bt "str") (.bt "str") = some true := by decide +kernel
theorem kt_list : kt (.bt "list") (.bt "list") = some true := by decide +kernel
theorem kt_tup : kt (.bt "tuple") (.bt "tuple") = some true := by decide +kernel
theorem kt_tupl : kt (.bt "tuple") (.bt "list") = some false := by decide +kernel
theorem kt_dict : kt (.bt "dict") (.bt "dict") = some true := by decide +kernel
theorem kt_non : kt (.bt "NoneType") (.bt "tuple") = some false := by decide +kernel
theorem kt_cut : kt (.own "Cut") (.own "Cut") = some true := by decide +kernel
theorem isB_cut : isB "Cut" = true := by decide +kernel
theorem p_is_integer : ∀ rs ms q qx, R_is_integer rs ms q qx → w_is_integer (endsF q) (startE N_is_integer rs qx) ms := by
  rintro rs ms q qx ⟨i, rfl, k⟩
  simp [w_is_integer, N_is_integer, kt_int, kt_intb]
  exact k
theorem p_is_in_range : ∀ rs ms q qx, R_is_in_range rs ms q qx → w_is_in_range (endsF q) (startE N_is_in_range rs qx) ms := by
  rintro rs ms q qx ⟨i, lo, hi, rfl, h1, h2, k⟩
  simp [w_is_in_range, N_is_in_range]
  exact ⟨i, rfl, by simp [h1, h2]; exact k⟩
def ltrs : PySem.Str := "abcdefghijklmnopqrstuvwxyz"
theorem wd_ok : (wds.all fun x => decide (1 ≤ x.length) && decide (x.length ≤ 8) && x.cps.toList.all fun c => decide (c ∈ ltrs.cps.toList)) = true := by decide +kernel
theorem wd_len {x : PySem.Str} (h : x ∈ wds) : 1 ≤ x.length ∧ x.length ≤ 8 ∧ ∀ c ∈ x.cps.toList, c ∈ ltrs.cps.toList := by
  have := List.all_eq_true.mp wd_ok x h
  simp only [Bool.and_eq_true, decide_eq_true_eq, List.all_eq_true] at this
  exact ⟨this.1.1, this.1.2, fun c hc => this.2 c hc⟩
theorem wd_shape : (wds.all fun x => SeqAt.shaped (.str x)) = true := by decide +kernel
theorem wd_sh {x : PySem.Str} (h : x ∈ wds) : SeqAt.shaped (.str x) = true := List.all_eq_true.mp wd_shape x h
theorem p_is_word : ∀ rs ms q qx, R_is_word rs ms q qx → w_is_word (endsF q) (startE N_is_word rs qx) ms := by
  rintro rs ms q qx ⟨x, rfl, hx, k⟩
  have hs := size_big
  obtain ⟨h1, h2, h3⟩ := wd_len hx
  have h1' : (1 : Int) ≤ (x.length : Nat) := by omega
  have h2' : ((x.length : Nat) : Int) ≤ 8 := by omega
  have hl : x.cps.toList.length = x.length := by simp [Str.length]
  simp only [w_is_word, N_is_word, wRet, wAndV, wCB, wCons, wNil, wVar, wC, wIsA, startE, List.map, List.getElem?_cons_zero, List.cons_append, kindV, clsK, kt_str, wChain, wLenA, dicOf, wLen, look, wLc, wiStr]
  simp [h1', h2', -lcW]
  refine ⟨by omega, ?_⟩
  refine lcW_M (f := fun c => .str ⟨#[c]⟩) (g := fun _ => .bl true) (xs := x.cps.toList) ?_ (by omega) ?_
  · intro c hc kk hk
    have hm : c ∈ ltrs.cps.toList := h3 c hc
    have : decide (c ∈ ltrs.cps.toList) = true := by simpa using hm
    simp only [wgName, Env.put, wOp, wVar, wC, wInA, dicOf]
    simp
    have e : decide (c ∈ (Str.ofString "abcdefghijklmnopqrstuvwxyz").cps) = true := by
      rw [decide_eq_true_eq]; exact Array.mem_toList_iff.mp hm
    rw [e]; exact hk
  · rw [all_bl]
    exact ⟨_, rfl, by simpa using k⟩
end K41
namespace K41
open PySem PySem.Spec PyProof.Rows L2 Sy
theorem p_check_order : ∀ rs ms q qx, R_check_order rs ms q qx → w_check_order (endsF q) (startE N_check_order rs qx) ms := by
  rintro rs ms q qx ⟨o, ws, rfl, ho, hw, k⟩
  have hs := size_big
  have hl := hw.len
  have h2 : 2 ≤ sizeLine := by omega
  have h5 : ¬ (5000 : Int) < (ws.length : Nat) := by omega
  have go : ∀ (x : Dat) (kk : List Dat → Ms → Prop), kk ((List.replicate ws.length true).map Dat.bl) ms → lcW (wgName 1) wYes (wCall R_is_word (wCons (wVar 1) wNil)) (wipeE ⟨[some x, none], fun _ C fs ms => qx C fs ms, Str.empty, []⟩ [1]) kk (ws.map .str) [] ms := by
    intro x kk hk
    refine lcW_M (f := .str) (g := fun _ => .bl true) ?_ (by omega) (by rw [all_bl]; exact hk)
    intro y hy kk hk
    exact ⟨y, rfl, hw.mem y hy, hk⟩
  rcases ho with rfl | rfl
  · simp [w_check_order, N_check_order, kt_list, h2, wsD, h5, -lcW]
    refine go _ _ ?_
    exact ⟨_, rfl, by simp, k⟩
  · simp [w_check_order, N_check_order, kt_tup, kt_tupl, h2, wsD, h5, -lcW]
    refine go _ _ ?_
    exact ⟨_, rfl, by simp, k⟩
theorem getK_dnm {nm : List (PySem.Str × Int)} (nd : (nm.map (·.1)).Nodup) {p : PySem.Str × Int} (hp : p ∈ nm) : getK (dnm nm) (.inr p.1) = some (.int p.2) := by
  induction nm with
  | nil => cases hp
  | cons a l ih =>
    simp only [List.map_cons, List.nodup_cons] at nd
    rcases List.mem_cons.mp hp with rfl | h
    · simp [dnm]
    · have : a.1 ≠ p.1 := fun e => nd.1 (e ▸ List.mem_map.mpr ⟨p, h, rfl⟩)
      have ih := ih nd.2 h
      simp only [dnm] at ih ⊢
      simp [this, ih]
theorem keys_dnm {nm : List (PySem.Str × Int)} : (dnm nm).map (fun p => datK p.1) = nm.map (fun p => .str p.1) := by simp [dnm]
theorem filt_count {ws : List PySem.Str} {x : PySem.Str} : (((ws.filter fun y => y == x).length : Nat) : Int) = cn ws x ws.length := by
  unfold cn
  rw [List.take_length, ← List.countP_eq_length_filter]
  rfl
theorem p_are_numbers : ∀ rs ms q qx, R_are_numbers rs ms q qx → w_are_numbers (endsF q) (startE N_are_numbers rs qx) ms := by
  rintro rs ms q qx ⟨o, ws, nm, rfl, ho, hw, hn, k⟩
  have hs := size_big
  have hl := hw.len
  have hnl := hn.len
  have h0 : ¬ nm.length = 0 := fun e => hn.ne (List.eq_nil_of_length_eq_zero e)
  have hd : (dnm nm).length = nm.length := by simp [dnm]
  have inner : ∀ (a b : Dat) (p : PySem.Str × Int), p ∈ nm → ∀ (ex : KX) (kk : List Dat → Ms → Prop), kk ((ws.filter fun y => y == p.1).map Dat.str) ms → lcW (wgName 3) (wBt (wOp wEq (wVar 3) (wVar 2))) (wVar 3) ⟨[some a, some b, some (.str p.1), none], ex, Str.empty, []⟩ kk (wsD ws) [] ms := by
    intro a b p hp ex kk hk
    refine lcW_T (f := .str) (p := fun y => y == p.1) (g := .str) ?_ (by simp; omega) hk
    intro y hy kk hk
    have s1 := wd_sh (hw.mem y hy)
    have s2 := wd_sh (hn.mem p hp)
    simp [s1, s2]
    by_cases e : y = p.1
    · simpa [e] using hk
    · simpa [e] using hk
  have tail : ∀ (v2 v3 : Option Dat), w_are_numbers_1 (endsF q) ⟨[some (.dic (dnm nm)), some o, v2, v3], fun _ C fs ms => qx C fs ms, Str.empty, []⟩ ms := by
    intro v2 v3
    simp only [w_are_numbers_1, wRet, wCB, wCons, wNil, wLc, wiKeys, wVar, List.getElem?_cons_zero, frzOf]
    rw [keys_dnm]
    refine lcW_M (xs := nm) (f := fun p => .str p.1) (g := fun _ => .bl true) ?_ (by omega) ?_
    rotate_left
    · rw [all_bl]
      exact ⟨_, rfl, by simpa using k⟩
    intro p hp kk hk
    have hg := getK_dnm hn.nd hp
    have h1 := hn.low p hp
    have h2 := hn.high p hp
    rw [← filt_count] at h2
    rcases ho with rfl | rfl
    · simp [hg, -lcW]
      refine inner _ _ p hp _ _ ?_
      simp
      exact ⟨_, _, _, rfl, h1, h2, hk⟩
    · simp [hg, -lcW]
      refine inner _ _ p hp _ _ ?_
      simp
      exact ⟨_, _, _, rfl, h1, h2, hk⟩
  simp only [w_are_numbers, N_are_numbers]
  simp [kt_dict, hd, h0, -lcW, -datK]
  rw [keys_dnm]
  refine lcW_M (xs := nm) (f := fun p => .str p.1) (g := fun _ => .bl true) ?_ (by omega) ?_
  rotate_left
  · rw [all_bl]
    exact ⟨_, rfl, by simpa using tail _ _⟩
  intro p hp kk hk
  exact ⟨p.1, rfl, hn.mem p hp, hk⟩
end K41
namespace K41
open PySem PySem.Spec PyProof.Rows L2 Sy
theorem atD_nums {ns : List Int} {m : Nat} {i : Int} (h : ns[m]? = some i) : atD (nums ns) (m : Nat) = some (.int i) := by
  have hl := (List.getElem?_eq_some_iff.mp h).1
  have e : (nums ns)[m]? = some (.int i) := by simp [nums, h]
  have l : (nums ns).length = ns.length := by simp [nums]
  simp [atD, ixN, l]
  rw [if_pos (by omega)]; exact e
theorem trk_at {ws : List PySem.Str} {x : PySem.Str} {m : Nat} (h : m ≤ ws.length) : (trk ws x)[m]? = some (cn ws x m) := by
  unfold trk
  rw [List.getElem?_map, List.getElem?_range (by omega)]
  rfl
theorem atD_trk {ws : List PySem.Str} {x : PySem.Str} {m : Nat} (h : m ≤ ws.length) : atD (nums (trk ws x)) (m : Nat) = some (.int (cn ws x m)) := atD_nums (trk_at h)
theorem atD_last {ds : List Dat} {d : Dat} : atD (ds ++ [d]) (-1) = some d := by
  unfold atD ixN
  simp
  rw [if_pos (by omega)]
  rw [show (-1 + ((ds.length : Int) + 1)).toNat = ds.length by omega]
  simp
def pre (ws : List PySem.Str) (x : PySem.Str) (n : Nat) : List Int := (List.range (n + 1)).map (cn ws x)
theorem pre_s {ws : List PySem.Str} {x : PySem.Str} {n : Nat} : pre ws x (n + 1) = pre ws x n ++ [cn ws x (n + 1)] := by
  unfold pre; rw [List.range_succ, List.map_append]; rfl
theorem nums_last {ws : List PySem.Str} {x : PySem.Str} {n : Nat} : ∃ l, nums (pre ws x n) = l ++ [.int (cn ws x n)] := by
  cases n with
  | zero => exact ⟨[], rfl⟩
  | succ n => exact ⟨nums (pre ws x n), by rw [pre_s]; simp [nums]⟩
theorem cn_eq {ws : List PySem.Str} {x y : PySem.Str} {n : Nat} (h : ws[n]? = some y) : cn ws x n + (if (y == x) = true then 1 else 0) = cn ws x (n + 1) := by
  unfold cn
  rw [List.take_add_one, h, List.count_append]
  by_cases e : y = x
  · subst e; simp
  · simp [List.count_cons, e]
theorem along_go {ws : List PySem.Str} {x : PySem.Str} (hw : WsOk ws) (hx : x ∈ wds) {E : WEnds} {ms : Ms} {o : Dat} {ex : KX} {xc : PySem.Str} {xf : List (PySem.Str × Dat)}
    (hE : ∀ v3, E.nx ⟨[some o, some (.str x), some (.own ms.length), v3], ex, xc, xf⟩ (ms ++ [.lst (nums (trk ws x))])) :
    ∀ (suf : List PySem.Str) (n : Nat), ws.drop n = suf → n ≤ ws.length → ∀ v3, forW (wgName 3) w_numbers_along_1 E (suf.map .str) ⟨[some o, some (.str x), some (.own ms.length), v3], ex, xc, xf⟩ (ms ++ [.lst (nums (pre ws x n))]) := by
  intro suf
  induction suf with
  | nil =>
    intro n hd hn v3
    have : n = ws.length := by
      have := congrArg List.length hd
      simp at this; omega
    subst this
    exact hE v3
  | cons y suf ih =>
    intro n hd hn v3
    have hs := size_big
    have hl := hw.len
    have hget : ws[n]? = some y := by
      have := congrArg List.head? hd
      simpa using this
    have hlt : n < ws.length := (List.getElem?_eq_some_iff.mp hget).1
    have hd' : ws.drop (n + 1) = suf := by
      have := congrArg List.tail hd
      simpa using this
    have hy : y ∈ wds := hw.mem y (List.mem_of_getElem? hget)
    obtain ⟨l, el⟩ := nums_last (ws := ws) (x := x) (n := n)
    have sy := wd_sh hy
    have sx := wd_sh hx
    have ec := cn_eq (x := x) hget
    have hlen : (nums (pre ws x n)).length = n + 1 := by simp [nums, pre]
    have key := ih (n + 1) hd' (by omega) (some (.str y))
    rw [pre_s, ← ec] at key
    have hlen' : (l ++ [Dat.int (cn ws x n)]).length = n + 1 := by rw [← el]; exact hlen
    have hsz : n + 1 < sizeLine := by omega
    simp only [List.map_cons, forW, wgName, w_numbers_along_1]
    rw [el]
    have ee : ∀ c : Cell, (ms ++ [c])[ms.length]? = some c := fun c => by simp
    have es : ∀ c c' : Cell, (ms ++ [c]).set ms.length c' = ms ++ [c'] := fun c c' => by simp
    simp only [wDrop, wApp, wOp, wVar, wIxA, wIx, wUn, wC, wCB, wCons, wNil, wEq, wInt1, Env.put, List.set, List.getElem?_cons_zero, List.getElem?_cons_succ, ee, dicOf, look, cellD, Option.bind_some, atD_last]
    refine ⟨_, _, rfl, rfl, rfl, rfl, sy, sx, ?_⟩
    simp only [toPy, PyData.eqv]
    simp only [wAdd, look, ee, es, hlen', hsz, true_and]
    rw [← el]
    simpa [nums, w_numbers_along_1] using key
theorem p_numbers_along : ∀ rs ms q qx, R_numbers_along rs ms q qx → w_numbers_along (endsF q) (startE N_numbers_along rs qx) ms := by
  rintro rs ms q qx ⟨o, ws, x, rfl, ho, hw, hx, k⟩
  have hs := size_big
  have h1 : 1 ≤ sizeLine := by omega
  have fin : ∀ v3, w_numbers_along_2 (endsF q) ⟨[some o, some (.str x), some (.own ms.length), v3], fun _ C fs ms => qx C fs ms, Str.empty, []⟩ (ms ++ [.lst (nums (trk ws x))]) := by
    intro v3
    simp [w_numbers_along_2]
    exact k
  have go := fun v3 => along_go (E := { nx := w_numbers_along_2 (endsF q), rt := (endsF q).rt, bk := (endsF q).bk, ct := (endsF q).ct }) hw hx (o := o) (ms := ms) (ex := fun _ C fs ms => qx C fs ms) (xc := Str.empty) (xf := []) fin ws 0 rfl (by omega) v3
  rcases ho with rfl | rfl
  · simp only [w_numbers_along, N_numbers_along, w_numbers_along_3, wSeq, wAsg, wLstO, wCons, wC, wNil, wgName, wFor, wiSeq, wVar]
    refine ⟨h1, ?_⟩
    exact go _
  · simp only [w_numbers_along, N_numbers_along, w_numbers_along_3, wSeq, wAsg, wLstO, wCons, wC, wNil, wgName, wFor, wiSeq, wVar]
    refine ⟨h1, ?_⟩
    exact go _
theorem getK_trD {ws : List PySem.Str} {nm : List (PySem.Str × Int)} (nd : (nm.map (·.1)).Nodup) {p : PySem.Str × Int} (hp : p ∈ nm) : getK (trD ws nm) (.inr p.1) = some (.lst (nums (trk ws p.1))) := by
  induction nm with
  | nil => cases hp
  | cons a l ih =>
    simp only [List.map_cons, List.nodup_cons] at nd
    rcases List.mem_cons.mp hp with rfl | h
    · simp [trD]
    · have : a.1 ≠ p.1 := fun e => nd.1 (e ▸ List.mem_map.mpr ⟨p, h, rfl⟩)
      have ih := ih nd.2 h
      simp only [trD] at ih ⊢
      simp [this, ih]
theorem keys_trD {ws : List PySem.Str} {nm : List (PySem.Str × Int)} : (trD ws nm).map (fun p => datK p.1) = nm.map (fun p => .str p.1) := by simp [trD]
theorem p_Cut_gap : ∀ rs ms q qx, R_Cut_gap rs ms q qx → w_Cut_gap (endsF q) (startE N_Cut_gap rs qx) ms := by
  rintro rs ms q qx ⟨s, ws, nm, m, fs, rfl, hi, h1, h2, hn, hm, k⟩
  have hs := size_big
  have hnl := hn.len
  unfold insIs at hi
  have e1 : ∀ (ρ : Sy.Env) (kk : KR), ρ.sl[0]? = some (some s) → kk (.dic (dnm nm)) ms → wFld "Cut" "own_numbers" (wVar 0) ρ ms kk := fun ρ kk h hk => by
    simp only [wFld, wVar, h, hi]
    exact ⟨trivial, by rw [h1]; exact hk⟩
  have e2 : ∀ (ρ : Sy.Env) (kk : KR), ρ.sl[0]? = some (some s) → kk (.dic (trD ws nm)) ms → wFld "Cut" "tracks" (wVar 0) ρ ms kk := fun ρ kk h hk => by
    simp only [wFld, wVar, h, hi]
    exact ⟨trivial, by rw [h2]; exact hk⟩
  show w_Cut_gap (endsF q) ⟨[some s, some (.int (m : Nat)), none], fun _ C fs ms => qx C fs ms, Str.empty, []⟩ ms
  simp only [w_Cut_gap, wRet, wCB, wCons, wNil, wLc, wiKeys]
  refine e1 _ _ rfl ?_
  simp only [frzOf]
  rw [keys_dnm]
  refine lcW_M (xs := nm) (f := fun p => .str p.1) (g := fun p => .int (dst ws p m)) ?_ (by omega) ?_
  · intro p hp kk hk
    simp only [wgName, wOp, wCB, wCons, wNil]
    refine e1 _ _ rfl ?_
    simp only [wVar, Env.put, wipeE, startE, List.map, List.foldr, List.cons_append, List.set, List.getElem?_cons_zero, List.getElem?_cons_succ, wIxA, dicOf, keyD, getK_dnm hn.nd hp]
    refine e2 _ _ rfl ?_
    simp only [dicOf, keyD, getK_trD hn.nd hp, wIx, look, atD_trk hm]
    exact hk
  · refine ⟨nm.map fun p => dst ws p m, by simp, ?_, fun y hy h => ?_⟩
    · have : nm.length ≠ 0 := fun e => hn.ne (List.eq_nil_of_length_eq_zero e)
      simp; omega
    · obtain ⟨p, hp, e⟩ := List.mem_map.mp hy
      rw [mx_uniq hy h (by rw [← e]; exact dst_nn)]
      exact k
end K41
namespace K41
open PySem PySem.Spec PyProof.Rows L2 Sy
theorem lk_order {ws : List PySem.Str} {nm : List (PySem.Str × Int)} : (fdsC ws nm).lookup ("own_order" : PySem.Str) = some (.tup (wsD ws)) := rfl
theorem lk_numbers {ws : List PySem.Str} {nm : List (PySem.Str × Int)} : (fdsC ws nm).lookup ("own_numbers" : PySem.Str) = some (.dic (dnm nm)) := rfl
theorem lk_tracks {ws : List PySem.Str} {nm : List (PySem.Str × Int)} : (fdsC ws nm).lookup ("tracks" : PySem.Str) = some (.dic (trD ws nm)) := rfl
theorem lk_gaps {ws : List PySem.Str} {nm : List (PySem.Str × Int)} : (fdsC ws nm).lookup ("gaps" : PySem.Str) = some (.lst (nums (gps ws nm))) := rfl
theorem lk_spread {ws : List PySem.Str} {nm : List (PySem.Str × Int)} : (fdsC ws nm).lookup ("own_spread" : PySem.Str) = some (.int (spr ws nm)) := rfl
theorem lk_nearest {ws : List PySem.Str} {nm : List (PySem.Str × Int)} : (fdsC ws nm).lookup ("own_nearest" : PySem.Str) = some (.int (nea ws nm : Nat)) := rfl
theorem lk_m {ws : List PySem.Str} {nm : List (PySem.Str × Int)} : (fdsC ws nm).lookup ("window" : PySem.Str) = none ∧ (fdsC ws nm).lookup ("are_apart" : PySem.Str) = none := ⟨rfl, rfl⟩
theorem fld {ws : List PySem.Str} {nm : List (PySem.Str × Int)} {f : PySem.Str} {d : Dat} {ρ : Sy.Env} {k : KR} {ms : Ms} {i : Nat} (h : ρ.sl[i]? = some (some (cutOf ws nm))) (l : (fdsC ws nm).lookup f = some d) (hk : k d ms) : wFld "Cut" f (wVar i) ρ ms k := by
  simp only [wFld, wVar, h, insOf, cutOf]
  exact ⟨trivial, by rw [l]; exact hk⟩
theorem wv {ρ : Sy.Env} {i : Nat} {d : Dat} {k : KR} {ms : Ms} (h : ρ.sl[i]? = some (some d)) (hk : k d ms) : wVar i ρ ms k := by
  simp only [wVar, h]; exact hk
theorem p_spread {ws : List PySem.Str} {nm : List (PySem.Str × Int)} {ρ : Sy.Env} {k : KR} {ms : Ms} {i : Nat} (h : ρ.sl[i]? = some (some (cutOf ws nm))) (hk : k (.int (spr ws nm)) ms) : wProp "Cut" "spread" R_Cut_spread (wVar i) ρ ms k := by
  simp only [wProp, wVar, h, insOf, cutOf]
  exact ⟨trivial, ws, nm, rfl, hk⟩
theorem p_nearest {ws : List PySem.Str} {nm : List (PySem.Str × Int)} {ρ : Sy.Env} {k : KR} {ms : Ms} {i : Nat} (h : ρ.sl[i]? = some (some (cutOf ws nm))) (hk : k (.int (nea ws nm : Nat)) ms) : wProp "Cut" "nearest" R_Cut_nearest (wVar i) ρ ms k := by
  simp only [wProp, wVar, h, insOf, cutOf]
  exact ⟨trivial, ws, nm, rfl, hk⟩
theorem p_seen {ws : List PySem.Str} {nm : List (PySem.Str × Int)} (hw : WsOk ws) {ρ : Sy.Env} {k : KR} {ms : Ms} {i : Nat} (h : ρ.sl[i]? = some (some (cutOf ws nm))) (hk : k (seenD ws nm) ms) : wProp "Cut" "seen" R_Cut_seen (wVar i) ρ ms k := by
  simp only [wProp, wVar, h, insOf, cutOf]
  exact ⟨trivial, ws, nm, rfl, hw, hk⟩
theorem p_numbers {ws : List PySem.Str} {nm : List (PySem.Str × Int)} {ρ : Sy.Env} {k : KR} {ms : Ms} {i : Nat} (h : ρ.sl[i]? = some (some (cutOf ws nm))) (hk : ∀ g, k (.dic (dnm nm)) (ms ++ g)) : wProp "Cut" "numbers" R_Cut_numbers (wVar i) ρ ms k := by
  simp only [wProp, wVar, h, insOf, cutOf]
  exact ⟨trivial, ws, nm, rfl, hk⟩
theorem mk_cut {ms gb : Ms} {k : KR} {kx : KXF} {o : Dat} {ws : List PySem.Str} {nm : List (PySem.Str × Int)} (ho : isO o ws) (hw : WsOk ws) (hn : NmOk ws nm) (hk : ∀ g, k (cutOf ws nm) (ms ++ g)) :
    R_Cut___init__ [.own (ms ++ gb).length, o, .dic (dnm nm)] ((ms ++ gb) ++ [.ins "Cut" []]) (fun r ms2 => r = .non ∧ fixK k (.own (ms ++ gb).length) ms2) kx := by
  refine ⟨_, o, ws, nm, rfl, ho, by simp, hw, hn, fun g => ⟨rfl, ?_⟩⟩
  have hl : (ms ++ gb).length < ((ms ++ gb) ++ [Cell.ins "Cut" []]).length := by simp
  refine fixK_ins (at_set hl) ?_
  rw [set_set hl]
  have e : ((ms ++ gb) ++ [Cell.ins "Cut" []]).set (ms ++ gb).length Cell.gone ++ g = ms ++ (gb ++ [Cell.gone] ++ g) := by
    rw [List.set_append_right _ _ (Nat.le_refl _)]
    simp
  rw [e]
  exact hk _
theorem mk_cut0 {ms : Ms} {k : KR} {kx : KXF} {o : Dat} {ws : List PySem.Str} {nm : List (PySem.Str × Int)} (ho : isO o ws) (hw : WsOk ws) (hn : NmOk ws nm) (hk : ∀ g, k (cutOf ws nm) (ms ++ g)) :
    R_Cut___init__ [.own ms.length, o, .dic (dnm nm)] (ms ++ [.ins "Cut" []]) (fun r ms2 => r = .non ∧ fixK k (.own ms.length) ms2) kx := by
  have := mk_cut (ms := ms) (gb := []) (kx := kx) ho hw hn hk
  simpa using this
theorem enum_rng {g : Nat → Dat} : ∀ {n k : Nat}, enumD k ((List.range' k n).map g) = (List.range' k n).map fun m => .tup [.int (m : Nat), g m] := by
  intro n
  induction n with
  | zero => intro k; rfl
  | succ n ih => intro k; simp [List.range'_succ, ih]
theorem enum_gps {ws : List PySem.Str} {nm : List (PySem.Str × Int)} : enumD 0 (nums (gps ws nm)) = (List.range (ws.length + 1)).map fun (m : Nat) => .tup [.int (m : Nat), .int (gp ws nm m)] := by
  have := enum_rng (g := fun m => .int (gp ws nm m)) (n := ws.length + 1) (k := 0)
  rw [← List.range_eq_range'] at this
  rw [← this]
  simp [nums, gps]; rfl
theorem enum_trk {ws : List PySem.Str} {x : PySem.Str} : enumD 0 (nums (trk ws x)) = (List.range (ws.length + 1)).map fun (m : Nat) => .tup [.int (m : Nat), .int (cn ws x m)] := by
  have := enum_rng (g := fun m => .int (cn ws x m)) (n := ws.length + 1) (k := 0)
  rw [← List.range_eq_range'] at this
  rw [← this]
  simp [nums, trk]; rfl
def nts (l : List Nat) : List Dat := l.map fun m => .int (m : Nat)
theorem nts_0 {l : List Nat} (h : l ≠ []) : atD (nts l) 0 = some (.int (l.headD 0 : Nat)) := by
  cases l with
  | nil => exact absurd rfl h
  | cons a l => simp [nts, atD, ixN]
theorem nts_1 {l : List Nat} (h : l ≠ []) : atD (nts l) (-1) = some (.int (l.getLastD 0 : Nat)) := by
  have e : nts l = nts l.dropLast ++ [.int (l.getLastD 0 : Nat)] := by
    rw [List.getLastD_eq_getLast?, List.getLast?_eq_some_getLast h]
    unfold nts
    conv => lhs; rw [← List.dropLast_concat_getLast h]
    simp
  rw [e, atD_last]
theorem nts_ne {l : List Nat} : PyData.eqv (.list (toPys (nts l))) (.list []) = decide (l = []) := by
  cases l with
  | nil => simp [nts]
  | cons a l => simp [nts, PyData.eqv]
theorem nts_sh (l : List Nat) : plains (nts l) = true ∧ SeqAt.shaped (.list (toPys (nts l))) = true := by
  have f : fine 2 (.lst (nts l)) := fine_lst fun d hd => by
    obtain ⟨i, _, rfl⟩ := List.mem_map.mp hd
    exact fine_leaf (by decide) rfl
  exact ⟨f.1, f.shaped (by decide)⟩
end K41
namespace K41
open PySem PySem.Spec PyProof.Rows L2 Sy
theorem nd_key {nm : List (PySem.Str × Int)} (h : (nm.map (·.1)).Nodup) : (nm.map fun p => (Sum.inr p.1 : Key)).Nodup := by
  have e : (nm.map fun p => (Sum.inr p.1 : Key)) = (nm.map (·.1)).map Sum.inr := by simp
  rw [e]
  exact List.Pairwise.map _ (fun a b h e => h (Sum.inr.inj e)) h
section
variable {E : WEnds} {ws : List PySem.Str} {nm : List (PySem.Str × Int)} {j : Nat} {o : Dat} {ms g : Ms} {q : KR} {qx : KXF} (hj : j < ms.length) (ho : isO o ws) (hw : WsOk ws) (hn : NmOk ws nm) (k : ∀ g, q .non (ms.set j (.ins "Cut" (fdsC ws nm)) ++ g))
include hj k hw hn
def f1 (ws : List PySem.Str) : List (PySem.Str × Dat) := [("own_order", .tup (wsD ws))]
def f2 (ws : List PySem.Str) (nm : List (PySem.Str × Int)) : List (PySem.Str × Dat) := [("own_order", .tup (wsD ws)), ("own_numbers", .dic (dnm nm))]
def f3 (ws : List PySem.Str) (nm : List (PySem.Str × Int)) : List (PySem.Str × Dat) := [("own_order", .tup (wsD ws)), ("own_numbers", .dic (dnm nm)), ("tracks", .dic (trD ws nm))]
def f4 (ws : List PySem.Str) (nm : List (PySem.Str × Int)) : List (PySem.Str × Dat) := [("own_order", .tup (wsD ws)), ("own_numbers", .dic (dnm nm)), ("tracks", .dic (trD ws nm)), ("gaps", .lst (nums (gps ws nm)))]
def f5 (ws : List PySem.Str) (nm : List (PySem.Str × Int)) : List (PySem.Str × Dat) := [("own_order", .tup (wsD ws)), ("own_numbers", .dic (dnm nm)), ("tracks", .dic (trD ws nm)), ("gaps", .lst (nums (gps ws nm))), ("own_spread", .int (spr ws nm))]
theorem init1 {x3 x4 x5 : Option Dat} : w_Cut___init___1 (endsF q) ⟨[some (.own j), some o, some (.dic (dnm nm)), x3, x4, x5], fun _ C fs ms => qx C fs ms, Str.empty, []⟩ (ms.set j (.ins "Cut" (f5 ws nm)) ++ g) := by
  have hs := size_big
  have hl := hw.len
  have e1 : ∀ c, (ms.set j c ++ g)[j]? = some c := fun c => at_set hj
  have e2 : ∀ c c', (ms.set j c ++ g).set j c' = ms.set j c' ++ g := fun c c' => set_set hj
  simp only [w_Cut___init___1, wSetF, wOp, wLc, wiEnum, wCons, wNil, wFld, wVar, List.getElem?_cons_zero, insOf, e1]
  refine ⟨trivial, ?_⟩
  rw [show (f5 ws nm).lookup ("gaps" : PySem.Str) = some (.lst (nums (gps ws nm))) from rfl]
  show lcW _ _ _ _ _ (enumD 0 (nums (gps ws nm))) _ _
  rw [enum_gps]
  refine lcW_T (f := fun (m : Nat) => .tup [.int (m : Nat), .int (gp ws nm m)]) (p := fun m => decide (gp ws nm m = spr ws nm)) (g := fun m => .int (m : Nat)) ?_ ?_ ?_
  · intro m hm kk hk
    simp [e1]
    rw [show (f5 ws nm).lookup ("own_spread" : PySem.Str) = some (.int (spr ws nm)) from rfl]
    simp
    by_cases e : gp ws nm m = spr ws nm
    · simpa [e] using hk
    · simpa [e] using hk
  · simp; omega
  · have hne : ((List.range (ws.length + 1)).filter fun m => decide (gp ws nm m = spr ws nm)) ≠ [] := by
      obtain ⟨m, h1, h2⟩ := spr_at (ws := ws) (nm := nm)
      exact List.ne_nil_of_mem (a := m) (List.mem_filter.mpr ⟨List.mem_range.mpr (by omega), by simp [h2]⟩)
    have e0 := nts_0 hne
    unfold nts at e0
    simp only [List.nil_append, wC, wIxA, dicOf, wIx, look, e0, e1]
    refine ⟨trivial, by simp [f5], ?_⟩
    rw [e2]
    exact k g
theorem init2 {x3 x4 x5 : Option Dat} : w_Cut___init___2 (endsF q) ⟨[some (.own j), some o, some (.dic (dnm nm)), x3, x4, x5], fun _ C fs ms => qx C fs ms, Str.empty, []⟩ (ms.set j (.ins "Cut" (f4 ws nm)) ++ g) := by
  have e1 : ∀ c, (ms.set j c ++ g)[j]? = some c := fun c => at_set hj
  have e2 : ∀ c c', (ms.set j c ++ g).set j c' = ms.set j c' ++ g := fun c c' => set_set hj
  simp only [w_Cut___init___2, wSeq, wSetF, wCB, wCons, wNil, wFld, wVar, List.getElem?_cons_zero, insOf, e1]
  refine ⟨trivial, ?_⟩
  rw [show (f4 ws nm).lookup ("gaps" : PySem.Str) = some (.lst (nums (gps ws nm))) from rfl]
  refine ⟨gps ws nm, rfl, by simp [gps], fun m hm h => ?_⟩
  simp only [List.getElem?_cons_zero, e1]
  refine ⟨trivial, by simp [f4], ?_⟩
  rw [e2]
  rw [mn_uniq hm h]
  exact init1 hj hw hn k
theorem init3 {x3 x4 x5 : Option Dat} (ho : isO o ws) : w_Cut___init___3 (endsF q) ⟨[some (.own j), some o, some (.dic (dnm nm)), x3, x4, x5], fun _ C fs ms => qx C fs ms, Str.empty, []⟩ (ms.set j (.ins "Cut" (f3 ws nm)) ++ g) := by
  have hs := size_big
  have hl := hw.len
  have e1 : ∀ c, (ms.set j c ++ g)[j]? = some c := fun c => at_set hj
  have e2 : ∀ c c', (ms.set j c ++ g).set j c' = ms.set j c' ++ g := fun c c' => set_set hj
  have go : -(2 ^ 62) ≤ ((ws.length : Nat) : Int) + 1 ∧ ((ws.length : Nat) : Int) + 1 < 2 ^ 62 ∧ lcW (wgName 4) wYes (wMeth "Cut" "gap" R_Cut_gap (wVar 0) (wCons (wVar 4) wNil)) (wipeE ⟨[some (.own j), some o, some (.dic (dnm nm)), x3, x4, x5], fun _ C fs ms => qx C fs ms, Str.empty, []⟩ [4])
      (fun acc ms2 => wVar 0 ⟨[some (.own j), some o, some (.dic (dnm nm)), x3, x4, x5], fun _ C fs ms => qx C fs ms, Str.empty, []⟩ ms2 fun r ms2 => match r with
        | .own i => (match ms2[i]? with
          | some (.ins C' fs) => C' = "Cut" ∧ fs.length < 1000 ∧ w_Cut___init___2 (endsF q) ⟨[some (.own j), some o, some (.dic (dnm nm)), x3, x4, x5], fun _ C fs ms => qx C fs ms, Str.empty, []⟩ (ms2.set i (.ins C' (putFd "gaps" (.lst acc) fs)))
          | _ => False)
        | _ => False) (rngD 0 (((ws.length : Nat) : Int) + 1).toNat) [] (ms.set j (.ins "Cut" (f3 ws nm)) ++ g) := by
    refine ⟨by omega, by omega, ?_⟩
    have er : rngD 0 (((ws.length : Nat) : Int) + 1).toNat = (List.range (ws.length + 1)).map fun (m : Nat) => .int (m : Nat) := by
      unfold rngD
      rw [show (((ws.length : Nat) : Int) + 1).toNat = ws.length + 1 by omega]
      simp
    rw [er]
    refine lcW_M (f := fun (m : Nat) => .int (m : Nat)) (g := fun m => .int (gp ws nm m)) ?_ ?_ ?_
    · intro m hm kk hk
      have hm := List.mem_range.mp hm
      show wMeth "Cut" "gap" R_Cut_gap (wVar 0) (wCons (wVar 4) wNil) ⟨[some (.own j), some o, some (.dic (dnm nm)), x3, some (.int (m : Nat)), x5], neverX, Str.empty, []⟩ _ _
      simp only [wMeth, wVar, wCons, wNil, List.getElem?_cons_zero, List.getElem?_cons_succ, insOf, e1]
      refine ⟨trivial, rfl, ?_⟩
      exact ⟨.own j, ws, nm, m, f3 ws nm, rfl, by simp [insIs, e1], rfl, rfl, hn, by omega, hk⟩
    · simp; omega
    · simp only [wVar, List.getElem?_cons_zero, e1]
      refine ⟨trivial, by simp [f3], ?_⟩
      rw [e2]
      have := init2 (g := g) (o := o) (x3 := x3) (x4 := x4) (x5 := x5) (qx := qx) hj hw hn k
      have ee : (List.range (ws.length + 1)).map (fun m => Dat.int (gp ws nm m)) = nums (gps ws nm) := by simp [nums, gps]
      rw [ee]
      exact this
  rcases ho with rfl | rfl
  · simp only [w_Cut___init___3, wSeq, wSetF, wLc, wiRng1, wCons, wNil, wOp, wCB, wVar, List.getElem?_cons_zero, List.getElem?_cons_succ, wLenA, dicOf, wLen, look, wC, wAdd, wsD, List.length_map]
    exact go
  · simp only [w_Cut___init___3, wSeq, wSetF, wLc, wiRng1, wCons, wNil, wOp, wCB, wVar, List.getElem?_cons_zero, List.getElem?_cons_succ, wLenA, dicOf, wLen, look, wC, wAdd, wsD, List.length_map]
    exact go
theorem init4 {x3 x4 x5 : Option Dat} (ho : isO o ws) : w_Cut___init___4 (endsF q) ⟨[some (.own j), some o, some (.dic (dnm nm)), x3, x4, x5], fun _ C fs ms => qx C fs ms, Str.empty, []⟩ (ms.set j (.ins "Cut" (f2 ws nm)) ++ g) := by
  have hs := size_big
  have hnl := hn.len
  simp only [w_Cut___init___4, wSeq, wSetF, wFix_eq, wDc, wiKeys, wVar, List.getElem?_cons_zero, List.getElem?_cons_succ, frzOf]
  rw [keys_dnm]
  refine dcW_T (f := fun p => .str p.1) (ky := fun p => .inr p.1) (g := fun p => .lst (nums (trk ws p.1))) (xs := nm) (acc := []) ?_ (by simp; omega) (by simpa using nd_key hn.nd) ?_
  · intro p hp gb kk hk
    show R_numbers_along [o, .str p.1] (ms.set j (.ins "Cut" (f2 ws nm)) ++ gb) (fun z ms3 => kk (.str p.1) z ms3) (neverX [some (.own j), some o, some (.dic (dnm nm)), some (.str p.1), x4, x5])
    refine ⟨o, ws, p.1, rfl, ho, hw, hn.mem p hp, ?_⟩
    rw [List.append_assoc]
    exact hk _ _ rfl
  · intro gb
    simp only [List.nil_append]
    refine fixK_dic ?_
    rw [List.append_assoc]
    simp only [List.getElem?_cons_zero, at_set hj]
    refine ⟨trivial, by simp [f2], ?_⟩
    rw [set_set hj]
    exact init3 hj hw hn k ho
theorem init5 {x3 x4 x5 : Option Dat} (ho : isO o ws) : w_Cut___init___5 (endsF q) ⟨[some (.own j), some o, some (.dic (dnm nm)), x3, x4, x5], fun _ C fs ms => qx C fs ms, Str.empty, []⟩ (ms.set j (.ins "Cut" (f1 ws)) ++ g) := by
  simp only [w_Cut___init___5, wSeq, wSetF, wFix_eq, wCB, wCons, wNil, wVar, List.getElem?_cons_zero, List.getElem?_cons_succ, wDictOf, dicOf]
  refine fixK_dic ?_
  rw [List.append_assoc]
  simp only [List.getElem?_cons_zero, at_set hj]
  refine ⟨trivial, by simp [f1], ?_⟩
  rw [set_set hj]
  exact init4 hj hw hn k ho
theorem init6 {x3 x4 x5 : Option Dat} (ho : isO o ws) : w_Cut___init___6 (endsF q) ⟨[some (.own j), some o, some (.dic (dnm nm)), x3, x4, x5], fun _ C fs ms => qx C fs ms, Str.empty, []⟩ (ms.set j (.ins "Cut" []) ++ g) := by
  have ho' := ho
  have go := init5 (o := o) (g := g) (x3 := x3) (x4 := x4) (x5 := x5) (qx := qx) hj hw hn k ho
  rcases ho with rfl | rfl
  · simp only [w_Cut___init___6, wSeq, wSetF, wCB, wCons, wNil, wVar, List.getElem?_cons_zero, List.getElem?_cons_succ, wTupleOf, look, at_set hj]
    refine ⟨trivial, by simp, ?_⟩
    rw [set_set hj]
    exact go
  · simp only [w_Cut___init___6, wSeq, wSetF, wCB, wCons, wNil, wVar, List.getElem?_cons_zero, List.getElem?_cons_succ, wTupleOf, look, at_set hj]
    refine ⟨trivial, by simp, ?_⟩
    rw [set_set hj]
    exact go
end
theorem p_Cut___init__ : ∀ rs ms q qx, R_Cut___init__ rs ms q qx → w_Cut___init__ (endsF q) (startE N_Cut___init__ rs qx) ms := by
  rintro rs ms q qx ⟨j, o, ws, nm, rfl, ho, hj, hw, hn, k⟩
  have hl := lt_of_at hj
  have em : ms = ms.set j (.ins "Cut" []) ++ [] := by
    have : ms[j] = .ins "Cut" [] := (List.getElem?_eq_some_iff.mp hj).2
    rw [← this]; simp
  have go := init6 (o := o) (g := []) (x3 := none) (x4 := none) (x5 := none) (qx := qx) hl hw hn k ho
  rw [← em] at go
  show w_Cut___init__ (endsF q) ⟨[some (.own j), some o, some (.dic (dnm nm)), none, none, none], fun _ C fs ms => qx C fs ms, Str.empty, []⟩ ms
  refine ⟨o, ws, rfl, ho, hw, ?_⟩
  refine ⟨o, ws, nm, rfl, ho, hw, hn, ?_⟩
  exact go
end K41
namespace K41
open PySem PySem.Spec PyProof.Rows L2 Sy
theorem p_Cut_numbers : ∀ rs ms q qx, R_Cut_numbers rs ms q qx → w_Cut_numbers (endsF q) (startE N_Cut_numbers rs qx) ms := by
  rintro rs ms q qx ⟨ws, nm, rfl, k⟩
  show w_Cut_numbers (endsF q) ⟨[some (cutOf ws nm)], fun _ C fs ms => qx C fs ms, Str.empty, []⟩ ms
  simp only [w_Cut_numbers, wRet, wFix_eq, wCB, wCons, wNil]
  refine fld (ws := ws) (nm := nm) rfl lk_numbers ?_
  simp only [wDictOf, dicOf]
  exact fixK_dic (k _)
theorem p_Cut_spread : ∀ rs ms q qx, R_Cut_spread rs ms q qx → w_Cut_spread (endsF q) (startE N_Cut_spread rs qx) ms := by
  rintro rs ms q qx ⟨ws, nm, rfl, k⟩
  show w_Cut_spread (endsF q) ⟨[some (cutOf ws nm)], fun _ C fs ms => qx C fs ms, Str.empty, []⟩ ms
  simp only [w_Cut_spread, wRet]
  exact fld (ws := ws) (nm := nm) rfl lk_spread k
theorem p_Cut_nearest : ∀ rs ms q qx, R_Cut_nearest rs ms q qx → w_Cut_nearest (endsF q) (startE N_Cut_nearest rs qx) ms := by
  rintro rs ms q qx ⟨ws, nm, rfl, k⟩
  show w_Cut_nearest (endsF q) ⟨[some (cutOf ws nm)], fun _ C fs ms => qx C fs ms, Str.empty, []⟩ ms
  simp only [w_Cut_nearest, wRet]
  exact fld (ws := ws) (nm := nm) rfl lk_nearest k
theorem p_Cut_seen : ∀ rs ms q qx, R_Cut_seen rs ms q qx → w_Cut_seen (endsF q) (startE N_Cut_seen rs qx) ms := by
  rintro rs ms q qx ⟨ws, nm, rfl, hw, k⟩
  have hs := size_big
  have hl := hw.len
  have h2 : 2 ≤ sizeLine := by omega
  show w_Cut_seen (endsF q) ⟨[some (cutOf ws nm), none, none, none], fun _ C fs ms => qx C fs ms, Str.empty, []⟩ ms
  simp only [w_Cut_seen, wSeq, wAsg, wLc, wiEnum, wCons, wNil]
  refine fld (ws := ws) (nm := nm) rfl lk_gaps ?_
  show lcW _ _ _ _ _ (enumD 0 (nums (gps ws nm))) _ _
  rw [enum_gps]
  refine lcW_T (f := fun (m : Nat) => .tup [.int (m : Nat), .int (gp ws nm m)]) (p := fun m => decide (gp ws nm m = 0)) (g := fun m => .int (m : Nat)) ?_ (by simp; omega) ?_
  · intro m hm kk hk
    simp
    by_cases e : gp ws nm m = 0
    · simpa [e] using hk
    · simpa [e] using hk
  · show w_Cut_seen_1 (endsF q) ⟨[some (cutOf ws nm), some (.lst (nts (zs ws nm))), none, none], fun _ C fs ms => qx C fs ms, Str.empty, []⟩ ms
    obtain ⟨s1, s2⟩ := nts_sh (zs ws nm)
    unfold seenD at k
    by_cases e : zs ws nm = []
    · rw [if_pos e] at k
      rw [e]
      simp [w_Cut_seen_1, nts]
      exact k
    · rw [if_neg e] at k
      have ne : PyData.eqv (.list (toPys (nts (zs ws nm)))) (.list []) = false := by rw [nts_ne]; simp [e]
      simp only [w_Cut_seen_1, wRet, wIf, wBt, wOp, wNe, wVar, wLst, wNil, List.getElem?_cons_zero, List.getElem?_cons_succ]
      refine ⟨by simp, _, _, rfl, rfl, s1, rfl, s2, by simp, ?_⟩
      simp only [toPy, toPys, ne, Bool.not_false, if_true, wTup, wCons, wNil, wC, wUn, wOp, wVar, List.getElem?_cons_zero, List.getElem?_cons_succ, wIxA, dicOf, wIx, look, nts_0 e, nts_1 e]
      exact ⟨h2, k⟩
theorem p_Cut_window : ∀ rs ms q qx, R_Cut_window rs ms q qx → w_Cut_window (endsF q) (startE N_Cut_window rs qx) ms := by
  rintro rs ms q qx ⟨ws, nm, p, sl, rfl, hp, hw, hn, h0, k⟩
  have hs := size_big
  have hl := hw.len
  have h2 : 2 ≤ sizeLine := by omega
  show w_Cut_window (endsF q) ⟨[some (cutOf ws nm), some (.str p.1), some (.int sl), none, none, none, none, none], fun _ C fs ms => qx C fs ms, Str.empty, []⟩ ms
  simp only [w_Cut_window, wSeq, wParN, wCons, wNil, wOp]
  refine fld (ws := ws) (nm := nm) rfl lk_tracks ?_
  simp only [wVar, List.getElem?_cons_succ, List.getElem?_cons_zero, wIxA, dicOf, keyD, getK_trD hn.nd hp]
  show wFld "Cut" "own_numbers" (wVar 0) _ _ _
  refine fld (ws := ws) (nm := nm) rfl lk_numbers ?_
  simp only [dicOf, keyD, getK_dnm hn.nd hp]
  refine ⟨rfl, by simp; omega, ?_⟩
  show w_Cut_window_2 (endsF q) ⟨[some (cutOf ws nm), some (.str p.1), some (.int sl), some (.lst (nums (trk ws p.1))), some (.int p.2), none, none, none], fun _ C fs ms => qx C fs ms, Str.empty, []⟩ ms
  simp only [w_Cut_window_2, wSeq, wAsg, wLc, wiEnum, wCons, wNil, wVar, List.getElem?_cons_succ, List.getElem?_cons_zero]
  show lcW _ _ _ _ _ (enumD 0 (nums (trk ws p.1))) _ _
  rw [enum_trk]
  refine lcW_T (f := fun (m : Nat) => .tup [.int (m : Nat), .int (cn ws p.1 m)]) (p := fun m => decide (dst ws p m ≤ sl)) (g := fun m => .int (m : Nat)) ?_ (by simp; omega) ?_
  · intro m hm kk hk
    have : ∀ b : Bool, b = decide (dst ws p m ≤ sl) → (if b = true then kk [.int (m : Nat)] ms else kk [] ms) := by
      rintro b rfl
      by_cases e : dst ws p m ≤ sl
      · simpa [e] using hk
      · simpa [e] using hk
    have go := this _ rfl
    refine ⟨rfl, rfl, ?_⟩
    exact go
  · show w_Cut_window_1 (endsF q) ⟨[some (cutOf ws nm), some (.str p.1), some (.int sl), some (.lst (nums (trk ws p.1))), some (.int p.2), some (.lst (nts (wz ws p sl))), none, none], fun _ C fs ms => qx C fs ms, Str.empty, []⟩ ms
    have e := hn.wz h0 hp
    simp only [w_Cut_window_1, wRet, wTup, wCons, wNil, wC, wUn, wOp, wVar, List.getElem?_cons_zero, List.getElem?_cons_succ, wIxA, dicOf, wIx, look, nts_0 e, nts_1 e]
    exact ⟨h2, k⟩
theorem p_Cut_are_apart : ∀ rs ms q qx, R_Cut_are_apart rs ms q qx → w_Cut_are_apart (endsF q) (startE N_Cut_are_apart rs qx) ms := by
  rintro rs ms q qx ⟨ws, nm, p, r, sl, rfl, hp, hq, hw, hn, h0, k⟩
  show w_Cut_are_apart (endsF q) ⟨[some (cutOf ws nm), some (.str p.1), some (.str r.1), some (.int sl), none, none], fun _ C fs ms => qx C fs ms, Str.empty, []⟩ ms
  refine ⟨rfl, rfl, ws, nm, p, sl, rfl, hp, hw, hn, h0, ?_⟩
  refine ⟨rfl, rfl, ws, nm, r, sl, rfl, hq, hw, hn, h0, ?_⟩
  show w_Cut_are_apart_1 (endsF q) ⟨[some (cutOf ws nm), some (.str p.1), some (.str r.1), some (.int sl), some (.tup [.int (wf ws p sl : Nat), .int (wl ws p sl : Nat)]), some (.tup [.int (wf ws r sl : Nat), .int (wl ws r sl : Nat)])], fun _ C fs ms => qx C fs ms, Str.empty, []⟩ ms
  unfold apart at k
  simp [w_Cut_are_apart_1, atD, ixN]
  by_cases e : wl ws p sl < wf ws r sl
  · simpa [e] using k
  · simpa [e] using k
end K41
namespace K41
open PySem PySem.Spec PyProof.Rows L2 Sy
theorem eqv_strs : ∀ {ws : List PySem.Str}, PyData.eqvAll (toPys (ws.map .str)) (toPys (ws.map .str)) = true
  | [] => by simp
  | x :: ws => by simp [eqv_strs (ws := ws)]
theorem sh_wsL {ws : List PySem.Str} (h : ∀ x ∈ ws, x ∈ wds) : plain (.lst (ws.map .str)) = true ∧ SeqAt.shaped (toPy (.lst (ws.map .str))) = true := by
  have f : fine 2 (.lst (ws.map .str)) := fine_lst fun d hd => by
    obtain ⟨i, hi, rfl⟩ := List.mem_map.mp hd
    exact fine_leaf (by decide) (wd_sh (h i hi))
  exact ⟨f.1, f.shaped (by decide)⟩
theorem sh_wsT {ws : List PySem.Str} (h : ∀ x ∈ ws, x ∈ wds) : plain (.tup (ws.map .str)) = true ∧ SeqAt.shaped (toPy (.tup (ws.map .str))) = true := by
  have f : fine 2 (.tup (ws.map .str)) := fine_tup fun d hd => by
    obtain ⟨i, hi, rfl⟩ := List.mem_map.mp hd
    exact fine_leaf (by decide) (wd_sh (h i hi))
  exact ⟨f.1, f.shaped (by decide)⟩
theorem sort_trD {ws : List PySem.Str} {nm : List (PySem.Str × Int)} (h : nm.length ≤ 4) {ms : Ms} {k : KR} (hk : ∀ ys : List PySem.Str, ys.Perm (nm.map (·.1)) → sortedS ys = true → k (.lst (ys.map Dat.str)) ms) : wSortDS [.dic (trD ws nm)] ms k := by
  refine ⟨nm.map (·.1), by simp [trD], by simp; omega, hk⟩
theorem sort_dnm {nm : List (PySem.Str × Int)} (h : nm.length ≤ 4) {ms : Ms} {k : KR} (hk : ∀ ys : List PySem.Str, ys.Perm (nm.map (·.1)) → sortedS ys = true → k (.lst (ys.map Dat.str)) ms) : wSortDS [.dic (dnm nm)] ms k := by
  refine ⟨nm.map (·.1), by simp [dnm], by simp; omega, hk⟩
theorem p_check_like : ∀ rs ms q qx, R_check_like rs ms q qx → w_check_like (endsF q) (startE N_check_like rs qx) ms := by
  rintro rs ms q qx ⟨ws, nm, nm', rfl, hw, hn, hn', he, k⟩
  show w_check_like (endsF q) ⟨[some (cutOf ws nm), some (cutOf ws nm')], fun _ C fs ms => qx C fs ms, Str.empty, []⟩ ms
  have tail : w_check_like_1 (endsF q) ⟨[some (cutOf ws nm), some (cutOf ws nm')], fun _ C fs ms => qx C fs ms, Str.empty, []⟩ ms := by
    simp only [w_check_like_1, wIfS, wBt, wOp, wCB, wCons, wNil]
    refine fld (ws := ws) (nm := nm') rfl lk_numbers ?_
    refine sort_dnm hn'.len fun ys hp hs => ?_
    refine fld (ws := ws) (nm := nm) rfl lk_numbers ?_
    refine sort_dnm hn.len fun ys' hp' hs' => ?_
    have : ys = ys' := sortedS_uniq (hp.trans (by rw [← he]; exact hp'.symm)) hs hs'
    subst this
    obtain ⟨s1, s2⟩ := sh_wsL (ws := ys) (fun x hx => by
      obtain ⟨p, hp2, rfl⟩ := List.mem_map.mp (hp.mem_iff.mp hx)
      exact hn'.mem p hp2)
    refine ⟨_, _, rfl, rfl, s1, s1, s2, s2, ?_⟩
    have e : PyData.eqv (toPy (.lst (ys.map .str))) (toPy (.lst (ys.map .str))) = true := by simpa using eqv_strs
    rw [e]
    simpa using k
  have first : ∀ kk : Bool → Ms → Prop, kk true ms → wBt (wCB (wIsA kt xsB isB) (wCons (wVar 1) (wCons (wC (.glo "Cut")) wNil))) ⟨[some (cutOf ws nm), some (cutOf ws nm')], fun _ C fs ms => qx C fs ms, Str.empty, []⟩ ms kk := by
    intro kk hk
    simp [cutOf, isB_cut, kt_cut, hk]
  simp only [w_check_like, wSeq, wIfS, wOr, Sy.wNot]
  refine first _ ?_
  simp only [Bool.not_true, Bool.false_eq_true, if_false, wBt, wOp]
  refine fld (ws := ws) (nm := nm') rfl lk_order ?_
  refine fld (ws := ws) (nm := nm) rfl lk_order ?_
  obtain ⟨s1, s2⟩ := sh_wsT hw.mem
  refine ⟨_, _, rfl, rfl, s1, s1, s2, s2, ?_⟩
  have e : PyData.eqv (toPy (.tup (ws.map .str))) (toPy (.tup (ws.map .str))) = true := by simpa using eqv_strs
  have e' : PyData.eqv (toPy (.tup (wsD ws))) (toPy (.tup (wsD ws))) = true := e
  rw [e']
  exact tail
theorem nd_ks {ks : List PySem.Str} (h : ks.Nodup) : (ks.map (Sum.inr : PySem.Str → Key)).Nodup := List.Pairwise.map _ (fun a b h e => h (Sum.inr.inj e)) h
theorem getK_at {ws ks : List PySem.Str} {m : Nat} {x : PySem.Str} (h : ks.Nodup) (hx : x ∈ ks) : getK (dnm (atN ws ks m)) (.inr x) = some (.int (cn ws x m)) := by
  have nd : ((atN ws ks m).map (·.1)).Nodup := by simpa [atN, Function.comp_def] using h
  exact getK_dnm (p := (x, cn ws x m)) nd (List.mem_map.mpr ⟨x, hx, rfl⟩)
theorem keys_at {ws ks : List PySem.Str} {m : Nat} : (trD ws (atN ws ks m)).map (fun p => datK p.1) = ks.map .str := by simp [trD, atN]
theorem dnm_at {ws ks : List PySem.Str} {m : Nat} : (ks.map fun x => ((Sum.inr x : Key), Dat.int (cn ws x m))) = dnm (atN ws ks m) := by simp [dnm, atN]
theorem p_Cut___or__ : ∀ rs ms q qx, R_Cut___or__ rs ms q qx → w_Cut___or__ (endsF q) (startE N_Cut___or__ rs qx) ms := by
  rintro rs ms q qx ⟨ws, nm, m, n, rfl, hw, hn, hm, hn', k⟩
  have hs := size_big
  have hl := hn.len
  have o1 := atN_ok hn hm
  have o2 := atN_ok hn hn'
  have o3 := atN_ok hn (show max m n ≤ ws.length by omega)
  show w_Cut___or__ (endsF q) ⟨[some (cutOf ws (atN ws (nm.map (·.1)) m)), some (cutOf ws (atN ws (nm.map (·.1)) n)), none], fun _ C fs ms => qx C fs ms, Str.empty, []⟩ ms
  refine ⟨ws, _, _, rfl, hw, o1, o2, by simp [atN], ?_⟩
  show w_Cut___or___1 (endsF q) ⟨[some (cutOf ws (atN ws (nm.map (·.1)) m)), some (cutOf ws (atN ws (nm.map (·.1)) n)), none], fun _ C fs ms => qx C fs ms, Str.empty, []⟩ ms
  simp only [w_Cut___or___1, wRet, wFix_eq, wMake, wCons, wNil]
  refine fld (ws := ws) (nm := atN ws (nm.map (·.1)) m) rfl lk_order ?_
  simp only [wDc, wiKeys]
  refine fld (ws := ws) (nm := atN ws (nm.map (·.1)) m) rfl lk_tracks ?_
  simp only [frzOf]
  rw [keys_at]
  have go : ∀ gb, dcW (wgName 2) wYes (wVar 2) (wCB wMax2 (wCons (wOp wIxA (wFld "Cut" "own_numbers" (wVar 0)) (wVar 2)) (wCons (wOp wIxA (wFld "Cut" "own_numbers" (wVar 1)) (wVar 2)) wNil))) (wipeE ⟨[some (cutOf ws (atN ws (nm.map (·.1)) m)), some (cutOf ws (atN ws (nm.map (·.1)) n)), none], fun _ C fs ms => qx C fs ms, Str.empty, []⟩ [2])
      (fun acc ms2 => fixK (fun a ms2 => R_Cut___init__ [.own ms2.length, .tup (wsD ws), a] (ms2 ++ [.ins "Cut" []]) (fun r ms3 => r = .non ∧ fixK q (.own ms2.length) ms3) qx) (.own ms2.length) (ms2 ++ [.dic acc])) ((nm.map (·.1)).map .str) [] (ms ++ gb) := by
    intro gb
    refine dcW_T (f := .str) (ky := .inr) (g := fun x => .int (cn ws x (max m n))) (xs := nm.map (·.1)) (acc := []) ?_ (by simp; omega) (by simpa using nd_ks hn.nd) ?_
    · intro x hx gb kk hk
      simp only [wgName, Env.put, wipeE, List.foldr, List.set, wCB, wCons, wNil, wOp]
      refine wv (d := .str x) rfl ?_
      refine fld (ws := ws) (nm := atN ws (nm.map (·.1)) m) rfl lk_numbers ?_
      refine wv (d := .str x) rfl ?_
      simp only [wIxA, dicOf, keyD, getK_at hn.nd hx]
      refine fld (ws := ws) (nm := atN ws (nm.map (·.1)) n) rfl lk_numbers ?_
      refine wv (d := .str x) rfl ?_
      simp only [dicOf, keyD, getK_at hn.nd hx, wMax2]
      rw [cn_max]
      exact hk _ _ rfl
    · intro gb
      simp only [List.nil_append]
      refine fixK_dic ?_
      rw [dnm_at, List.append_assoc]
      exact mk_cut (.inr rfl) hw o3 k
  have := go []
  rw [List.append_nil] at this
  exact this
theorem p_Cut___and__ : ∀ rs ms q qx, R_Cut___and__ rs ms q qx → w_Cut___and__ (endsF q) (startE N_Cut___and__ rs qx) ms := by
  rintro rs ms q qx ⟨ws, nm, m, n, rfl, hw, hn, hm, hn', k⟩
  have hs := size_big
  have hl := hn.len
  have o1 := atN_ok hn hm
  have o2 := atN_ok hn hn'
  have o3 := atN_ok hn (show min m n ≤ ws.length by omega)
  show w_Cut___and__ (endsF q) ⟨[some (cutOf ws (atN ws (nm.map (·.1)) m)), some (cutOf ws (atN ws (nm.map (·.1)) n)), none], fun _ C fs ms => qx C fs ms, Str.empty, []⟩ ms
  refine ⟨ws, _, _, rfl, hw, o1, o2, by simp [atN], ?_⟩
  show w_Cut___and___1 (endsF q) ⟨[some (cutOf ws (atN ws (nm.map (·.1)) m)), some (cutOf ws (atN ws (nm.map (·.1)) n)), none], fun _ C fs ms => qx C fs ms, Str.empty, []⟩ ms
  simp only [w_Cut___and___1, wRet, wFix_eq, wMake, wCons, wNil]
  refine fld (ws := ws) (nm := atN ws (nm.map (·.1)) m) rfl lk_order ?_
  simp only [wDc, wiKeys]
  refine fld (ws := ws) (nm := atN ws (nm.map (·.1)) m) rfl lk_tracks ?_
  simp only [frzOf]
  rw [keys_at]
  have go : ∀ gb, dcW (wgName 2) wYes (wVar 2) (wCB wMin2 (wCons (wOp wIxA (wFld "Cut" "own_numbers" (wVar 0)) (wVar 2)) (wCons (wOp wIxA (wFld "Cut" "own_numbers" (wVar 1)) (wVar 2)) wNil))) (wipeE ⟨[some (cutOf ws (atN ws (nm.map (·.1)) m)), some (cutOf ws (atN ws (nm.map (·.1)) n)), none], fun _ C fs ms => qx C fs ms, Str.empty, []⟩ [2])
      (fun acc ms2 => fixK (fun a ms2 => R_Cut___init__ [.own ms2.length, .tup (wsD ws), a] (ms2 ++ [.ins "Cut" []]) (fun r ms3 => r = .non ∧ fixK q (.own ms2.length) ms3) qx) (.own ms2.length) (ms2 ++ [.dic acc])) ((nm.map (·.1)).map .str) [] (ms ++ gb) := by
    intro gb
    refine dcW_T (f := .str) (ky := .inr) (g := fun x => .int (cn ws x (min m n))) (xs := nm.map (·.1)) (acc := []) ?_ (by simp; omega) (by simpa using nd_ks hn.nd) ?_
    · intro x hx gb kk hk
      simp only [wgName, Env.put, wipeE, List.foldr, List.set, wCB, wCons, wNil, wOp]
      refine wv (d := .str x) rfl ?_
      refine fld (ws := ws) (nm := atN ws (nm.map (·.1)) m) rfl lk_numbers ?_
      refine wv (d := .str x) rfl ?_
      simp only [wIxA, dicOf, keyD, getK_at hn.nd hx]
      refine fld (ws := ws) (nm := atN ws (nm.map (·.1)) n) rfl lk_numbers ?_
      refine wv (d := .str x) rfl ?_
      simp only [dicOf, keyD, getK_at hn.nd hx, wMin2]
      rw [cn_min]
      exact hk _ _ rfl
    · intro gb
      simp only [List.nil_append]
      refine fixK_dic ?_
      rw [dnm_at, List.append_assoc]
      exact mk_cut (.inr rfl) hw o3 k
  have := go []
  rw [List.append_nil] at this
  exact this
end K41
namespace K41
open PySem PySem.Spec PyProof.Rows L2 Sy
section
variable {ws : List PySem.Str} {nm : List (PySem.Str × Int)}
theorem apart_call (hw : WsOk ws) (hn : NmOk ws nm) (hs : spr ws nm ≠ 0) {p r : PySem.Str × Int} (hp : p ∈ nm) (hr : r ∈ nm) {ρ : Sy.Env} {i : Nat} {ms : Ms} {kk : KR} (h0 : ρ.sl[0]? = some (some (cutOf ws nm))) (hi : ρ.sl[i]? = some (some (.tup [.str p.1, .str r.1])))
    (hk : kk (.bl (apart ws p r (spr ws nm - 1))) ms) : wMeth "Cut" "are_apart" R_Cut_are_apart (wVar 0) (wCons (wOp wIxA (wVar i) (wC (.int 0))) (wCons (wOp wIxA (wVar i) (wC (.int 1))) (wCons (wOp (wI0 fun i j => .int (i - j)) (wProp "Cut" "spread" R_Cut_spread (wVar 0)) (wC (.int 1))) wNil))) ρ ms kk := by
  have := spr_nn (ws := ws) (nm := nm)
  show wVar 0 ρ ms _
  refine wv h0 ?_
  refine ⟨rfl, rfl, ?_⟩
  have t0 : atD [Dat.str p.1, .str r.1] 0 = some (.str p.1) := rfl
  have t1 : atD [Dat.str p.1, .str r.1] 1 = some (.str r.1) := rfl
  simp only [wCons, wOp, wNil]
  refine wv hi ?_
  simp only [wC, wIxA, dicOf, wIx, look, t0]
  refine wv hi ?_
  simp only [dicOf, look, t1]
  refine p_spread h0 ?_
  exact ⟨ws, nm, p, r, _, rfl, hp, hr, hw, hn, by omega, hk⟩
def tupP (ab : PySem.Str × PySem.Str) : Dat := .tup [.str ab.1, .str ab.2]
def PLf (ys xs : List PySem.Str) : List (PySem.Str × PySem.Str) := xs.flatMap fun a => (ys.filter fun b => decide (a.cps.toList < b.cps.toList)).map fun b => (a, b)
theorem PLf_mem {ys xs : List PySem.Str} {ab : PySem.Str × PySem.Str} : ab ∈ PLf ys xs ↔ ab.1 ∈ xs ∧ ab.2 ∈ ys ∧ ab.1.cps.toList < ab.2.cps.toList := by
  unfold PLf
  rw [List.mem_flatMap]
  constructor
  · rintro ⟨a, ha, h⟩
    obtain ⟨b, hb, rfl⟩ := List.mem_map.mp h
    have := List.mem_filter.mp hb
    exact ⟨ha, this.1, by simpa using this.2⟩
  · rintro ⟨h1, h2, h3⟩
    exact ⟨ab.1, h1, List.mem_map.mpr ⟨ab.2, List.mem_filter.mpr ⟨h2, by simpa using h3⟩, rfl⟩⟩
theorem PLf_len {ys xs : List PySem.Str} (h : ys.length ≤ 4) : (PLf ys xs).length ≤ xs.length * 4 := by
  induction xs with
  | nil => simp [PLf]
  | cons a xs ih =>
    have := List.length_filter_le (fun b => decide (a.cps.toList < b.cps.toList)) ys
    simp only [PLf, List.flatMap_cons, List.length_append, List.length_map, List.length_cons] at ih ⊢
    omega
theorem pairs_go {c : Dat} {ys : List PySem.Str} (hy : ys.length ≤ 4) {ms : Ms} {K : List Dat → Ms → Prop} {x2 x5 : Option Dat} : ∀ (xs : List PySem.Str) (acc : List Dat), acc.length + xs.length * 4 ≤ 1000 → K (acc ++ (PLf ys xs).map tupP) ms →
    lc2W (wgName 3) wYes (wiSeq (wVar 1)) (wgName 4) (wBt (wOp wLt (wVar 3) (wVar 4))) (wTup (wCons (wVar 3) (wCons (wVar 4) wNil))) [4] ⟨[some c, some (.lst (ys.map .str)), x2, none, none, x5], neverX, Str.empty, []⟩ K (xs.map .str) acc ms := by
  have hs := size_big
  intro xs
  induction xs with
  | nil => intro acc _ hk; simpa [PLf] using hk
  | cons a xs ih =>
    intro acc hl hk
    simp only [List.length_cons] at hl
    have hfl := List.length_filter_le (fun b : PySem.Str => decide (a.cps.toList < b.cps.toList)) ys
    show lcW (wgName 4) (wBt (wOp wLt (wVar 3) (wVar 4))) (wTup (wCons (wVar 3) (wCons (wVar 4) wNil))) ⟨[some c, some (.lst (ys.map .str)), x2, some (.str a), none, x5], neverX, Str.empty, []⟩ _ (ys.map .str) acc ms
    refine lcW_T (f := .str) (p := fun b => decide (a.cps.toList < b.cps.toList)) (g := fun b => tupP (a, b)) ?_ (by omega) ?_
    · intro b hb kk hk
      show if decide (a.cps.toList < b.cps.toList) = true then (2 ≤ sizeLine ∧ kk [tupP (a, b)] ms) else kk [] ms
      by_cases e : a.cps.toList < b.cps.toList
      · rw [if_pos (by simpa using e)] at hk ⊢
        exact ⟨by omega, hk⟩
      · rw [if_neg (by simpa using e)] at hk ⊢
        exact hk
    · refine ih _ (by rw [List.length_append, List.length_map]; omega) ?_
      have e : acc ++ (PLf ys (a :: xs)).map tupP = acc ++ ((ys.filter fun b => decide (a.cps.toList < b.cps.toList)).map fun b => tupP (a, b)) ++ (PLf ys xs).map tupP := by
        simp [PLf]
      rw [← e]
      exact hk
end
open Classical in
theorem p_find_bar : ∀ rs ms q qx, R_find_bar rs ms q qx → w_find_bar (endsF q) (startE N_find_bar rs qx) ms := by
  rintro rs ms q qx ⟨ws, nm, rfl, hw, hn, k0, k1⟩
  have hs := size_big
  have hnl := hn.len
  show w_find_bar (endsF q) ⟨[some (cutOf ws nm), none, none, none, none, none], fun _ C fs ms => qx C fs ms, Str.empty, []⟩ ms
  simp only [w_find_bar, wSeq, wIfS, wBt, wOp, wC]
  refine p_spread (ws := ws) (nm := nm) rfl ?_
  refine eqI ?_
  by_cases e : spr ws nm = 0
  · simp only [e, decide_true, if_true, wRet, wC]
    exact k0 e
  simp only [e, decide_false, Bool.false_eq_true, if_false, wNext]
  simp only [w_find_bar_3, wSeq, wAsg, wCB, wCons, wNil]
  refine fld (ws := ws) (nm := nm) rfl lk_tracks ?_
  refine sort_trD hn.len fun ys hp hso => ?_
  have hyl : ys.length ≤ 4 := by rw [hp.length_eq]; simpa using hn.len
  show w_find_bar_2 (endsF q) ⟨[some (cutOf ws nm), some (.lst (ys.map .str)), none, none, none, none], fun _ C fs ms => qx C fs ms, Str.empty, []⟩ ms
  simp only [w_find_bar_2, wSeq, wAsg, wLc2, wiSeq]
  refine wv (d := .lst (ys.map .str)) rfl ?_
  refine pairs_go (c := cutOf ws nm) hyl ys [] (by simp; omega) ?_
  have hlen := PLf_len (ys := ys) (xs := ys) hyl
  show w_find_bar_1 (endsF q) ⟨[some (cutOf ws nm), some (.lst (ys.map .str)), some (.lst ((PLf ys ys).map tupP)), none, none, none], fun _ C fs ms => qx C fs ms, Str.empty, []⟩ ms
  simp only [w_find_bar_1, wRet, wOp, wLc, wiSeq]
  refine wv (d := .lst ((PLf ys ys).map tupP)) rfl ?_
  have mem : ∀ ab ∈ PLf ys ys, ∃ p ∈ nm, ∃ r ∈ nm, ab = (p.1, r.1) := fun ab hab => by
    obtain ⟨h1, h2, _⟩ := PLf_mem.mp hab
    obtain ⟨p, hp1, e1⟩ := List.mem_map.mp (hp.mem_iff.mp h1)
    obtain ⟨r, hr1, e2⟩ := List.mem_map.mp (hp.mem_iff.mp h2)
    exact ⟨p, hp1, r, hr1, by rw [e1, e2]⟩
  let P : PySem.Str × PySem.Str → Bool := fun ab => decide (∃ p ∈ nm, ∃ r ∈ nm, ab = (p.1, r.1) ∧ apart ws p r (spr ws nm - 1) = true)
  have hP : ∀ p ∈ nm, ∀ r ∈ nm, P (p.1, r.1) = apart ws p r (spr ws nm - 1) := fun p hp1 r hr1 => by
    cases ha : apart ws p r (spr ws nm - 1) with
    | true => exact decide_eq_true ⟨p, hp1, r, hr1, rfl, ha⟩
    | false =>
      refine decide_eq_false fun ⟨p', hp', r', hr', e1, e2⟩ => ?_
      injection e1 with e1 e3
      rw [uniq_key hn.nd hp' hp1 e1.symm, uniq_key hn.nd hr' hr1 e3.symm, ha] at e2
      cases e2
  refine lcW_T (f := tupP) (p := P) (g := tupP) ?_ (by simp; omega) ?_
  · intro ab hab kk hk
    obtain ⟨p, hp1, r, hr1, rfl⟩ := mem ab hab
    rw [hP p hp1 r hr1] at hk
    refine apart_call hw hn e hp1 hr1 (ρ := ⟨[some (cutOf ws nm), some (.lst (ys.map .str)), some (.lst ((PLf ys ys).map tupP)), none, none, some (.tup [.str p.1, .str r.1])], neverX, Str.empty, []⟩) (i := 5) rfl rfl ?_
    cases ha : apart ws p r (spr ws nm - 1) with
    | true => rw [ha] at hk; exact hk
    | false => rw [ha] at hk; exact hk
  · simp only [List.nil_append]
    have hne : ∃ ab, ab ∈ (PLf ys ys).filter P := by
      obtain ⟨p, hp1, r, hr1, ne, ha⟩ := helly hn e
      have m1 : p.1 ∈ ys := hp.mem_iff.mpr (List.mem_map.mpr ⟨p, hp1, rfl⟩)
      have m2 : r.1 ∈ ys := hp.mem_iff.mpr (List.mem_map.mpr ⟨r, hr1, rfl⟩)
      rcases str_tri ne with h | h
      · exact ⟨(p.1, r.1), List.mem_filter.mpr ⟨PLf_mem.mpr ⟨m1, m2, h⟩, by rw [hP p hp1 r hr1]; exact ha⟩⟩
      · exact ⟨(r.1, p.1), List.mem_filter.mpr ⟨PLf_mem.mpr ⟨m2, m1, h⟩, by rw [hP r hr1 p hp1, apart_comm]; exact ha⟩⟩
    cases hf : (PLf ys ys).filter P with
    | nil => rw [hf] at hne; obtain ⟨_, h⟩ := hne; cases h
    | cons ab l =>
      have hab : ab ∈ (PLf ys ys).filter P := by rw [hf]; simp
      obtain ⟨h1, h2⟩ := List.mem_filter.mp hab
      obtain ⟨p, hp1, r, hr1, rfl⟩ := mem ab h1
      rw [hP p hp1 r hr1] at h2
      have h0 : atD ((tupP (p.1, r.1)) :: l.map tupP) 0 = some (tupP (p.1, r.1)) := by simp [atD, ixN]
      simp only [List.map_cons, wC, wIxA, dicOf, wIx, look, h0]
      exact k1 e p hp1 r hr1 h2
theorem p_check_bar : ∀ rs ms q qx, R_check_bar rs ms q qx → w_check_bar (endsF q) (startE N_check_bar rs qx) ms := by
  rintro rs ms q qx ⟨ws, nm, o, rfl, hw, hn, k0, k1⟩
  have hs := size_big
  show w_check_bar (endsF q) ⟨[some (cutOf ws nm), some o, none], fun _ C fs ms => qx C fs ms, Str.empty, []⟩ ms
  simp only [w_check_bar, wSeq, wIfS, wBt, wOp, wC]
  refine p_spread (ws := ws) (nm := nm) rfl ?_
  refine eqI ?_
  by_cases e : spr ws nm = 0
  · simp only [e, decide_true, if_true]
    rcases k0 e with ⟨rfl, k⟩ | ⟨⟨a, b, rfl⟩, k⟩
    · exact ⟨rfl, k⟩
    · exact ⟨rfl, k⟩
  simp only [e, decide_false, Bool.false_eq_true, if_false, wNext]
  rcases k1 e with ⟨rfl, k⟩ | ⟨p, hp, r, hr, rfl, k⟩
  · simp [w_check_bar_2, kt_non]
    exact k
  · simp only [w_check_bar_2, wSeq, wIfS, wOr, Sy.wNot]
    have i1 : ∀ kk : Bool → Ms → Prop, kk true ms → wBt (wCB (wIsA kt xsB isB) (wCons (wVar 1) (wCons (wC (.ty "tuple")) wNil))) ⟨[some (cutOf ws nm), some (.tup [.str p.1, .str r.1]), none], fun _ C fs ms => qx C fs ms, Str.empty, []⟩ ms kk := by
      intro kk hk
      simp [kt_tup, hk]
    have i2 : ∀ kk : Bool → Ms → Prop, kk false ms → wBt (wOp wNe (wCB wLenA (wCons (wVar 1) wNil)) (wC (.int 2))) ⟨[some (cutOf ws nm), some (.tup [.str p.1, .str r.1]), none], fun _ C fs ms => qx C fs ms, Str.empty, []⟩ ms kk := by
      intro kk hk
      simp [hk]
    refine i1 _ ?_
    simp only [Bool.not_true, Bool.false_eq_true, if_false]
    refine i2 _ ?_
    simp only [Bool.false_eq_true, if_false, wBt, wCB, wCons, wNil, wLc, wiSeq]
    refine wv (d := .tup [.str p.1, .str r.1]) rfl ?_
    have one : ∀ x ∈ [p, r], ∀ kk : KR, kk (.bl true) ms → wAndV (wCall R_is_word (wCons (wVar 2) wNil)) (wOp (wInA false) (wVar 2) (wFld "Cut" "tracks" (wVar 0))) ⟨[some (cutOf ws nm), some (.tup [.str p.1, .str r.1]), some (.str x.1)], neverX, Str.empty, []⟩ ms kk := by
      intro x hx kk hk
      have hx' : x ∈ nm := by
        rcases List.mem_cons.mp hx with rfl | hx
        · exact hp
        · rw [List.mem_singleton.mp hx]; exact hr
      refine ⟨x.1, rfl, hn.mem x hx', ?_⟩
      show wOp (wInA false) (wVar 2) (wFld "Cut" "tracks" (wVar 0)) ⟨[some (cutOf ws nm), some (.tup [.str p.1, .str r.1]), some (.str x.1)], neverX, Str.empty, []⟩ ms kk
      simp only [wOp]
      refine wv (d := .str x.1) rfl ?_
      refine fld (ws := ws) (nm := nm) rfl lk_tracks ?_
      simp only [wInA, dicOf, keyD, getK_trD hn.nd hx']
      exact hk
    refine lcW_M (xs := [p, r]) (f := fun x => .str x.1) (g := fun _ => .bl true) ?_ (by simp; omega) ?_
    · intro x hx kk hk
      exact one x hx (fun y ms => kk [y] ms) hk
    refine ⟨[true, true], rfl, ?_⟩
    show w_check_bar_1 (endsF q) ⟨[some (cutOf ws nm), some (.tup [.str p.1, .str r.1]), none], fun _ C fs ms => qx C fs ms, Str.empty, []⟩ ms
    simp only [w_check_bar_1, wRet]
    exact apart_call hw hn e hp hr rfl rfl k
end K41
namespace K41
open PySem PySem.Spec PyProof.Rows L2 Sy
/-! the law's own functions -/
def wd3 : List PySem.Str := ["a", "key", "zz"]
theorem wd3_sub : ∀ x ∈ wd3, x ∈ wds := by decide +kernel
theorem atD_wd {l : List PySem.Str} {r : Int} (h0 : 0 ≤ r) (h1 : r < (l.length : Nat)) : ∃ x ∈ l, atD (l.map .str) r = some (.str x) := by
  have hl : r.toNat < l.length := by omega
  refine ⟨l[r.toNat], List.getElem_mem hl, ?_⟩
  unfold atD ixN
  rw [if_pos h0, List.length_map, if_pos h1]
  simp [hl]
theorem set2 {ms : Ms} {j : Nat} {a b : Cell} : (ms.set j a).set j b = ms.set j b := by simp
theorem p__law_order : ∀ rs ms q qx, R__law_order rs ms q qx → w__law_order (endsF q) (startE N__law_order rs qx) ms := by
  rintro rs ms q qx ⟨j, n, s, rfl, hj, ok, k⟩
  have hs := size_big
  have hl := lt_of_at hj
  have e1 : ∀ c, (ms.set j c)[j]? = some c := fun c => by simp [hl]
  show w__law_order (endsF q) ⟨[some (.own j), some (.int 30), none, none], fun _ C fs ms => qx C fs ms, Str.empty, []⟩ ms
  simp only [w__law_order, wSeq, wAsg, wSl, wLst, wCons, wC, wNil, wNoPart, wPart, wOp, wCall, wVar, List.getElem?_cons_zero]
  refine ⟨by simp; omega, ?_⟩
  refine ⟨j, n, s, 3, rfl, hj, ok, by decide, by decide, fun r n1 s1 r0 r3 ok1 => ?_⟩
  have hc : cutD [Dat.str "a", .str "key", .str "zz"] none (some (1 + r)) = (wd3.take (1 + r.toNat)).map .str := by
    have er : (1 + r) = ((1 + r.toNat : Nat) : Int) := by omega
    rw [er, cut_take, List.map_take]
    rfl
  show w__law_order_1 (endsF q) ⟨[some (.own j), some (.int 30), some (.lst (cutD [Dat.str "a", .str "key", .str "zz"] none (some (1 + r)))), none], fun _ C fs ms => qx C fs ms, Str.empty, []⟩ _
  rw [hc]
  generalize hL : wd3.take (1 + r.toNat) = L
  have hLm : ∀ x ∈ L, x ∈ wds := fun x hx => wd3_sub x (by rw [← hL] at hx; exact List.mem_of_mem_take hx)
  have hLl : 0 < L.length ∧ L.length ≤ 3 := by rw [← hL, List.length_take]; simp [wd3]; omega
  simp only [w__law_order_1, wRet, wLc, wiRng1, wCons, wC, wNil, wOp, wCall, wVar, List.getElem?_cons_zero, List.getElem?_cons_succ, wAdd, look]
  refine ⟨j, n1, s1, _, rfl, e1 _, ok1, by decide, by decide, fun r2 n2 s2 r20 r23 ok2 => ?_⟩
  have r23' : r2 < 31 := r23
  refine ⟨by omega, by omega, ?_⟩
  rw [set2]
  refine lcW_ind (I := fun ds acc m => ∃ ws n s, acc = ws.map Dat.str ∧ ws.length + ds.length ≤ 30 ∧ (∀ x ∈ ws, x ∈ wds) ∧ m = ms.set j (src n s) ∧ SrcOk n s) ?_ ?_ _ _ _ ⟨[], n2, s2, rfl, by simp [rngD]; omega, by simp, rfl, ok2⟩
  · rintro d ds acc m ⟨ws, n, s, rfl, hl2, hm, rfl, ok⟩ F hF
    simp only [wgName, wYes, if_true, wOp, wCall, wCons, wNil, wCB]
    refine wv (d := .lst (L.map .str)) rfl ?_
    refine wv (d := .own j) rfl ?_
    refine wv (d := .lst (L.map .str)) rfl ?_
    simp only [wLenA, dicOf, wLen, look, List.length_map]
    refine ⟨j, n, s, _, rfl, e1 _, ok, by omega, ?_, fun r3 n3 s3 r30 r33 ok3 => ?_⟩
    · have : (((L.length : Nat) : Int)).natAbs ≤ 3 := by omega
      exact Nat.lt_of_le_of_lt (Nat.log2_le_self _) (by omega)
    · obtain ⟨x, hx, ex⟩ := atD_wd r30 r33
      simp only [wIxA, dicOf, wIx, look, ex]
      simp only [List.length_cons] at hl2
      refine ⟨by omega, hF _ _ ⟨ws ++ [x], n3, s3, by simp, by simp; omega, fun y hy => ?_, set2, ok3⟩⟩
      rcases List.mem_append.mp hy with hy | hy
      · exact hm y hy
      · rw [List.mem_singleton.mp hy]; exact hLm x hx
  · rintro acc m ⟨ws, n, s, rfl, hl2, hm, rfl, ok⟩
    exact k ws n s ⟨by simpa using hl2, hm⟩ ok
theorem cnt_take {ws : List PySem.Str} {x : PySem.Str} {m : Nat} : (((wsD ws).take m).countP (fun z => eqD z (.str x)) : Nat) = (cn ws x m : Int) := by
  unfold wsD cn
  rw [← List.map_take, cnt_str]
theorem gap_one {ws : List PySem.Str} {nm : List (PySem.Str × Int)} {p : PySem.Str × Int} {m : Nat} {ρ : Sy.Env} {i j n l : Nat} {ms : Ms} {kk : KR} (nd : (nm.map (·.1)).Nodup) (hp : p ∈ nm) (h0 : ρ.sl[i]? = some (some (.lst (wsD ws)))) (h1 : ρ.sl[j]? = some (some (.dic (dnm nm)))) (h2 : ρ.sl[n]? = some (some (.int (m : Nat)))) (h3 : ρ.sl[l]? = some (some (.str p.1)))
    (hk : kk (.int (dst ws p m)) ms) : wCB wAbs (wCons (wOp (wI0 fun i j => .int (i - j)) (wOp wIxA (wVar j) (wVar l)) (wCnt (wSl (wVar i) wNoPart (wPart (wVar n))) (wVar l))) wNil) ρ ms kk := by
  simp only [wCB, wCons, wNil, wOp]
  refine wv h1 ?_
  refine wv h3 ?_
  simp only [wIxA, dicOf, keyD, getK_dnm nd hp, wCnt, wSl, wNoPart, wPart]
  refine wv h0 ?_
  refine wv h2 ?_
  simp only [look, cut_take, lstOf]
  refine wv h3 ?_
  refine ⟨rfl, by unfold wsD; rw [← List.map_take]; exact flat_strs, ?_⟩
  rw [cnt_take]
  exact hk
theorem p__law_gap : ∀ rs ms q qx, R__law_gap rs ms q qx → w__law_gap (endsF q) (startE N__law_gap rs qx) ms := by
  rintro rs ms q qx ⟨ws, nm, m, rfl, hw, hn, hm, k⟩
  have hs := size_big
  have hnl := hn.len
  show w__law_gap (endsF q) ⟨[some (.lst (wsD ws)), some (.dic (dnm nm)), some (.int (m : Nat)), none], fun _ C fs ms => qx C fs ms, Str.empty, []⟩ ms
  simp only [w__law_gap, wRet, wCB, wCons, wNil, wLc, wiKeys]
  refine wv (d := .dic (dnm nm)) rfl ?_
  simp only [frzOf]
  rw [keys_dnm]
  refine lcW_M (xs := nm) (f := fun p => .str p.1) (g := fun p => .int (dst ws p m)) ?_ (by omega) ?_
  · intro p hp kk hk
    exact gap_one (i := 0) (j := 1) (n := 2) (l := 3) (ρ := ⟨[some (.lst (wsD ws)), some (.dic (dnm nm)), some (.int (m : Nat)), some (.str p.1)], neverX, Str.empty, []⟩) hn.nd hp rfl rfl rfl rfl hk
  · refine ⟨nm.map fun p => dst ws p m, by simp, ?_, fun y hy h => ?_⟩
    · have : nm.length ≠ 0 := fun e => hn.ne (List.eq_nil_of_length_eq_zero e)
      simp; omega
    · obtain ⟨p, hp, e⟩ := List.mem_map.mp hy
      rw [mx_uniq hy h (by rw [← e]; exact dst_nn)]
      exact k
theorem pairs_nm {nm : List (PySem.Str × Int)} : pairsD (nm.map fun p => .tup [.str p.1, .int p.2]) = some (dnm nm) := by
  induction nm with
  | nil => rfl
  | cons p nm ih =>
    show (match keyD (.str p.1), pairsD (nm.map fun p => .tup [.str p.1, .int p.2]) with
      | some key, some ps => some ((key, Dat.int p.2) :: ps)
      | _, _ => none) = _
    rw [ih]
    rfl
theorem dict_nm {nm : List (PySem.Str × Int)} (nd : (nm.map (·.1)).Nodup) {ms : Ms} {k : KR} (hk : k (.own ms.length) (ms ++ [.dic (dnm nm)])) : wDictOf [.lst (nm.map fun p => .tup [.str p.1, .int p.2])] ms k := by
  have nd' : (([] ++ dnm nm : List (Key × Dat)).map (fun x => x.1)).Nodup := by
    have e : (dnm nm).map (·.1) = (nm.map (·.1)).map Sum.inr := by simp [dnm]
    rw [List.nil_append, e]
    exact nd_ks nd
  simp only [wDictOf, dicOf, look, pairs_nm]
  rw [mergeD_nd nd', List.nil_append]
  exact hk
theorem p__law_at : ∀ rs ms q qx, R__law_at rs ms q qx → w__law_at (endsF q) (startE N__law_at rs qx) ms := by
  rintro rs ms q qx ⟨ws, nm, m, rfl, hw, hn, hm, k⟩
  have hs := size_big
  have hnl := hn.len
  show w__law_at (endsF q) ⟨[some (.lst (wsD ws)), some (.dic (dnm nm)), some (.int (m : Nat)), none], fun _ C fs ms => qx C fs ms, Str.empty, []⟩ ms
  simp only [w__law_at, wRet, wFix_eq, wCB, wCons, wNil, wLc, wiKeys]
  refine wv (d := .dic (dnm nm)) rfl ?_
  simp only [frzOf]
  rw [keys_dnm]
  refine lcW_M (xs := nm) (f := fun p => .str p.1) (g := fun p => .tup [.str p.1, .int (cn ws p.1 m)]) ?_ (by omega) ?_
  · intro p hp kk hk
    simp only [wgName, wTup, wCons, wNil]
    refine wv (d := .str p.1) rfl ?_
    simp only [wCnt, wSl, wNoPart, wPart]
    refine wv (d := .lst (wsD ws)) rfl ?_
    refine wv (d := .int (m : Nat)) rfl ?_
    simp only [look, cut_take, lstOf]
    refine wv (d := .str p.1) rfl ?_
    refine ⟨rfl, by unfold wsD; rw [← List.map_take]; exact flat_strs, ?_⟩
    rw [cnt_take]
    exact ⟨by simp; omega, hk⟩
  · have e : (nm.map fun p => Dat.tup [.str p.1, .int (cn ws p.1 m)]) = (atN ws (nm.map (·.1)) m).map fun p => .tup [.str p.1, .int p.2] := by simp [atN]
    rw [e]
    refine dict_nm (by simpa [atN, Function.comp_def] using hn.nd) ?_
    exact fixK_dic (k _)
theorem bars_go {ws : List PySem.Str} {nm : List (PySem.Str × Int)} (hn : NmOk ws nm) {p r : PySem.Str × Int} (hp : p ∈ nm) (hr : r ∈ nm) {sl : Int} {E : WEnds} {ms : Ms} {ex : KX} {x5 : Option Dat} : ∀ (l : List Nat) (v4 : Option Dat), (l.all (barB ws p r sl) = true → ∀ v4, E.nx ⟨[some (.lst (wsD ws)), some (.dic (dnm nm)), some (.tup [.str p.1, .str r.1]), some (.int sl), v4, x5], ex, Str.empty, []⟩ ms) → (l.all (barB ws p r sl) = false → E.rt (.bl false) ms) →
    forW (wgName 4) w__law_bars_1 E (l.map fun (m : Nat) => .int (m : Nat)) ⟨[some (.lst (wsD ws)), some (.dic (dnm nm)), some (.tup [.str p.1, .str r.1]), some (.int sl), v4, x5], ex, Str.empty, []⟩ ms := by
  have hs := size_big
  intro l
  induction l with
  | nil => intro v4 h1 h2; exact h1 rfl v4
  | cons m l ih =>
    intro v4 h1 h2
    show w__law_bars_1 { nx := forW (wgName 4) w__law_bars_1 E (l.map fun (m : Nat) => .int (m : Nat)), ct := forW (wgName 4) w__law_bars_1 E (l.map fun (m : Nat) => .int (m : Nat)), bk := E.nx, rt := E.rt } ⟨[some (.lst (wsD ws)), some (.dic (dnm nm)), some (.tup [.str p.1, .str r.1]), some (.int sl), some (.int (m : Nat)), x5], ex, Str.empty, []⟩ ms
    have fin : ∀ b, b = decide (mxL [dst ws p m, dst ws r m] ≤ sl) → (if b = true then E.rt (.bl false) ms else forW (wgName 4) w__law_bars_1 E (l.map fun (m : Nat) => .int (m : Nat)) ⟨[some (.lst (wsD ws)), some (.dic (dnm nm)), some (.tup [.str p.1, .str r.1]), some (.int sl), some (.int (m : Nat)), x5], ex, Str.empty, []⟩ ms) := by
      rintro b rfl
      by_cases e : mxL [dst ws p m, dst ws r m] ≤ sl
      · rw [if_pos (by simpa using e)]
        exact h2 (by simp [barB, e])
      · rw [if_neg (by simpa using e)]
        refine ih _ (fun ha => h1 ?_) (fun ha => h2 ?_)
        · simp only [List.all_cons, ha, Bool.and_true]; simp [barB, e]
        · simp only [List.all_cons, ha, Bool.and_false]
    simp only [w__law_bars_1, wIfS, wBt, wOp, wCB, wCons, wNil, wLc, wiSeq]
    refine wv (d := .tup [.str p.1, .str r.1]) rfl ?_
    refine lcW_M (xs := [p, r]) (f := fun p => .str p.1) (g := fun p => .int (dst ws p m)) ?_ (by simp; omega) ?_
    · intro x hx kk hk
      have hx' : x ∈ nm := by
        rcases List.mem_cons.mp hx with rfl | hx
        · exact hp
        · rw [List.mem_singleton.mp hx]; exact hr
      exact gap_one (i := 0) (j := 1) (n := 4) (l := 5) (ρ := ⟨[some (.lst (wsD ws)), some (.dic (dnm nm)), some (.tup [.str p.1, .str r.1]), some (.int sl), some (.int (m : Nat)), some (.str x.1)], neverX, Str.empty, []⟩) hn.nd hx' rfl rfl rfl rfl hk
    · refine ⟨[dst ws p m, dst ws r m], rfl, by simp, fun y hy h => ?_⟩
      have h0 : 0 ≤ y := by
        rcases List.mem_cons.mp hy with rfl | hy
        · exact dst_nn
        · rw [List.mem_singleton.mp hy]; exact dst_nn
      rw [mx_uniq hy h h0]
      refine wv (d := .int sl) rfl ?_
      exact fin _ rfl
theorem p__law_bars : ∀ rs ms q qx, R__law_bars rs ms q qx → w__law_bars (endsF q) (startE N__law_bars rs qx) ms := by
  rintro rs ms q qx ⟨ws, nm, p, r, sl, rfl, hp, hr, hw, hn, k⟩
  have hs := size_big
  have hl := hw.len
  show w__law_bars (endsF q) ⟨[some (.lst (wsD ws)), some (.dic (dnm nm)), some (.tup [.str p.1, .str r.1]), some (.int sl), none, none], fun _ C fs ms => qx C fs ms, Str.empty, []⟩ ms
  simp only [w__law_bars, wSeq, wFor, wiRng1, wCons, wNil, wOp, wCB]
  refine wv (d := .lst (wsD ws)) rfl ?_
  simp only [wLenA, dicOf, wLen, look, wC, wAdd]
  have er : rngD 0 ((((wsD ws).length : Nat) : Int) + 1).toNat = (List.range (ws.length + 1)).map fun (m : Nat) => .int (m : Nat) := by
    unfold rngD
    rw [show ((((wsD ws).length : Nat) : Int) + 1).toNat = ws.length + 1 by simp [wsD]]
    simp
  have hl' : (wsD ws).length = ws.length := by simp [wsD]
  refine ⟨by omega, by omega, ?_⟩
  rw [er]
  refine bars_go hn hp hr _ _ (fun h v4 => ?_) (fun h => ?_)
  · have : bars ws p r sl = true := h
    rw [this] at k
    exact k
  · have : bars ws p r sl = false := h
    rw [this] at k
    exact k
end K41
namespace K41
open PySem PySem.Spec PyProof.Rows L2 Sy
theorem self_set {ms : Ms} {j : Nat} {c : Cell} (h : ms[j]? = some c) : ms = ms.set j c := by
  have : ms[j]'(lt_of_at h) = c := (List.getElem?_eq_some_iff.mp h).2
  rw [← this]; simp
theorem eqv_nil {l : List PySem.Str} : PyData.eqv (.list (toPys (l.map .str))) (.list []) = decide (l = []) := by
  cases l with
  | nil => simp
  | cons a l => simp [PyData.eqv]
theorem wds_nd : wds.Nodup := by decide +kernel
theorem num_1 {j : Nat} {ms : Ms} {ws L : List PySem.Str} {q : KR} {qx : KXF} {x2 : Option Dat} (hj : j < ms.length) (hw : WsOk ws) (k : ∀ nm n' s' g, NmOk ws nm → SrcOk n' s' → q (.dic (dnm nm)) (ms.set j (src n' s') ++ g)) (hne : L ≠ []) (hnd : L.Nodup) (hm : ∀ x ∈ L, x ∈ wds) (hlen : L.length ≤ 4) {n s : Int} (ok : SrcOk n s) :
    w__law_numbers_1 (endsF q) ⟨[some (.own j), some (.lst (wsD ws)), x2, some (.lst (L.map .str)), none], fun _ C fs ms => qx C fs ms, Str.empty, []⟩ (ms.set j (src n s)) := by
  have hs := size_big
  have hl := hw.len
  have e1 : ∀ c, (ms.set j c)[j]? = some c := fun c => by simp [hj]
  simp only [w__law_numbers_1, wRet, wFix_eq, wCB, wCons, wNil, wLc, wiSeq]
  refine wv (d := .lst (L.map .str)) rfl ?_
  refine lcW_ind (I := fun ds acc m => ∃ (nm : List (PySem.Str × Int)) (r : List PySem.Str) (n s : Int), ds = r.map Dat.str ∧ acc = nm.map (fun p => Dat.tup [.str p.1, .int p.2]) ∧ nm.map (·.1) ++ r = L ∧ (∀ p ∈ nm, 0 ≤ p.2 ∧ p.2 ≤ cn ws p.1 ws.length) ∧ m = ms.set j (src n s) ∧ SrcOk n s) ?_ ?_ _ _ _ ⟨[], L, n, s, rfl, rfl, rfl, by simp, rfl, ok⟩
  · rintro d ds acc m ⟨nm, r, n, s, e, rfl, hL, hb, rfl, ok⟩ F hF
    cases r with
    | nil => cases e
    | cons x r =>
      injection e with e2 e3
      subst e2 e3
      have hnl : nm.length + (r.length + 1) ≤ 4 := by
        have := congrArg List.length hL
        simp at this; omega
      simp only [wgName, wYes, if_true, wTup, wCons, wNil, wCall, wOp]
      refine wv (d := .str x) rfl ?_
      refine wv (d := .own j) rfl ?_
      simp only [wCnt]
      refine wv (d := .lst (wsD ws)) rfl ?_
      simp only [lstOf, look]
      refine wv (d := .str x) rfl ?_
      refine ⟨rfl, flat_strs, ?_⟩
      have ec : ((wsD ws).countP (fun z => eqD z (.str x)) : Nat) = (cn ws x ws.length : Int) := by
        have := cnt_take (ws := ws) (x := x) (m := ws.length)
        rw [List.take_of_length_le (by simp [wsD])] at this
        exact this
      rw [ec]
      have c0 : 0 ≤ cn ws x ws.length := cn_nn
      have c1 : cn ws x ws.length ≤ 30 := by
        unfold cn
        have := List.count_le_length (a := x) (l := ws.take ws.length)
        simp at this ⊢
        omega
      simp only [wC, wAdd, look]
      refine ⟨j, n, s, _, rfl, e1 _, ok, by omega, ?_, fun r3 n3 s3 h0 h3 ok3 => ?_⟩
      · have : (cn ws x ws.length + 1).natAbs ≤ 31 := by omega
        exact Nat.lt_of_le_of_lt (Nat.log2_le_self _) (by omega)
      · refine ⟨by simp; omega, by simp; omega, hF _ _ ⟨nm ++ [(x, r3)], r, n3, s3, rfl, by simp, by simpa using hL, fun p hp => ?_, set2, ok3⟩⟩
        rcases List.mem_append.mp hp with hp | hp
        · exact hb p hp
        · rw [List.mem_singleton.mp hp]; exact ⟨h0, show r3 ≤ cn ws x ws.length by omega⟩
  · rintro acc m ⟨nm, r, n, s, e, rfl, hL, hb, rfl, ok⟩
    have : r = [] := by simpa using e.symm
    subst this
    rw [List.append_nil] at hL
    refine dict_nm (by rw [hL]; exact hnd) ?_
    refine fixK_dic ?_
    refine k nm n s _ ⟨fun h => hne (by rw [← hL, h]; rfl), ?_, by rw [hL]; exact hnd, fun p hp => hm _ (by rw [← hL]; exact List.mem_map.mpr ⟨p, hp, rfl⟩), fun p hp => (hb p hp).1, fun p hp => (hb p hp).2⟩ ok
    have := congrArg List.length hL
    simp at this; omega
theorem p__law_numbers : ∀ rs ms q qx, R__law_numbers rs ms q qx → w__law_numbers (endsF q) (startE N__law_numbers rs qx) ms := by
  rintro rs ms q qx ⟨j, n, s, ws, rfl, hj, ok, hw, k⟩
  have hs := size_big
  have hl := lt_of_at hj
  have e1 : ∀ c, (ms.set j c)[j]? = some c := fun c => by simp [hl]
  show w__law_numbers (endsF q) ⟨[some (.own j), some (.lst (wsD ws)), none, none, none], fun _ C fs ms => qx C fs ms, Str.empty, []⟩ ms
  simp only [w__law_numbers, wSeq, wAsg, wLc, wiSeq, wLst, wCons, wC, wNil]
  refine ⟨by simp; omega, ?_⟩
  refine lcW_ind (I := fun ds acc m => ∃ (l r : List PySem.Str) (n s : Int), ds = r.map Dat.str ∧ acc = l.map Dat.str ∧ (l ++ r).Sublist wds ∧ m = ms.set j (src n s) ∧ SrcOk n s) ?_ ?_ _ _ _ ⟨[], wds, n, s, rfl, rfl, List.Sublist.refl _, self_set hj, ok⟩
  · rintro d ds acc m ⟨l, r, n, s, e, rfl, hsub, rfl, ok⟩ F hF
    cases r with
    | nil => cases e
    | cons x r =>
      injection e with e2 e3
      subst e2 e3
      have hlen : l.length ≤ 4 := by
        have := hsub.length_le
        simp [wds] at this; omega
      simp only [wgName, wBt, wOp, wCall, wCons, wNil, wC]
      refine wv (d := .own j) rfl ?_
      refine ⟨j, n, s, 3, rfl, e1 _, ok, by decide, by decide, fun r3 n3 s3 h0 h3 ok3 => ?_⟩
      by_cases hp : 0 < r3
      · simp only [wGt, wOrd, look, hp, decide_true, if_true]
        refine wv (d := .str x) rfl ?_
        exact ⟨by simp; omega, hF _ _ ⟨l ++ [x], r, n3, s3, rfl, by simp, by simpa using hsub, set2, ok3⟩⟩
      · simp only [wGt, wOrd, look, hp, decide_false, Bool.false_eq_true, if_false]
        exact hF _ _ ⟨l, r, n3, s3, rfl, rfl, (List.Sublist.append (List.Sublist.refl l) (List.sublist_cons_self x r)).trans hsub, set2, ok3⟩
  · rintro acc m ⟨l, r, n, s, e, rfl, hsub, rfl, ok⟩
    have : r = [] := by simpa using e.symm
    subst this
    rw [List.append_nil] at hsub
    have hm : ∀ x ∈ l, x ∈ wds := fun x hx => hsub.subset hx
    have hlen : l.length ≤ 4 := by
      have := hsub.length_le
      simp [wds] at this; omega
    show w__law_numbers_2 (endsF q) ⟨[some (.own j), some (.lst (wsD ws)), some (.lst (l.map .str)), none, none], fun _ C fs ms => qx C fs ms, Str.empty, []⟩ (ms.set j (src n s))
    obtain ⟨s1, s2⟩ := sh_wsL hm
    simp only [w__law_numbers_2, wSeq, wAsg, wIf, wBt, wOp]
    refine wv (d := .lst (l.map .str)) rfl ?_
    refine ⟨by simp, ?_⟩
    refine ⟨_, _, rfl, rfl, s1, rfl, s2, shL0, ?_⟩
    have en : PyData.eqv (toPy (.lst (l.map .str))) (toPy (.lst [])) = decide (l = []) := eqv_nil
    rw [en]
    by_cases hl0 : l = []
    · simp only [hl0, decide_true, Bool.not_true, Bool.false_eq_true, if_false]
      refine ⟨by simp; omega, ?_⟩
      exact num_1 (L := ["key"]) hl hw k (by simp) (by simp) (fun x hx => by rw [List.mem_singleton.mp hx]; decide +kernel) (by simp) ok
    · simp only [hl0, decide_false, Bool.not_false, if_true]
      refine wv (d := .lst (l.map .str)) rfl ?_
      exact num_1 hl hw k hl0 (hsub.nodup wds_nd) hm hlen ok
end K41
namespace K41
open PySem PySem.Spec PyProof.Rows L2 Sy
theorem atD_gps {ws : List PySem.Str} {nm : List (PySem.Str × Int)} {m : Nat} (h : m ≤ ws.length) : atD (nums (gps ws nm)) (m : Nat) = some (.int (gp ws nm m)) := by
  refine atD_nums ?_
  unfold gps
  rw [List.getElem?_map, List.getElem?_range (by omega)]
  rfl
theorem zs_of {ws : List PySem.Str} {nm : List (PySem.Str × Int)} (h : spr ws nm ≠ 0) : zs ws nm = [] := by
  apply List.eq_nil_iff_forall_not_mem.mpr
  intro m hm
  obtain ⟨h1, h2⟩ := mem_zs.mp hm
  have := spr_le (nm := nm) h1
  have := spr_nn (ws := ws) (nm := nm)
  omega
theorem nea_first {ws : List PySem.Str} {nm : List (PySem.Str × Int)} : nea ws nm ≤ ws.length ∧ gp ws nm (nea ws nm) = spr ws nm ∧ ∀ m, m < nea ws nm → gp ws nm m ≠ spr ws nm := by
  have hne : ((List.range (ws.length + 1)).filter fun m => decide (gp ws nm m = spr ws nm)) ≠ [] := by
    obtain ⟨m, h1, h2⟩ := spr_at (ws := ws) (nm := nm)
    exact List.ne_nil_of_mem (a := m) (List.mem_filter.mpr ⟨List.mem_range.mpr (by omega), by simp [h2]⟩)
  have h1 := headD_mem hne
  have h2 := headD_le (filt_rise (n := ws.length + 1) (p := fun m => decide (gp ws nm m = spr ws nm)))
  obtain ⟨a, b⟩ := List.mem_filter.mp h1
  have a' := List.mem_range.mp a
  refine ⟨by unfold nea; omega, by unfold nea; simpa using b, fun m hm e => ?_⟩
  unfold nea at hm
  have := h2 m (List.mem_filter.mpr ⟨List.mem_range.mpr (by omega), by simpa using e⟩)
  omega
theorem idx_gps {ws : List PySem.Str} {nm : List (PySem.Str × Int)} {ρ : Sy.Env} {ms : Ms} {k : KR} {i j : Nat} (h0 : ρ.sl[i]? = some (some (.lst (nums (gps ws nm))))) (h1 : ρ.sl[j]? = some (some (.int (spr ws nm)))) (hk : k (.int (nea ws nm : Nat)) ms) : wIdx (wVar i) (wVar j) ρ ms k := by
  obtain ⟨a1, a2, a3⟩ := nea_first (ws := ws) (nm := nm)
  simp only [wIdx]
  refine wv h0 ?_
  simp only [lstOf, look]
  refine wv h1 ?_
  have hg : ∀ m, m ≤ ws.length → (nums (gps ws nm))[m]? = some (.int (gp ws nm m)) := fun m hm => by
    simp only [nums, gps, List.map_map, List.getElem?_map]
    rw [List.getElem?_range (by omega)]
    rfl
  refine ⟨nea ws nm, .int (gp ws nm (nea ws nm)), rfl, by simp [nums], hg _ a1, by simp [a2], fun m z hm hz => ?_, hk⟩
  rw [hg m (by omega)] at hz
  cases hz
  have := a3 m hm
  simp [this]
theorem seen_fine {ws : List PySem.Str} {nm : List (PySem.Str × Int)} : fine 2 (seenD ws nm) ∧ PyData.eqv (toPy (seenD ws nm)) (toPy (seenD ws nm)) = true := by
  unfold seenD
  split
  · exact ⟨fine_leaf (by decide) rfl, rfl⟩
  · exact ⟨fine_tup fun d hd => by
      simp only [List.mem_cons, List.mem_nil_iff, or_false] at hd
      rcases hd with rfl | rfl <;> exact fine_leaf (by decide) rfl, by simp [PyData.eqv]⟩
def ro (ws : List PySem.Str) (nm : List (PySem.Str × Int)) (x : List (Option Dat)) : Sl := some (.lst (wsD ws)) :: some (.dic (dnm nm)) :: some (cutOf ws nm) :: some (.lst (nums (gps ws nm))) :: some (.int (spr ws nm)) :: x
section
variable {ws : List PySem.Str} {nm : List (PySem.Str × Int)} {E : WEnds} {ms : Ms} {ex : KX} (hw : WsOk ws) (hn : NmOk ws nm)
include hw hn
theorem part_ok {p r : PySem.Str × Int} (hp : p ∈ nm) (hr : r ∈ nm) : ∃ nm', NmOk ws nm' ∧ (∀ x ∈ nm', x ∈ nm) ∧ mergeD [] [((Sum.inr p.1 : Key), Dat.int p.2), (Sum.inr r.1, .int r.2)] = dnm nm' := by
  by_cases e : p.1 = r.1
  · have := uniq_key hn.nd hp hr e
    subst this
    refine ⟨[p], ⟨by simp, by simp, by simp, fun x hx => ?_, fun x hx => ?_, fun x hx => ?_⟩, fun x hx => ?_, by simp [dnm]⟩
    · rw [List.mem_singleton.mp hx]; exact hn.mem p hp
    · rw [List.mem_singleton.mp hx]; exact hn.low p hp
    · rw [List.mem_singleton.mp hx]; exact hn.high p hp
    · rw [List.mem_singleton.mp hx]; exact hp
  · have hx2 : ∀ x ∈ [p, r], x ∈ nm := fun x hx => by
      rcases List.mem_cons.mp hx with rfl | hx
      · exact hp
      · rw [List.mem_singleton.mp hx]; exact hr
    refine ⟨[p, r], ⟨by simp, by simp, by simpa using e, fun x hx => hn.mem x (hx2 x hx), fun x hx => hn.low x (hx2 x hx), fun x hx => hn.high x (hx2 x hx)⟩, hx2, by simp [dnm, e]⟩
theorem right1 {p r : PySem.Str × Int} (hp : p ∈ nm) (hr : r ∈ nm) {x5 x6 x7 x10 : Option Dat} (hE : ∀ g, E.nx ⟨ro ws nm [x5, x6, x7, some (.str p.1), some (.str r.1), x10], ex, Str.empty, []⟩ (ms ++ g)) :
    w__law_right_1 E ⟨ro ws nm [x5, x6, x7, some (.str p.1), some (.str r.1), x10], ex, Str.empty, []⟩ ms := by
  obtain ⟨nm', o', sub, em⟩ := part_ok hw hn hp hr
  simp only [w__law_right_1, wIfS, wBt, wOp, wProp, wFix_eq, wMake, wCons, wNil]
  refine wv (d := .lst (wsD ws)) rfl ?_
  simp only [wDisp, wPairs, wOp]
  refine wv (d := .str p.1) rfl ?_
  refine wv (d := .dic (dnm nm)) rfl ?_
  refine wv (d := .str p.1) rfl ?_
  simp only [wIxA, dicOf, keyD, getK_dnm hn.nd hp]
  refine wv (d := .str r.1) rfl ?_
  refine wv (d := .dic (dnm nm)) rfl ?_
  refine wv (d := .str r.1) rfl ?_
  simp only [dicOf, keyD, getK_dnm hn.nd hr]
  refine ⟨by simp, ?_⟩
  rw [em]
  refine fixK_dic ?_
  refine mk_cut (.inl rfl) hw o' fun g => ?_
  refine ⟨rfl, ws, nm', rfl, ?_⟩
  refine wv (d := .int (spr ws nm)) rfl ?_
  have hle : ¬ spr ws nm < spr ws nm' := by have := spr_part (ws := ws) sub; omega
  simp only [wGt, wOrd, look, hle, decide_false, Bool.false_eq_true, if_false]
  exact hE g
theorem right2 (hs0 : spr ws nm ≠ 0) {p r : PySem.Str × Int} (hp : p ∈ nm) (hr : r ∈ nm) {x5 x6 x7 x10 : Option Dat} (hE : ∀ g, E.nx ⟨ro ws nm [x5, x6, x7, some (.str p.1), some (.str r.1), x10], ex, Str.empty, []⟩ (ms ++ g)) :
    w__law_right_2 E ⟨ro ws nm [x5, x6, x7, some (.str p.1), some (.str r.1), x10], ex, Str.empty, []⟩ ms := by
  have hs := size_big
  have h2 : 2 ≤ sizeLine := by omega
  have nn := spr_nn (ws := ws) (nm := nm)
  have h0 : 0 ≤ spr ws nm - 1 := by omega
  simp only [w__law_right_2, wSeq, wIfS, wBt, wOp, wCall, wCons, wNil]
  refine wv (d := cutOf ws nm) rfl ?_
  simp only [wTup, wCons, wNil]
  refine wv (d := .str p.1) rfl ?_
  refine wv (d := .str r.1) rfl ?_
  refine ⟨h2, ?_⟩
  refine ⟨ws, nm, _, rfl, hw, hn, fun e => absurd e hs0, fun _ => .inr ⟨p, hp, r, hr, rfl, ?_⟩⟩
  have fin : ∀ b, b = apart ws p r (spr ws nm - 1) → wNe (.bl (apart ws p r (spr ws nm - 1))) (.bl b) ms fun a ms1 => match a with
      | .bl b => if b = true then wRet (wC (.bl false)) { nx := w__law_right_1 E, rt := E.rt, bk := E.bk, ct := E.ct } ⟨ro ws nm [x5, x6, x7, some (.str p.1), some (.str r.1), x10], ex, Str.empty, []⟩ ms1 else wNext { nx := w__law_right_1 E, rt := E.rt, bk := E.bk, ct := E.ct } ⟨ro ws nm [x5, x6, x7, some (.str p.1), some (.str r.1), x10], ex, Str.empty, []⟩ ms1
      | _ => False := by
    rintro b rfl
    refine ⟨_, _, rfl, rfl, rfl, rfl, shB, shB, ?_⟩
    have : PyData.eqv (toPy (.bl (apart ws p r (spr ws nm - 1)))) (toPy (.bl (apart ws p r (spr ws nm - 1)))) = true := by simp [PyData.eqv]
    rw [this]
    exact right1 hw hn hp hr hE
  simp only [wAndV, wOp, wCall, wCons, wNil]
  refine wv (d := .str p.1) rfl ?_
  refine wv (d := .str r.1) rfl ?_
  refine ⟨_, _, rfl, rfl, rfl, rfl, wd_sh (hn.mem p hp), wd_sh (hn.mem r hr), ?_⟩
  by_cases e : p.1 = r.1
  · have e2 : PyData.eqv (toPy (.str p.1)) (toPy (.str r.1)) = true := by rw [e]; simp [PyData.eqv]
    rw [e2]
    refine fin false ?_
    have := uniq_key hn.nd hp hr e
    subst this
    exact (apart_self (hn.wz h0 hp)).symm
  · have e2 : PyData.eqv (toPy (.str p.1)) (toPy (.str r.1)) = false := by simp [PyData.eqv, e]
    rw [e2]
    simp only [Bool.not_false, if_true]
    refine wv (d := .lst (wsD ws)) rfl ?_
    refine wv (d := .dic (dnm nm)) rfl ?_
    simp only [wTup, wCons, wNil]
    refine wv (d := .str p.1) rfl ?_
    refine wv (d := .str r.1) rfl ?_
    refine ⟨h2, ?_⟩
    refine wv (d := .int (spr ws nm)) rfl ?_
    refine ⟨ws, nm, p, r, _, rfl, hp, hr, hw, hn, ?_⟩
    exact fin _ (apart_bars (hn.wz h0 hp) (hn.wz h0 hr) h0).symm
theorem right5 (hs0 : spr ws nm ≠ 0) {x5 x6 x7 x8 x9 x10 : Option Dat} (hR : ∀ g, E.rt (.bl true) (ms ++ g)) :
    w__law_right_5 E ⟨ro ws nm [x5, x6, x7, x8, x9, x10], ex, Str.empty, []⟩ ms := by
  simp only [w__law_right_5, wSeq, wFor, wiKeys]
  refine wv (d := .dic (dnm nm)) rfl ?_
  simp only [frzOf]
  rw [keys_dnm]
  refine forW_inv (I := fun ρ m => ∃ x8 x9 g, ρ = ⟨ro ws nm [x5, x6, x7, x8, x9, x10], ex, Str.empty, []⟩ ∧ m = ms ++ g) (D := fun d => ∃ p ∈ nm, d = .str p.1) ?_ ?_ _ (fun d hd => ?_) _ _ ⟨x8, x9, [], rfl, by simp⟩
  · rintro _ ⟨p, hp, rfl⟩ _ _ ⟨x8, x9, g, rfl, rfl⟩ F hF
    show w__law_right_3 _ ⟨ro ws nm [x5, x6, x7, some (.str p.1), x9, x10], ex, Str.empty, []⟩ (ms ++ g)
    simp only [w__law_right_3, wFor, wiKeys]
    refine wv (d := .dic (dnm nm)) rfl ?_
    simp only [frzOf]
    rw [keys_dnm]
    refine forW_inv (I := fun ρ m => ∃ x9 g, ρ = ⟨ro ws nm [x5, x6, x7, some (.str p.1), x9, x10], ex, Str.empty, []⟩ ∧ m = ms ++ g) (D := fun d => ∃ p ∈ nm, d = .str p.1) ?_ ?_ _ (fun d hd => ?_) _ _ ⟨x9, g, rfl, rfl⟩
    · rintro _ ⟨r, hr, rfl⟩ _ _ ⟨x9, g, rfl, rfl⟩ F2 hF2
      show w__law_right_2 _ ⟨ro ws nm [x5, x6, x7, some (.str p.1), some (.str r.1), x10], ex, Str.empty, []⟩ (ms ++ g)
      exact right2 hw hn hs0 hp hr fun g' => hF2 _ _ ⟨_, g ++ g', rfl, by simp⟩
    · rintro _ _ ⟨x9, g, rfl, rfl⟩
      exact hF _ _ ⟨_, _, g, rfl, rfl⟩
    · obtain ⟨p, hp, rfl⟩ := List.mem_map.mp hd
      exact ⟨p, hp, rfl⟩
  · rintro _ _ ⟨x8, x9, g, rfl, rfl⟩
    exact hR g
  · obtain ⟨p, hp, rfl⟩ := List.mem_map.mp hd
    exact ⟨p, hp, rfl⟩
end
end K41
namespace K41
open PySem PySem.Spec PyProof.Rows L2 Sy
section
variable {ws : List PySem.Str} {nm : List (PySem.Str × Int)} {E : WEnds} {ms : Ms} {ex : KX} (hw : WsOk ws) (hn : NmOk ws nm)
include hw hn
theorem right7 (hs0 : spr ws nm ≠ 0) {p r : PySem.Str × Int} (hp : p ∈ nm) (hr : r ∈ nm) (ha : apart ws p r (spr ws nm - 1) = true) {x5 x6 x8 x9 x10 : Option Dat} (hR : ∀ g, E.rt (.bl true) (ms ++ g)) :
    w__law_right_7 E ⟨ro ws nm [x5, x6, some (.tup [.str p.1, .str r.1]), x8, x9, x10], ex, Str.empty, []⟩ ms := by
  have nn := spr_nn (ws := ws) (nm := nm)
  have h0 : 0 ≤ spr ws nm - 1 := by omega
  have t6 : w__law_right_6 E ⟨ro ws nm [x5, x6, some (.tup [.str p.1, .str r.1]), x8, x9, x10], ex, Str.empty, []⟩ ms := by
    simp only [w__law_right_6, wSeq, wIfS, wOr, wBt, wOp, wCall, wCons, wNil, wC]
    refine wv (d := cutOf ws nm) rfl ?_
    refine ⟨ws, nm, _, rfl, hw, hn, fun e => absurd e hs0, fun _ => .inl ⟨rfl, ?_⟩⟩
    simp only [Bool.false_eq_true, if_false]
    refine wv (d := cutOf ws nm) rfl ?_
    refine wv (d := .tup [.str p.1, .str r.1]) rfl ?_
    refine ⟨ws, nm, _, rfl, hw, hn, fun e => absurd e hs0, fun _ => .inr ⟨p, hp, r, hr, rfl, ?_⟩⟩
    rw [ha]
    exact right5 hw hn hs0 hR
  simp only [w__law_right_7, wSeq, wIfS, wOr, Sy.wNot]
  have i1 : ∀ kk : Bool → Ms → Prop, kk true ms → wBt (wCB (wIsA kt xsB isB) (wCons (wVar 7) (wCons (wC (.ty "tuple")) wNil))) ⟨ro ws nm [x5, x6, some (.tup [.str p.1, .str r.1]), x8, x9, x10], ex, Str.empty, []⟩ ms kk := by
    intro kk hk
    simp [ro, kt_tup, hk]
  have i2 : ∀ kk : Bool → Ms → Prop, kk false ms → wBt (wOp wNe (wCB wLenA (wCons (wVar 7) wNil)) (wC (.int 2))) ⟨ro ws nm [x5, x6, some (.tup [.str p.1, .str r.1]), x8, x9, x10], ex, Str.empty, []⟩ ms kk := by
    intro kk hk
    simp [ro, hk]
  refine i1 _ ?_
  simp only [Bool.not_true, Bool.false_eq_true, if_false]
  refine i2 _ ?_
  simp only [Bool.false_eq_true, if_false, wBt, wCall, wCons, wNil, wOp]
  refine wv (d := .lst (wsD ws)) rfl ?_
  refine wv (d := .dic (dnm nm)) rfl ?_
  refine wv (d := .tup [.str p.1, .str r.1]) rfl ?_
  refine wv (d := .int (spr ws nm)) rfl ?_
  refine ⟨ws, nm, p, r, _, rfl, hp, hr, hw, hn, ?_⟩
  rw [← apart_bars (hn.wz h0 hp) (hn.wz h0 hr) h0, ha]
  exact t6
theorem right9 {x5 x6 x7 x8 x9 x10 : Option Dat} (hR : ∀ g, E.rt (.bl true) (ms ++ g)) :
    w__law_right_9 E ⟨ro ws nm [x5, x6, x7, x8, x9, x10], ex, Str.empty, []⟩ ms := by
  have hs := size_big
  have h2 : 2 ≤ sizeLine := by omega
  simp only [w__law_right_9, wSeq, wAsg, wCall, wCons, wNil]
  refine wv (d := cutOf ws nm) rfl ?_
  refine ⟨ws, nm, rfl, hw, hn, fun e => ?_, fun e p hp r hr ha => ?_⟩
  · show w__law_right_8 E ⟨ro ws nm [x5, x6, some .non, x8, x9, x10], ex, Str.empty, []⟩ ms
    simp only [w__law_right_8, wSeq, wIfS, wBt, wOp, wC]
    refine wv (d := .int (spr ws nm)) rfl ?_
    refine eqI ?_
    simp only [e, decide_true, if_true, wRet, wAndV, wOp]
    refine wv (d := .non) rfl ?_
    refine ⟨rfl, ?_⟩
    simp only [Sy.isNon, Bool.false_eq_true, if_false, if_true, wCall, wCons, wNil]
    refine wv (d := cutOf ws nm) rfl ?_
    refine ⟨ws, nm, _, rfl, hw, hn, fun _ => .inl ⟨rfl, ?_⟩, fun h => absurd e h⟩
    simp only [wC, wIsB, decide_true, Bool.false_eq_true, if_false, if_true]
    refine wv (d := cutOf ws nm) rfl ?_
    simp only [wTup, wCons, wNil]
    refine ⟨h2, ws, nm, _, rfl, hw, hn, fun _ => .inr ⟨⟨_, _, rfl⟩, ?_⟩, fun h => absurd e h⟩
    have := hR []
    rw [List.append_nil] at this
    exact this
  · show w__law_right_8 E ⟨ro ws nm [x5, x6, some (.tup [.str p.1, .str r.1]), x8, x9, x10], ex, Str.empty, []⟩ ms
    simp only [w__law_right_8, wSeq, wIfS, wBt, wOp, wC]
    refine wv (d := .int (spr ws nm)) rfl ?_
    refine eqI ?_
    simp only [e, decide_false, Bool.false_eq_true, if_false, wNext]
    exact right7 hw hn e hp hr ha hR
theorem right10 {x5 x7 x8 x9 x10 : Option Dat} (hR : ∀ g, E.rt (.bl true) (ms ++ g)) :
    w__law_right_10 E ⟨ro ws nm [x5, some (seenD ws nm), x7, x8, x9, x10], ex, Str.empty, []⟩ ms := by
  have hs := size_big
  have h3 : 3 ≤ sizeLine := by omega
  simp only [w__law_right_10, wSeq, wIfS, wBt, wOp, wLst, wCons, wNil]
  refine p_spread (ws := ws) (nm := nm) rfl ?_
  refine p_nearest (ws := ws) (nm := nm) rfl ?_
  refine p_seen (ws := ws) (nm := nm) hw rfl ?_
  refine ⟨h3, ?_⟩
  refine wv (d := .int (spr ws nm)) rfl ?_
  refine idx_gps (ws := ws) (nm := nm) rfl rfl ?_
  refine wv (d := seenD ws nm) rfl ?_
  refine ⟨h3, ?_⟩
  obtain ⟨s1, s2⟩ := seen_fine (ws := ws) (nm := nm)
  have f : fine 3 (.lst [.int (spr ws nm), .int (nea ws nm : Nat), seenD ws nm]) := fine_lst fun d hd => by
    simp only [List.mem_cons, List.mem_nil_iff, or_false] at hd
    rcases hd with rfl | rfl | rfl
    · exact fine_leaf (by decide) rfl
    · exact fine_leaf (by decide) rfl
    · exact s1
  refine ⟨_, _, rfl, rfl, f.1, f.1, f.shaped (by decide), f.shaped (by decide), ?_⟩
  have : PyData.eqv (toPy (.lst [.int (spr ws nm), .int (nea ws nm : Nat), seenD ws nm])) (toPy (.lst [.int (spr ws nm), .int (nea ws nm : Nat), seenD ws nm])) = true := by
    simp [PyData.eqv, s2]
  rw [this]
  exact right9 hw hn hR
theorem right11 {x6 x7 x8 x9 x10 : Option Dat} (hR : ∀ g, E.rt (.bl true) (ms ++ g)) :
    w__law_right_11 E ⟨ro ws nm [some (.lst (nts (zs ws nm))), x6, x7, x8, x9, x10], ex, Str.empty, []⟩ ms := by
  have hs := size_big
  have h2 : 2 ≤ sizeLine := by omega
  have k := right10 (E := E) (ms := ms) (ex := ex) (x5 := some (.lst (nts (zs ws nm)))) (x7 := x7) (x8 := x8) (x9 := x9) (x10 := x10) hw hn hR
  obtain ⟨s1, s2⟩ := nts_sh (zs ws nm)
  simp only [w__law_right_11, wSeq, wAsg, wIf, wBt, wOp]
  refine wv (d := .lst (nts (zs ws nm))) rfl ?_
  refine ⟨by simp, ?_⟩
  refine ⟨_, _, rfl, rfl, s1, rfl, s2, shL0, ?_⟩
  have en : PyData.eqv (toPy (.lst (nts (zs ws nm)))) (toPy (.lst [])) = decide (zs ws nm = []) := nts_ne
  rw [en]
  unfold seenD at k
  by_cases e : zs ws nm = []
  · rw [if_pos e] at k
    simp only [e, decide_true, if_true, wC]
    rw [e] at k
    exact k
  · rw [if_neg e] at k
    simp only [e, decide_false, Bool.false_eq_true, if_false, wTup, wCons, wNil, wOp]
    refine wv (d := .lst (nts (zs ws nm))) rfl ?_
    simp only [wC, wIxA, dicOf, wIx, look, nts_0 e]
    refine wv (d := .lst (nts (zs ws nm))) rfl ?_
    simp only [wUn, dicOf, look]
    have e1 := nts_1 e
    show (match atD (nts (zs ws nm)) (-1) with
      | some d => _
      | none => False)
    rw [e1]
    exact ⟨h2, k⟩
theorem right13 {x5 x6 x7 x8 x9 x10 x4 : Option Dat} (hR : ∀ g, E.rt (.bl true) (ms ++ g)) :
    w__law_right_13 E ⟨[some (.lst (wsD ws)), some (.dic (dnm nm)), some (cutOf ws nm), some (.lst (nums (gps ws nm))), x4, x5, x6, x7, x8, x9, x10], ex, Str.empty, []⟩ ms := by
  have hs := size_big
  have hl := hw.len
  simp only [w__law_right_13, wSeq, wAsg, wCB, wCons, wNil]
  refine wv (d := .lst (nums (gps ws nm))) rfl ?_
  refine ⟨gps ws nm, rfl, by simp [gps], fun m hm h => ?_⟩
  rw [mn_uniq hm h]
  show w__law_right_12 E ⟨ro ws nm [x5, x6, x7, x8, x9, x10], ex, Str.empty, []⟩ ms
  simp only [w__law_right_12, wSeq, wAsg, wLc, wiRng1, wCB, wCons, wNil]
  refine wv (d := .lst (nums (gps ws nm))) rfl ?_
  have hl' : (nums (gps ws nm)).length = ws.length + 1 := by simp [nums, gps]
  simp only [wLenA, dicOf, wLen, look, hl']
  refine ⟨by omega, by omega, ?_⟩
  have er : rngD 0 ((ws.length + 1 : Nat) : Int).toNat = (List.range (ws.length + 1)).map fun (m : Nat) => .int (m : Nat) := by
    unfold rngD
    rw [Int.toNat_natCast]
    simp
  rw [er]
  refine lcW_T (f := fun (m : Nat) => .int (m : Nat)) (p := fun m => decide (gp ws nm m = 0)) (g := fun m => .int (m : Nat)) ?_ (by simp; omega) ?_
  · intro m hm kk hk
    have hm := List.mem_range.mp hm
    simp only [wgName, wBt, wOp, wC]
    refine wv (d := .lst (nums (gps ws nm))) rfl ?_
    refine wv (d := .int (m : Nat)) rfl ?_
    simp only [wIxA, dicOf, wIx, look, atD_gps (show m ≤ ws.length by omega)]
    refine eqI ?_
    by_cases e : gp ws nm m = 0
    · simp only [e, decide_true, if_true] at hk ⊢
      exact wv (d := .int (m : Nat)) rfl hk
    · simp only [e, decide_false, Bool.false_eq_true, if_false] at hk ⊢
      exact hk
  · exact right11 hw hn hR
end
theorem p__law_right : ∀ rs ms q qx, R__law_right rs ms q qx → w__law_right (endsF q) (startE N__law_right rs qx) ms := by
  rintro rs ms q qx ⟨ws, nm, rfl, hw, hn, k⟩
  have hs := size_big
  have hl := hw.len
  show w__law_right (endsF q) ⟨[some (.lst (wsD ws)), some (.dic (dnm nm)), none, none, none, none, none, none, none, none, none], fun _ C fs ms => qx C fs ms, Str.empty, []⟩ ms
  simp only [w__law_right, wSeq, wAsg, wFix_eq, wMake, wCons, wNil]
  refine wv (d := .lst (wsD ws)) rfl ?_
  refine wv (d := .dic (dnm nm)) rfl ?_
  refine mk_cut0 (.inl rfl) hw hn fun g => ?_
  show w__law_right_14 (endsF q) ⟨[some (.lst (wsD ws)), some (.dic (dnm nm)), some (cutOf ws nm), none, none, none, none, none, none, none, none], fun _ C fs ms => qx C fs ms, Str.empty, []⟩ (ms ++ g)
  simp only [w__law_right_14, wSeq, wAsg, wLc, wiRng1, wCB, wCons, wNil, wOp]
  refine wv (d := .lst (wsD ws)) rfl ?_
  have hl' : (wsD ws).length = ws.length := by simp [wsD]
  simp only [wLenA, dicOf, wLen, look, hl', wC, wAdd]
  refine ⟨by omega, by omega, ?_⟩
  have er : rngD 0 (((ws.length : Nat) : Int) + 1).toNat = (List.range (ws.length + 1)).map fun (m : Nat) => .int (m : Nat) := by
    unfold rngD
    rw [show (((ws.length : Nat) : Int) + 1).toNat = ws.length + 1 by omega]
    simp
  rw [er]
  refine lcW_M (f := fun (m : Nat) => .int (m : Nat)) (g := fun m => .int (gp ws nm m)) ?_ (by simp; omega) ?_
  · intro m hm kk hk
    have hm := List.mem_range.mp hm
    simp only [wgName, wCall, wCons, wNil]
    refine wv (d := .lst (wsD ws)) rfl ?_
    refine wv (d := .dic (dnm nm)) rfl ?_
    refine wv (d := .int (m : Nat)) rfl ?_
    exact ⟨ws, nm, m, rfl, hw, hn, by omega, hk⟩
  · have ee : (List.range (ws.length + 1)).map (fun m => Dat.int (gp ws nm m)) = nums (gps ws nm) := by simp [nums, gps]
    rw [ee]
    exact right13 hw hn fun g' => by
      have := k (g ++ g')
      rw [← List.append_assoc] at this
      exact this
end K41
namespace K41
open PySem PySem.Spec PyProof.Rows L2 Sy
def SrcAt (m : Ms) (j : Nat) : Prop := ∃ n s, m[j]? = some (src n s) ∧ SrcOk n s
theorem SrcAt.app {m g : Ms} {j : Nat} (h : SrcAt m j) : SrcAt (m ++ g) j := let ⟨n, s, h1, h2⟩ := h; ⟨n, s, at_app h1, h2⟩
theorem okK_dnm {nm : List (PySem.Str × Int)} : okK (dnm nm) = true := by
  unfold okK dnm
  rw [List.all_map, List.all_eq_true]
  intro p hp
  simp
theorem getP_self {nm : List (PySem.Str × Int)} (nd : (nm.map (·.1)).Nodup) {p : PySem.Str × Int} (hp : p ∈ nm) : getP (toPyK (dnm nm)) (.inr p.1) = some (.int p.2) := by
  induction nm with
  | nil => cases hp
  | cons a l ih =>
    simp only [List.map_cons, List.nodup_cons] at nd
    rcases List.mem_cons.mp hp with rfl | h
    · simp [dnm, toPyK, getP]
    · have : a.1 ≠ p.1 := fun e => nd.1 (e ▸ List.mem_map.mpr ⟨p, h, rfl⟩)
      have ih := ih nd.2 h
      simp only [dnm, toPyK, getP, List.map_cons] at ih ⊢
      rw [List.find?_cons_of_neg (by simpa using this)]
      exact ih
theorem hits_self {nm : List (PySem.Str × Int)} (nd : (nm.map (·.1)).Nodup) : ∀ {l : List (PySem.Str × Int)}, (∀ p ∈ l, p ∈ nm) → hitsP (toPyK (dnm nm)) (toPyK (dnm l)) = true
  | [], _ => rfl
  | p :: l, h => by
    show (match getP (toPyK (dnm nm)) (.inr p.1) with
      | none => false
      | some e => PyData.eqv (.int p.2) e && hitsP (toPyK (dnm nm)) (toPyK (dnm l))) = true
    rw [getP_self nd (h p (by simp))]
    simp [hits_self nd (fun x hx => h x (List.mem_cons_of_mem _ hx)), PyData.eqv]
theorem eqv_self {nm : List (PySem.Str × Int)} (nd : (nm.map (·.1)).Nodup) : eqvDic (toPyK (dnm nm)) (toPyK (dnm nm)) = true := by
  unfold eqvDic
  rw [hits_self nd (fun _ h => h)]
  simp
theorem zs_at {ws : List PySem.Str} {ks : List PySem.Str} {M : Nat} (h : M ≤ ws.length) : M ∈ zs ws (atN ws ks M) := mem_zs.mpr ⟨h, gp_at⟩
section
variable {ws : List PySem.Str} {nm : List (PySem.Str × Int)} {E : WEnds} {m : Ms} {ex : KX} {ns : List Int} {t : Int} {j a b : Nat} (hw : WsOk ws) (hn : NmOk ws nm) (ha : a ≤ ws.length) (hb : b ≤ ws.length)
def rl (ws : List PySem.Str) (nm : List (PySem.Str × Int)) (ns : List Int) (t : Int) (j a b : Nat) (x3 : Option Dat) (x : List (Option Dat)) : Sl := some (.scr ns) :: some (.int t) :: some (.own j) :: x3 :: some (.lst (wsD ws)) :: some (.dic (dnm nm)) :: some (.lst [.int (a : Nat), .int (b : Nat)]) :: some (.dic (dnm (atN ws (nm.map (·.1)) a))) :: some (.dic (dnm (atN ws (nm.map (·.1)) b))) :: x
include hw hn ha hb
theorem max_two {k : KR} {ms : Ms} (h : k (.int (max a b : Nat)) ms) : wMaxL [.lst [.int (a : Nat), .int (b : Nat)]] ms k := by
  refine ⟨[(a : Int), (b : Int)], rfl, by simp, fun y hy hm => ?_⟩
  have h1 := hm a (by simp)
  have h2 := hm b (by simp)
  have : y = ((max a b : Nat) : Int) := by
    simp only [List.mem_cons, List.mem_nil_iff, or_false] at hy
    rcases hy with rfl | rfl <;> omega
  rw [this]; exact h
theorem min_two {k : KR} {ms : Ms} (h : k (.int (min a b : Nat)) ms) : wMinL [.lst [.int (a : Nat), .int (b : Nat)]] ms k := by
  refine ⟨[(a : Int), (b : Int)], rfl, by simp, fun y hy hm => ?_⟩
  have h1 := hm a (by simp)
  have h2 := hm b (by simp)
  have : y = ((min a b : Nat) : Int) := by
    simp only [List.mem_cons, List.mem_nil_iff, or_false] at hy
    rcases hy with rfl | rfl <;> omega
  rw [this]; exact h
theorem l2 {x3 x9 x10 x13 x14 : Option Dat} {both : List (PySem.Str × Int)} {less : Dat} (eb : both = atN ws (nm.map (·.1)) (max a b)) (hE : E.nx ⟨rl ws nm ns t j a b x3 [x9, x10, some (cutOf ws both), some less, x13, x14], ex, Str.empty, []⟩ m) :
    w_law_2 E ⟨rl ws nm ns t j a b x3 [x9, x10, some (cutOf ws both), some less, x13, x14], ex, Str.empty, []⟩ m := by
  subst eb
  have hz := zs_at (ws := ws) (ks := nm.map (·.1)) (M := max a b) (by omega)
  have hne : zs ws (atN ws (nm.map (·.1)) (max a b)) ≠ [] := List.ne_nil_of_mem hz
  have h1 := headD_le filt_rise _ hz
  have h2 := lastD_ge filt_rise _ hz
  have es : seenD ws (atN ws (nm.map (·.1)) (max a b)) = .tup [.int ((zs ws (atN ws (nm.map (·.1)) (max a b))).headD 0 : Nat), .int ((zs ws (atN ws (nm.map (·.1)) (max a b))).getLastD 0 : Nat)] := by unfold seenD; rw [if_neg hne]
  generalize hh : (zs ws (atN ws (nm.map (·.1)) (max a b))).headD 0 = hd at h1 es
  generalize hg : (zs ws (atN ws (nm.map (·.1)) (max a b))).getLastD 0 = la at h2 es
  have h1' : ((hd : Nat) : Int) ≤ ((max a b : Nat) : Int) := by
    have : hd ≤ max a b := by rw [← hh]; exact headD_le filt_rise _ hz
    omega
  have h2' : ((max a b : Nat) : Int) ≤ ((la : Nat) : Int) := by
    have : max a b ≤ la := by rw [← hg]; exact lastD_ge filt_rise _ hz
    omega
  simp only [w_law_2, wIfS, wOr, wBt, wOp, Sy.wNot]
  refine p_seen (ws := ws) (nm := atN ws (nm.map (·.1)) (max a b)) hw rfl ?_
  rw [es]
  refine ⟨rfl, ?_⟩
  simp only [Sy.isNon, Bool.false_eq_true, if_false, wChain, wOp]
  refine p_seen (ws := ws) (nm := atN ws (nm.map (·.1)) (max a b)) hw rfl ?_
  rw [es]
  have t0 : atD [Dat.int (hd : Nat), .int (la : Nat)] 0 = some (.int (hd : Nat)) := rfl
  have t1 : atD [Dat.int (hd : Nat), .int (la : Nat)] 1 = some (.int (la : Nat)) := rfl
  simp only [wC, wIxA, dicOf, wIx, look, t0, wCB, wCons, wNil]
  refine wv (d := .lst [.int (a : Nat), .int (b : Nat)]) rfl ?_
  refine max_two hw hn ha hb ?_
  simp only [wLe, wOrd, look, h1', decide_true, if_true]
  refine p_seen (ws := ws) (nm := atN ws (nm.map (·.1)) (max a b)) hw rfl ?_
  rw [es]
  simp only [dicOf, look, t1, h2', decide_true, Bool.not_true, Bool.false_eq_true, if_false]
  exact hE
theorem l4 {x3 x9 x10 x13 x14 : Option Dat} (hE : ∀ x12 g, E.nx ⟨rl ws nm ns t j a b x3 [x9, x10, some (cutOf ws (atN ws (nm.map (·.1)) (max a b))), x12, x13, x14], ex, Str.empty, []⟩ (m ++ g)) :
    w_law_4 E ⟨rl ws nm ns t j a b x3 [x9, x10, some (cutOf ws (atN ws (nm.map (·.1)) (max a b))), some (cutOf ws (atN ws (nm.map (·.1)) (min a b))), x13, x14], ex, Str.empty, []⟩ m := by
  have nd1 : ((atN ws (nm.map (·.1)) (max a b)).map (·.1)).Nodup := by simpa [atN, Function.comp_def] using hn.nd
  have nd2 : ((atN ws (nm.map (·.1)) (min a b)).map (·.1)).Nodup := by simpa [atN, Function.comp_def] using hn.nd
  simp only [w_law_4, wSeq, wIfS, wBt, wOp]
  refine p_numbers (ws := ws) (nm := atN ws (nm.map (·.1)) (max a b)) rfl fun g => ?_
  simp only [wCall, wCons, wNil, wOp, wCB]
  refine wv (d := .lst (wsD ws)) rfl ?_
  refine wv (d := .dic (dnm nm)) rfl ?_
  refine wv (d := .lst [.int (a : Nat), .int (b : Nat)]) rfl ?_
  refine max_two hw hn ha hb ?_
  refine ⟨ws, nm, max a b, rfl, hw, hn, by omega, fun g1 => ?_⟩
  refine ⟨okK_dnm, okK_dnm, ?_⟩
  simp only [eqv_self nd1, if_true, Bool.not_true, Bool.false_eq_true, if_false]
  show w_law_3 E ⟨rl ws nm ns t j a b x3 [x9, x10, some (cutOf ws (atN ws (nm.map (·.1)) (max a b))), some (cutOf ws (atN ws (nm.map (·.1)) (min a b))), x13, x14], ex, Str.empty, []⟩ (m ++ g ++ g1)
  simp only [w_law_3, wSeq, wIfS, wBt, wOp]
  refine p_numbers (ws := ws) (nm := atN ws (nm.map (·.1)) (min a b)) rfl fun g2 => ?_
  simp only [wCall, wCons, wNil, wOp, wCB]
  refine wv (d := .lst (wsD ws)) rfl ?_
  refine wv (d := .dic (dnm nm)) rfl ?_
  refine wv (d := .lst [.int (a : Nat), .int (b : Nat)]) rfl ?_
  refine min_two hw hn ha hb ?_
  refine ⟨ws, nm, min a b, rfl, hw, hn, by omega, fun g3 => ?_⟩
  refine ⟨okK_dnm, okK_dnm, ?_⟩
  simp only [eqv_self nd2, if_true, Bool.not_true, Bool.false_eq_true, if_false]
  refine l2 hw hn ha hb rfl ?_
  have := hE (some (cutOf ws (atN ws (nm.map (·.1)) (min a b)))) (g ++ g1 ++ g2 ++ g3)
  simpa using this
theorem l6 {x3 x9 x10 x11 x12 x13 x14 : Option Dat} (hE : ∀ x11 x12 g, E.nx ⟨rl ws nm ns t j a b x3 [x9, x10, x11, x12, x13, x14], ex, Str.empty, []⟩ (m ++ g)) :
    w_law_6 E ⟨rl ws nm ns t j a b x3 [x9, x10, x11, x12, x13, x14], ex, Str.empty, []⟩ m := by
  have o1 := atN_ok hn ha
  have o2 := atN_ok hn hb
  simp only [w_law_6, wSeq, wAsg, wBin, wFix_eq, wMake, wCons, wNil]
  refine wv (d := .lst (wsD ws)) rfl ?_
  refine wv (d := .dic (dnm (atN ws (nm.map (·.1)) a))) rfl ?_
  refine mk_cut0 (.inl rfl) hw o1 fun g1 => ?_
  refine wv (d := .lst (wsD ws)) rfl ?_
  refine wv (d := .dic (dnm (atN ws (nm.map (·.1)) b))) rfl ?_
  refine mk_cut0 (.inl rfl) hw o2 fun g2 => ?_
  refine ⟨rfl, rfl, ws, nm, a, b, rfl, hw, hn, ha, hb, fun g3 => ?_⟩
  show w_law_5 E ⟨rl ws nm ns t j a b x3 [x9, x10, some (cutOf ws (atN ws (nm.map (·.1)) (max a b))), x12, x13, x14], ex, Str.empty, []⟩ (m ++ g1 ++ g2 ++ g3)
  simp only [w_law_5, wSeq, wAsg, wBin, wFix_eq, wMake, wCons, wNil]
  refine wv (d := .lst (wsD ws)) rfl ?_
  refine wv (d := .dic (dnm (atN ws (nm.map (·.1)) a))) rfl ?_
  refine mk_cut0 (.inl rfl) hw o1 fun g4 => ?_
  refine wv (d := .lst (wsD ws)) rfl ?_
  refine wv (d := .dic (dnm (atN ws (nm.map (·.1)) b))) rfl ?_
  refine mk_cut0 (.inl rfl) hw o2 fun g5 => ?_
  refine ⟨rfl, rfl, ws, nm, a, b, rfl, hw, hn, ha, hb, fun g6 => ?_⟩
  refine l4 hw hn ha hb fun x12 g => ?_
  have := hE (some (cutOf ws (atN ws (nm.map (·.1)) (max a b)))) x12 (g1 ++ g2 ++ g3 ++ g4 ++ g5 ++ g6 ++ g)
  simpa using this
theorem l7 {nm9 : List (PySem.Str × Int)} (h9 : NmOk ws nm9) {x3 x10 x11 x12 x13 x14 : Option Dat} (hE : ∀ x10 x11 x12 g, E.nx ⟨rl ws nm ns t j a b x3 [some (.dic (dnm nm9)), x10, x11, x12, x13, x14], ex, Str.empty, []⟩ (m ++ g)) :
    w_law_7 E ⟨rl ws nm ns t j a b x3 [some (.dic (dnm nm9)), x10, x11, x12, x13, x14], ex, Str.empty, []⟩ m := by
  have hs := size_big
  have o1 := atN_ok hn ha
  have o2 := atN_ok hn hb
  simp only [w_law_7, wSeq, wFor, wiSeq, wLst, wCons, wNil]
  refine wv (d := .dic (dnm nm)) rfl ?_
  refine wv (d := .dic (dnm (atN ws (nm.map (·.1)) a))) rfl ?_
  refine wv (d := .dic (dnm (atN ws (nm.map (·.1)) b))) rfl ?_
  refine wv (d := .dic (dnm nm9)) rfl ?_
  refine ⟨by simp; omega, ?_⟩
  refine forW_inv (I := fun ρ m' => ∃ x10 g, ρ = ⟨rl ws nm ns t j a b x3 [some (.dic (dnm nm9)), x10, x11, x12, x13, x14], ex, Str.empty, []⟩ ∧ m' = m ++ g) (D := fun d => ∃ nm', d = .dic (dnm nm') ∧ NmOk ws nm') ?_ ?_ _ (fun d hd => ?_) _ _ ⟨x10, [], rfl, by simp⟩
  · rintro _ ⟨nm', rfl, hn'⟩ _ _ ⟨x10, g, rfl, rfl⟩ F hF
    show w_law_1 _ ⟨rl ws nm ns t j a b x3 [some (.dic (dnm nm9)), some (.dic (dnm nm')), x11, x12, x13, x14], ex, Str.empty, []⟩ (m ++ g)
    simp only [w_law_1, wIfS, Sy.wNot, wBt, wCall, wCons, wNil]
    refine wv (d := .lst (wsD ws)) rfl ?_
    refine wv (d := .dic (dnm nm')) rfl ?_
    refine ⟨ws, nm', rfl, hw, hn', fun g' => ?_⟩
    exact hF _ _ ⟨_, g ++ g', rfl, by simp⟩
  · rintro _ _ ⟨x10, g, rfl, rfl⟩
    refine l6 hw hn ha hb fun x11 x12 g' => ?_
    have := hE x10 x11 x12 (g ++ g')
    simpa using this
  · simp only [List.mem_cons, List.mem_nil_iff, or_false] at hd
    rcases hd with rfl | rfl | rfl | rfl
    · exact ⟨_, rfl, hn⟩
    · exact ⟨_, rfl, o1⟩
    · exact ⟨_, rfl, o2⟩
    · exact ⟨_, rfl, h9⟩
end
end K41
namespace K41
open PySem PySem.Spec PyProof.Rows L2 Sy
section
variable {ws : List PySem.Str} {nm : List (PySem.Str × Int)} {E : WEnds} {m : Ms} {ex : KX} {ns : List Int} {t : Int} {j a b : Nat} (hw : WsOk ws)
def rx (ns : List Int) (t : Int) (j : Nat) (x : List (Option Dat)) : Sl := some (.scr ns) :: some (.int t) :: some (.own j) :: x
theorem two_at {a b : Nat} {x : PySem.Str} {ks : List PySem.Str} (nd : ks.Nodup) (hx : x ∈ ks) {r : Int} (h0 : 0 ≤ r) (h2 : r < 2) : ∃ c, (c = a ∨ c = b) ∧ ∀ (ms : Ms) (k : KR), k (.int (cn ws x c)) ms → wIxA (.lst [.dic (dnm (atN ws ks a)), .dic (dnm (atN ws ks b))]) (.int r) ms fun d ms1 => wIxA d (.str x) ms1 k := by
  have : r = 0 ∨ r = 1 := by omega
  rcases this with rfl | rfl
  · refine ⟨a, .inl rfl, fun ms k hk => ?_⟩
    have t0 : atD [Dat.dic (dnm (atN ws ks a)), .dic (dnm (atN ws ks b))] 0 = some (.dic (dnm (atN ws ks a))) := rfl
    simp only [wIxA, dicOf, wIx, look, t0, keyD, getK_at nd hx]
    exact hk
  · refine ⟨b, .inr rfl, fun ms k hk => ?_⟩
    have t0 : atD [Dat.dic (dnm (atN ws ks a)), .dic (dnm (atN ws ks b))] 1 = some (.dic (dnm (atN ws ks b))) := rfl
    simp only [wIxA, dicOf, wIx, look, t0, keyD, getK_at nd hx]
    exact hk
include hw
theorem l8 (hn : NmOk ws nm) (ha : a ≤ ws.length) (hb : b ≤ ws.length) (hsrc : SrcAt m j) {x3 x9 x10 x11 x12 x13 x14 : Option Dat} (hE : ∀ x9 x10 x11 x12 m', SrcAt m' j → E.nx ⟨rl ws nm ns t j a b x3 [x9, x10, x11, x12, x13, x14], ex, Str.empty, []⟩ m') :
    w_law_8 E ⟨rl ws nm ns t j a b x3 [x9, x10, x11, x12, x13, x14], ex, Str.empty, []⟩ m := by
  have hs := size_big
  have h2 : 2 ≤ sizeLine := by omega
  have hnl := hn.len
  obtain ⟨n, s, hj, ok⟩ := hsrc
  have hl := lt_of_at hj
  have e1 : ∀ c, (m.set j c)[j]? = some c := fun c => by simp [hl]
  simp only [w_law_8, wSeq, wAsg, wFix_eq, wCB, wCons, wNil, wLc, wiKeys]
  refine wv (d := .dic (dnm nm)) rfl ?_
  simp only [frzOf]
  rw [keys_dnm]
  refine lcW_ind (I := fun ds acc m' => ∃ (l r : List (PySem.Str × Int)) (n s : Int), ds = r.map (fun p => Dat.str p.1) ∧ acc = l.map (fun p => Dat.tup [.str p.1, .int p.2]) ∧ l.map (·.1) ++ r.map (·.1) = nm.map (·.1) ∧ (∀ p ∈ l, 0 ≤ p.2 ∧ p.2 ≤ cn ws p.1 ws.length) ∧ m' = m.set j (src n s) ∧ SrcOk n s) ?_ ?_ _ _ _ ⟨[], nm, n, s, rfl, rfl, rfl, by simp, self_set hj, ok⟩
  · rintro d ds acc m' ⟨l, r, n, s, e, rfl, hL, hbd, rfl, ok⟩ F hF
    cases r with
    | nil => cases e
    | cons x r =>
      injection e with e2 e3
      subst e2 e3
      have hlen : l.length + (r.length + 1) = nm.length := by
        have := congrArg List.length hL
        simp at this; omega
      have hx : x.1 ∈ nm.map (·.1) := by rw [← hL]; simp
      simp only [wgName, wYes, if_true, wTup, wCons, wNil, wOp]
      refine wv (d := .str x.1) rfl ?_
      simp only [wLst, wCons, wNil]
      refine wv (d := .dic (dnm (atN ws (nm.map (·.1)) a))) rfl ?_
      refine wv (d := .dic (dnm (atN ws (nm.map (·.1)) b))) rfl ?_
      refine ⟨h2, ?_⟩
      simp only [wCall, wCons, wNil]
      refine wv (d := .own j) rfl ?_
      refine ⟨j, n, s, 2, rfl, e1 _, ok, by decide, by decide, fun r3 n3 s3 h0 h3 ok3 => ?_⟩
      obtain ⟨c, hc, go⟩ := two_at (ws := ws) (a := a) (b := b) hn.nd hx h0 h3
      have hcl : c ≤ ws.length := by rcases hc with rfl | rfl <;> assumption
      refine go _ (fun y ms3 => [Dat.str x.1, y].length ≤ sizeLine ∧ (_ < sizeLine ∧ F (_ ++ [Dat.tup [Dat.str x.1, y]]) ms3)) ?_
      refine ⟨h2, by simp; omega, hF _ _ ⟨l ++ [(x.1, cn ws x.1 c)], r, n3, s3, rfl, by simp, by simpa using hL, fun p hp => ?_, set2, ok3⟩⟩
      rcases List.mem_append.mp hp with hp | hp
      · exact hbd p hp
      · rw [List.mem_singleton.mp hp]; exact ⟨cn_nn, cn_le hcl⟩
  · rintro acc m' ⟨l, r, n, s, e, rfl, hL, hbd, rfl, ok⟩
    have : r = [] := by simpa using e.symm
    subst this
    simp only [List.map_nil, List.append_nil] at hL
    have h9 : NmOk ws l := ⟨fun h => hn.ne (by rw [h] at hL; simpa using hL.symm), by have := congrArg List.length hL; simp at this; omega, by rw [hL]; exact hn.nd, fun p hp => by
        have : p.1 ∈ nm.map (·.1) := by rw [← hL]; exact List.mem_map.mpr ⟨p, hp, rfl⟩
        obtain ⟨r, hr, er⟩ := List.mem_map.mp this
        rw [← er]; exact hn.mem r hr, fun p hp => (hbd p hp).1, fun p hp => (hbd p hp).2⟩
    refine dict_nm (by rw [hL]; exact hn.nd) ?_
    refine fixK_dic ?_
    exact l7 hw hn ha hb h9 fun x10 x11 x12 g => hE _ _ _ _ _ (SrcAt.app (SrcAt.app ⟨n, s, e1 _, ok⟩))
theorem l10 (hn : NmOk ws nm) (hsrc : SrcAt m j) {x3 x6 x7 x8 x9 x10 x11 x12 x13 x14 : Option Dat} (hE : ∀ x4 x5 x6 x7 x8 x9 x10 x11 x12 x13 m', SrcAt m' j → E.nx ⟨rx ns t j [x3, x4, x5, x6, x7, x8, x9, x10, x11, x12, x13, x14], ex, Str.empty, []⟩ m') :
    w_law_10 E ⟨rx ns t j [x3, some (.lst (wsD ws)), some (.dic (dnm nm)), x6, x7, x8, x9, x10, x11, x12, x13, x14], ex, Str.empty, []⟩ m := by
  have hs := size_big
  have h2 : 2 ≤ sizeLine := by omega
  have hwl := hw.len
  obtain ⟨n, s, hj, ok⟩ := hsrc
  have hl := lt_of_at hj
  have e1 : ∀ c, (m.set j c)[j]? = some c := fun c => by simp [hl]
  simp only [w_law_10, wSeq, wAsg, wLc, wiRng1, wCons, wNil, wC]
  refine ⟨by decide, by decide, ?_⟩
  refine lcW_ind (I := fun ds acc m' => ∃ (l : List Nat) (n s : Int), acc = nts l ∧ l.length + ds.length = 2 ∧ (∀ a ∈ l, a ≤ ws.length) ∧ m' = m.set j (src n s) ∧ SrcOk n s) ?_ ?_ _ _ _ ⟨[], n, s, rfl, by simp [rngD], by simp, self_set hj, ok⟩
  · rintro d ds acc m' ⟨l, n, s, rfl, hlen, hbd, rfl, ok⟩ F hF
    simp only [wgName, wYes, if_true, wCall, wCons, wNil, wOp, wCB]
    refine wv (d := .own j) rfl ?_
    refine wv (d := .lst (wsD ws)) rfl ?_
    have hl' : (wsD ws).length = ws.length := by simp [wsD]
    simp only [wLenA, dicOf, wLen, look, hl', wC, wAdd]
    refine ⟨j, n, s, _, rfl, e1 _, ok, by omega, ?_, fun r3 n3 s3 h0 h3 ok3 => ?_⟩
    · have : (((ws.length : Nat) : Int) + 1).natAbs ≤ 31 := by omega
      exact Nat.lt_of_le_of_lt (Nat.log2_le_self _) (by omega)
    · simp only [List.length_cons] at hlen
      have er : ((r3.toNat : Nat) : Int) = r3 := by omega
      refine ⟨by simp [nts]; omega, hF _ _ ⟨l ++ [r3.toNat], n3, s3, by simp [nts, er], by simp; omega, fun a ha => ?_, set2, ok3⟩⟩
      rcases List.mem_append.mp ha with ha | ha
      · exact hbd a ha
      · rw [List.mem_singleton.mp ha]; omega
  · rintro acc m' ⟨l, n, s, rfl, hlen, hbd, rfl, ok⟩
    match l, hlen with
    | [a, b], _ =>
      have ha := hbd a (by simp)
      have hb := hbd b (by simp)
      show w_law_9 E ⟨rx ns t j [x3, some (.lst (wsD ws)), some (.dic (dnm nm)), some (.lst [.int (a : Nat), .int (b : Nat)]), x7, x8, x9, x10, x11, x12, x13, x14], ex, Str.empty, []⟩ (m.set j (src n s))
      have t0 : atD [Dat.int (a : Nat), .int (b : Nat)] 0 = some (.int (a : Nat)) := rfl
      have t1 : atD [Dat.int (a : Nat), .int (b : Nat)] 1 = some (.int (b : Nat)) := rfl
      simp only [w_law_9, wSeq, wParN, wCall, wCons, wNil, wOp]
      refine wv (d := .lst (wsD ws)) rfl ?_
      refine wv (d := .dic (dnm nm)) rfl ?_
      refine wv (d := .lst [.int (a : Nat), .int (b : Nat)]) rfl ?_
      simp only [wC, wIxA, dicOf, wIx, look, t0]
      refine ⟨ws, nm, a, rfl, hw, hn, ha, fun g1 => ?_⟩
      refine wv (d := .lst (wsD ws)) rfl ?_
      refine wv (d := .dic (dnm nm)) rfl ?_
      refine wv (d := .lst [.int (a : Nat), .int (b : Nat)]) rfl ?_
      simp only [dicOf, look, t1]
      refine ⟨ws, nm, b, rfl, hw, hn, hb, fun g2 => ?_⟩
      refine ⟨rfl, h2, ?_⟩
      exact l8 hw hn ha hb (SrcAt.app (SrcAt.app ⟨n, s, e1 _, ok⟩)) fun x9 x10 x11 x12 m' hm' => hE _ _ _ _ _ _ _ _ _ _ _ hm'
end
section
variable {E : WEnds} {m : Ms} {ex : KX} {ns : List Int} {t : Int} {j : Nat}
theorem l12 (hsrc : SrcAt m j) {x3 x4 x5 x6 x7 x8 x9 x10 x11 x12 x13 x14 : Option Dat} (hE : ∀ x4 x5 x6 x7 x8 x9 x10 x11 x12 x13 m', SrcAt m' j → E.nx ⟨rx ns t j [x3, x4, x5, x6, x7, x8, x9, x10, x11, x12, x13, x14], ex, Str.empty, []⟩ m') :
    w_law_12 E ⟨rx ns t j [x3, x4, x5, x6, x7, x8, x9, x10, x11, x12, x13, x14], ex, Str.empty, []⟩ m := by
  obtain ⟨n, s, hj, ok⟩ := hsrc
  have hl := lt_of_at hj
  have e1 : ∀ c, (m.set j c)[j]? = some c := fun c => by simp [hl]
  simp only [w_law_12, wSeq, wAsg, wCall, wCons, wNil, wC]
  refine wv (d := .own j) rfl ?_
  refine ⟨j, n, s, rfl, hj, ok, fun ws n1 s1 hw ok1 => ?_⟩
  show w_law_11 E ⟨rx ns t j [x3, some (.lst (wsD ws)), x5, x6, x7, x8, x9, x10, x11, x12, x13, x14], ex, Str.empty, []⟩ (m.set j (src n1 s1))
  simp only [w_law_11, wSeq, wAsg, wCall, wCons, wNil]
  refine wv (d := .own j) rfl ?_
  refine wv (d := .lst (wsD ws)) rfl ?_
  refine ⟨j, n1, s1, ws, rfl, e1 _, ok1, hw, fun nm n2 s2 g hn ok2 => ?_⟩
  rw [set2]
  exact l10 hw hn (SrcAt.app ⟨n2, s2, e1 _, ok2⟩) hE
theorem l14 (h0 : 0 ≤ t) (h1 : t < 1000) {x2 x3 x4 x5 x6 x7 x8 x9 x10 x11 x12 x13 x14 : Option Dat} (hE : ∀ x2 x3 x4 x5 x6 x7 x8 x9 x10 x11 x12 x13 m', E.nx ⟨[some (.scr ns), some (.int t), x2, x3, x4, x5, x6, x7, x8, x9, x10, x11, x12, x13, x14], ex, Str.empty, []⟩ m') :
    w_law_14 E ⟨[some (.scr ns), some (.int t), x2, x3, x4, x5, x6, x7, x8, x9, x10, x11, x12, x13, x14], ex, Str.empty, []⟩ m := by
  simp only [w_law_14, wSeq, wAsg, wCall, wCons, wNil]
  refine wv (d := .scr ns) rfl ?_
  refine wv (d := .int t) rfl ?_
  refine ⟨ns, t, rfl, h0, h1, fun n s ok => ?_⟩
  show w_law_13 E ⟨rx ns t m.length [x3, x4, x5, x6, x7, x8, x9, x10, x11, x12, x13, x14], ex, Str.empty, []⟩ (m ++ [src n s])
  simp only [w_law_13, wFor, wiRng1, wCons, wNil, wC]
  refine ⟨by decide, by decide, ?_⟩
  refine forW_inv (I := fun ρ m' => ∃ x3 x4 x5 x6 x7 x8 x9 x10 x11 x12 x13, ρ = ⟨rx ns t m.length [x3, x4, x5, x6, x7, x8, x9, x10, x11, x12, x13, x14], ex, Str.empty, []⟩ ∧ SrcAt m' m.length) (D := fun _ => True) ?_ ?_ _ (fun _ _ => trivial) _ _ ⟨_, _, _, _, _, _, _, _, _, _, _, rfl, n, s, by simp, ok⟩
  · rintro d _ _ m' ⟨x3, x4, x5, x6, x7, x8, x9, x10, x11, x12, x13, rfl, hs⟩ F hF
    exact l12 (x3 := some d) hs fun x4 x5 x6 x7 x8 x9 x10 x11 x12 x13 m2 h2 => hF _ _ ⟨_, _, _, _, _, _, _, _, _, _, _, rfl, h2⟩
  · rintro _ m' ⟨x3, x4, x5, x6, x7, x8, x9, x10, x11, x12, x13, rfl, hs⟩
    exact hE _ _ _ _ _ _ _ _ _ _ _ _ _
end
theorem p_law : ∀ rs ms q qx, R_law rs ms q qx → w_law (endsF q) (startE N_law rs qx) ms := by
  rintro rs ms q qx ⟨ns, rfl, rfl, hl, k⟩
  have main : ∀ j : Int, 0 ≤ j → j ≤ 8 → -2 ^ 62 ≤ j ∧ j < 2 ^ 62 ∧ forW (wgName 1) w_law_14 { nx := w_law_15 (endsF q), rt := (endsF q).rt, bk := (endsF q).bk, ct := (endsF q).ct } (rngD 0 j.toNat) ⟨[some (.scr ns), none, none, none, none, none, none, none, none, none, none, none, none, none, none], fun _ C fs ms => qx C fs ms, Str.empty, []⟩ [] := by
    intro j h0 h8
    refine ⟨by omega, by omega, ?_⟩
    refine forW_inv (I := fun ρ m => ∃ x1 x2 x3 x4 x5 x6 x7 x8 x9 x10 x11 x12 x13 x14, ρ = ⟨[some (.scr ns), x1, x2, x3, x4, x5, x6, x7, x8, x9, x10, x11, x12, x13, x14], fun _ C fs ms => qx C fs ms, Str.empty, []⟩) (D := fun x => ∃ i : Int, 0 ≤ i ∧ i < 1000 ∧ x = .int i) ?_ ?_ _ (fun x hx => ?_) _ _ ⟨_, _, _, _, _, _, _, _, _, _, _, _, _, _, rfl⟩
    · rintro _ ⟨i, i0, i1, rfl⟩ _ m ⟨x1, x2, x3, x4, x5, x6, x7, x8, x9, x10, x11, x12, x13, x14, rfl⟩ F hF
      exact l14 i0 i1 fun x2 x3 x4 x5 x6 x7 x8 x9 x10 x11 x12 x13 m2 => hF _ _ ⟨_, _, _, _, _, _, _, _, _, _, _, _, _, _, rfl⟩
    · rintro _ m ⟨x1, x2, x3, x4, x5, x6, x7, x8, x9, x10, x11, x12, x13, x14, rfl⟩
      exact k m
    · obtain ⟨i, hi, rfl⟩ := rngD_mem hx
      exact ⟨_, by omega, by omega, rfl⟩
  exact main (if (if (8 : Int) < (ns.length : Nat) then 8 else ((ns.length : Nat) : Int)) > 1 then (if (8 : Int) < (ns.length : Nat) then 8 else ((ns.length : Nat) : Int)) else 1) (by split <;> split <;> omega) (by split <;> split <;> omega)
end K41
namespace K41
open PySem PySem.Spec PyProof.Rows L2 Sy
def top (i : Nat) : Stmt := PySem.Challenge.pw_slackcache_k41_whole_spreads_of_cuts.main.body.getD i (.Pass ⟨0, 0, 0, 0⟩)
def inCls : Stmt → Nat → Stmt
  | .ClassDef _ _ _ b _ _ _ _ _ _ _, j => b.getD j (.Pass ⟨0, 0, 0, 0⟩)
  | s, _ => s
abbrev s_is_integer : Stmt := top 9
abbrev s_is_in_range : Stmt := top 10
abbrev s_is_word : Stmt := top 11
abbrev s_check_order : Stmt := top 14
abbrev s_are_numbers : Stmt := top 15
abbrev s_numbers_along : Stmt := top 16
abbrev s_Cut_gap : Stmt := inCls (top 17) 1
abbrev s_Cut___init__ : Stmt := inCls (top 17) 0
abbrev s_Cut_numbers : Stmt := inCls (top 17) 3
abbrev s_Cut_spread : Stmt := inCls (top 17) 4
abbrev s_Cut_nearest : Stmt := inCls (top 17) 5
abbrev s_Cut_seen : Stmt := inCls (top 17) 6
abbrev s_Cut_window : Stmt := inCls (top 17) 8
abbrev s_Cut_are_apart : Stmt := inCls (top 17) 9
abbrev s_check_like : Stmt := top 18
abbrev s_Cut___or__ : Stmt := inCls (top 17) 12
abbrev s_Cut___and__ : Stmt := inCls (top 17) 13
abbrev s_find_bar : Stmt := top 19
abbrev s_check_bar : Stmt := top 20
abbrev s__law_source : Stmt := top 22
abbrev s__law_draw : Stmt := top 23
abbrev s__law_order : Stmt := top 24
abbrev s__law_numbers : Stmt := top 25
abbrev s__law_gap : Stmt := top 26
abbrev s__law_at : Stmt := top 27
abbrev s__law_bars : Stmt := top 28
abbrev s__law_right : Stmt := top 29
abbrev s_law : Stmt := top 30
structure Txt (K : PySem.W.Frag) (mg : PySem.Str → Option Value) : Prop where
  f_abs : mg "abs" = none
  f_all : mg "all" = none
  f_bool : mg "bool" = none
  f_dict : mg "dict" = none
  f_enumerate : mg "enumerate" = none
  f_int : mg "int" = none
  f_isinstance : mg "isinstance" = none
  f_len : mg "len" = none
  f_list : mg "list" = none
  f_max : mg "max" = none
  f_min : mg "min" = none
  f_range : mg "range" = none
  f_sorted : mg "sorted" = none
  f_str : mg "str" = none
  f_tuple : mg "tuple" = none
  c_LETTERS : ∃ t, mg "LETTERS" = some (.str "abcdefghijklmnopqrstuvwxyz" t)
  c_LONGEST : ∃ t, mg "LONGEST" = some (.int 8 t)
  c_MOST_WRITES : ∃ t, mg "MOST_WRITES" = some (.int 5000 t)
  g_Cut : mg "Cut" = some (.ref (He.ga K "Cut"))
  g__law_at : mg "_law_at" = some (.ref (He.ga K "_law_at"))
  g__law_bars : mg "_law_bars" = some (.ref (He.ga K "_law_bars"))
  g__law_draw : mg "_law_draw" = some (.ref (He.ga K "_law_draw"))
  g__law_gap : mg "_law_gap" = some (.ref (He.ga K "_law_gap"))
  g__law_numbers : mg "_law_numbers" = some (.ref (He.ga K "_law_numbers"))
  g__law_order : mg "_law_order" = some (.ref (He.ga K "_law_order"))
  g__law_right : mg "_law_right" = some (.ref (He.ga K "_law_right"))
  g__law_source : mg "_law_source" = some (.ref (He.ga K "_law_source"))
  g_are_numbers : mg "are_numbers" = some (.ref (He.ga K "are_numbers"))
  g_check_bar : mg "check_bar" = some (.ref (He.ga K "check_bar"))
  g_check_like : mg "check_like" = some (.ref (He.ga K "check_like"))
  g_check_order : mg "check_order" = some (.ref (He.ga K "check_order"))
  g_find_bar : mg "find_bar" = some (.ref (He.ga K "find_bar"))
  g_is_in_range : mg "is_in_range" = some (.ref (He.ga K "is_in_range"))
  g_is_integer : mg "is_integer" = some (.ref (He.ga K "is_integer"))
  g_is_word : mg "is_word" = some (.ref (He.ga K "is_word"))
  g_numbers_along : mg "numbers_along" = some (.ref (He.ga K "numbers_along"))
  d_is_integer : DefAt K ("is_integer", none) "is_integer" "is_integer" s_is_integer ["obj"]
  d_is_in_range : DefAt K ("is_in_range", none) "is_in_range" "is_in_range" s_is_in_range ["obj", "low", "high"]
  d_is_word : DefAt K ("is_word", none) "is_word" "is_word" s_is_word ["obj"]
  d_check_order : DefAt K ("check_order", none) "check_order" "check_order" s_check_order ["obj"]
  d_are_numbers : DefAt K ("are_numbers", none) "are_numbers" "are_numbers" s_are_numbers ["obj", "order"]
  d_numbers_along : DefAt K ("numbers_along", none) "numbers_along" "numbers_along" s_numbers_along ["order", "key"]
  d_Cut_gap : DefAt K ("Cut", some "gap") "gap" "Cut.gap" s_Cut_gap ["self", "moment"]
  d_Cut___init__ : DefAt K ("Cut", some "__init__") "__init__" "Cut.__init__" s_Cut___init__ ["self", "order", "numbers"]
  d_Cut_numbers : DefAt K ("Cut", some "numbers") "numbers" "Cut.numbers" s_Cut_numbers ["self"]
  d_Cut_spread : DefAt K ("Cut", some "spread") "spread" "Cut.spread" s_Cut_spread ["self"]
  d_Cut_nearest : DefAt K ("Cut", some "nearest") "nearest" "Cut.nearest" s_Cut_nearest ["self"]
  d_Cut_seen : DefAt K ("Cut", some "seen") "seen" "Cut.seen" s_Cut_seen ["self"]
  d_Cut_window : DefAt K ("Cut", some "window") "window" "Cut.window" s_Cut_window ["self", "key", "slack"]
  d_Cut_are_apart : DefAt K ("Cut", some "are_apart") "are_apart" "Cut.are_apart" s_Cut_are_apart ["self", "one", "other", "slack"]
  d_check_like : DefAt K ("check_like", none) "check_like" "check_like" s_check_like ["cut", "obj"]
  d_Cut___or__ : DefAt K ("Cut", some "__or__") "__or__" "Cut.__or__" s_Cut___or__ ["self", "other"]
  d_Cut___and__ : DefAt K ("Cut", some "__and__") "__and__" "Cut.__and__" s_Cut___and__ ["self", "other"]
  d_find_bar : DefAt K ("find_bar", none) "find_bar" "find_bar" s_find_bar ["cut"]
  d_check_bar : DefAt K ("check_bar", none) "check_bar" "check_bar" s_check_bar ["cut", "obj"]
  d__law_source : DefAt K ("_law_source", none) "_law_source" "_law_source" s__law_source ["_law_script", "_law_turn"]
  d__law_draw : DefAt K ("_law_draw", none) "_law_draw" "_law_draw" s__law_draw ["_law_source_here", "_law_amount"]
  d__law_order : DefAt K ("_law_order", none) "_law_order" "_law_order" s__law_order ["_law_source_here", "_law_most"]
  d__law_numbers : DefAt K ("_law_numbers", none) "_law_numbers" "_law_numbers" s__law_numbers ["_law_source_here", "_law_order_here"]
  d__law_gap : DefAt K ("_law_gap", none) "_law_gap" "_law_gap" s__law_gap ["_law_order_here", "_law_numbers_here", "_law_moment"]
  d__law_at : DefAt K ("_law_at", none) "_law_at" "_law_at" s__law_at ["_law_order_here", "_law_words", "_law_moment"]
  d__law_bars : DefAt K ("_law_bars", none) "_law_bars" "_law_bars" s__law_bars ["_law_order_here", "_law_numbers_here", "_law_pair", "_law_slack"]
  d__law_right : DefAt K ("_law_right", none) "_law_right" "_law_right" s__law_right ["_law_order_here", "_law_numbers_here"]
  k_Cut : KlOk K kl_Cut
  kt : KtOk K kt xsB isB
section
variable {P : Program} {w : World} {K : PySem.W.Frag} {mg : PySem.Str → Option Value} {base : Heap}
theorem len_is_integer : ∀ rs ms q qx, R_is_integer rs ms q qx → rs.length = 1 := by
  rintro rs ms q qx ⟨_, rfl, _⟩; rfl
theorem len_is_in_range : ∀ rs ms q qx, R_is_in_range rs ms q qx → rs.length = 3 := by
  rintro rs ms q qx ⟨_, _, _, rfl, _⟩; rfl
theorem len_is_word : ∀ rs ms q qx, R_is_word rs ms q qx → rs.length = 1 := by
  rintro rs ms q qx ⟨_, rfl, _⟩; rfl
theorem len_check_order : ∀ rs ms q qx, R_check_order rs ms q qx → rs.length = 1 := by
  rintro rs ms q qx ⟨_, _, rfl, _⟩; rfl
theorem len_are_numbers : ∀ rs ms q qx, R_are_numbers rs ms q qx → rs.length = 2 := by
  rintro rs ms q qx ⟨_, _, _, rfl, _⟩; rfl
theorem len_numbers_along : ∀ rs ms q qx, R_numbers_along rs ms q qx → rs.length = 2 := by
  rintro rs ms q qx ⟨_, _, _, rfl, _⟩; rfl
theorem len_Cut_gap : ∀ rs ms q qx, R_Cut_gap rs ms q qx → rs.length = 2 := by
  rintro rs ms q qx ⟨_, _, _, _, _, rfl, _⟩; rfl
theorem len_Cut___init__ : ∀ rs ms q qx, R_Cut___init__ rs ms q qx → rs.length = 3 := by
  rintro rs ms q qx ⟨_, _, _, _, rfl, _⟩; rfl
theorem len_Cut_numbers : ∀ rs ms q qx, R_Cut_numbers rs ms q qx → rs.length = 1 := by
  rintro rs ms q qx ⟨_, _, rfl, _⟩; rfl
theorem len_Cut_spread : ∀ rs ms q qx, R_Cut_spread rs ms q qx → rs.length = 1 := by
  rintro rs ms q qx ⟨_, _, rfl, _⟩; rfl
theorem len_Cut_nearest : ∀ rs ms q qx, R_Cut_nearest rs ms q qx → rs.length = 1 := by
  rintro rs ms q qx ⟨_, _, rfl, _⟩; rfl
theorem len_Cut_seen : ∀ rs ms q qx, R_Cut_seen rs ms q qx → rs.length = 1 := by
  rintro rs ms q qx ⟨_, _, rfl, _⟩; rfl
theorem len_Cut_window : ∀ rs ms q qx, R_Cut_window rs ms q qx → rs.length = 3 := by
  rintro rs ms q qx ⟨_, _, _, _, rfl, _⟩; rfl
theorem len_Cut_are_apart : ∀ rs ms q qx, R_Cut_are_apart rs ms q qx → rs.length = 4 := by
  rintro rs ms q qx ⟨_, _, _, _, _, rfl, _⟩; rfl
theorem len_check_like : ∀ rs ms q qx, R_check_like rs ms q qx → rs.length = 2 := by
  rintro rs ms q qx ⟨_, _, _, rfl, _⟩; rfl
theorem len_Cut___or__ : ∀ rs ms q qx, R_Cut___or__ rs ms q qx → rs.length = 2 := by
  rintro rs ms q qx ⟨_, _, _, _, rfl, _⟩; rfl
theorem len_Cut___and__ : ∀ rs ms q qx, R_Cut___and__ rs ms q qx → rs.length = 2 := by
  rintro rs ms q qx ⟨_, _, _, _, rfl, _⟩; rfl
theorem len_find_bar : ∀ rs ms q qx, R_find_bar rs ms q qx → rs.length = 1 := by
  rintro rs ms q qx ⟨_, _, rfl, _⟩; rfl
theorem len_check_bar : ∀ rs ms q qx, R_check_bar rs ms q qx → rs.length = 2 := by
  rintro rs ms q qx ⟨_, _, _, rfl, _⟩; rfl
theorem len__law_source : ∀ rs ms q qx, R__law_source rs ms q qx → rs.length = 2 := by
  rintro rs ms q qx ⟨_, _, rfl, _⟩; rfl
theorem len__law_draw : ∀ rs ms q qx, R__law_draw rs ms q qx → rs.length = 2 := by
  rintro rs ms q qx ⟨_, _, _, _, rfl, _⟩; rfl
theorem len__law_order : ∀ rs ms q qx, R__law_order rs ms q qx → rs.length = 2 := by
  rintro rs ms q qx ⟨_, _, _, rfl, _⟩; rfl
theorem len__law_numbers : ∀ rs ms q qx, R__law_numbers rs ms q qx → rs.length = 2 := by
  rintro rs ms q qx ⟨_, _, _, _, rfl, _⟩; rfl
theorem len__law_gap : ∀ rs ms q qx, R__law_gap rs ms q qx → rs.length = 3 := by
  rintro rs ms q qx ⟨_, _, _, rfl, _⟩; rfl
theorem len__law_at : ∀ rs ms q qx, R__law_at rs ms q qx → rs.length = 3 := by
  rintro rs ms q qx ⟨_, _, _, rfl, _⟩; rfl
theorem len__law_bars : ∀ rs ms q qx, R__law_bars rs ms q qx → rs.length = 4 := by
  rintro rs ms q qx ⟨_, _, _, _, _, rfl, _⟩; rfl
theorem len__law_right : ∀ rs ms q qx, R__law_right rs ms q qx → rs.length = 2 := by
  rintro rs ms q qx ⟨_, _, rfl, _⟩; rfl
theorem len_law : ∀ rs ms q qx, R_law rs ms q qx → rs.length = 1 := by
  rintro rs ms q qx ⟨_, rfl, _⟩; rfl
theorem sc_is_integer : FnScope N_is_integer ["obj"] (defScope s_is_integer) := ⟨rfl, rfl, rfl, by decide +kernel, rfl, by decide +kernel, by decide +kernel⟩
theorem ok_is_integer (T : Txt K mg) : DefOk P w K mg base ("is_integer", none) ["obj"] 1 R_is_integer :=
  def_ok (N := N_is_integer) (k := 0) (ws := w_is_integer) T.d_is_integer sc_is_integer len_is_integer (fun f cdv A out s H E hg hr =>
  (dss_one (ds_ret (de_and (de_bi (dc_isA T.kt) rfl T.f_isinstance (by decide +kernel) (da_cons (de_var 0) (da_cons (de_bty rfl T.f_int (by decide +kernel)) da_nil))) (de_one (de_not (de_bi (dc_isA T.kt) rfl T.f_isinstance (by decide +kernel) (da_cons (de_var 0) (da_cons (de_bty rfl T.f_bool (by decide +kernel)) da_nil))))))))) p_is_integer
theorem sc_is_in_range : FnScope N_is_in_range ["obj", "low", "high"] (defScope s_is_in_range) := ⟨rfl, rfl, rfl, by decide +kernel, rfl, by decide +kernel, by decide +kernel⟩
theorem ok_is_in_range (T : Txt K mg) : DefOk P w K mg base ("is_in_range", none) ["obj", "low", "high"] 2 R_is_in_range :=
  def_ok (N := N_is_in_range) (k := 1) (ws := w_is_in_range) T.d_is_in_range sc_is_in_range len_is_in_range (fun f cdv A out s H E hg hr =>
  (dss_one (ds_ret (de_and (de_call (ok_is_integer T) hg (hr.mono (by decide)) rfl T.g_is_integer (da_cons (de_var 0) da_nil)) (de_one (de_chain do_le do_le (de_var 1) (de_var 0) (de_var 2))))))) p_is_in_range
theorem sc_is_word : FnScope N_is_word ["obj"] (defScope s_is_word) := ⟨rfl, rfl, rfl, by decide +kernel, rfl, by decide +kernel, by decide +kernel⟩
theorem ok_is_word (T : Txt K mg) : DefOk P w K mg base ("is_word", none) ["obj"] 1 R_is_word :=
  def_ok (N := N_is_word) (k := 0) (ws := w_is_word) T.d_is_word sc_is_word len_is_word (fun f cdv A out s H E hg hr =>
  (dss_one (ds_ret (de_and (de_bi (dc_isA T.kt) rfl T.f_isinstance (by decide +kernel) (da_cons (de_var 0) (da_cons (de_bty rfl T.f_str (by decide +kernel)) da_nil))) (de_and (de_chain do_le do_le de_int (de_bi dc_lenA rfl T.f_len (by decide +kernel) (da_cons (de_var 0) da_nil)) (de_globIe rfl T.c_LONGEST)) (de_one (de_bi (dc_all rfl) rfl T.f_all (by decide +kernel) (da_cons (de_lc (own := [("letter", 1)]) rfl sc_is_word.nd (di_str (de_var 0)) (blkOk_by (own := [("letter", 1)]) (N := N_is_word) (sc := defScope s_is_word) (by decide +kernel)) (fun _ _ _ _ _ => (dg_name (i := 1) sc_is_word.nd rfl (Or.inl rfl))) (fun _ _ _ _ _ => dts_nil) (fun _ _ _ _ _ => (de_cmp (do_inA (hu_of hr)) (de_var 1) (de_globSe rfl T.c_LETTERS) rfl))) da_nil)))))))) p_is_word
theorem sc_check_order : FnScope N_check_order ["obj"] (defScope s_check_order) := ⟨rfl, rfl, rfl, by decide +kernel, rfl, by decide +kernel, by decide +kernel⟩
theorem ok_check_order (T : Txt K mg) : DefOk P w K mg base ("check_order", none) ["obj"] 2 R_check_order :=
  def_ok (N := N_check_order) (k := 1) (ws := w_check_order) T.d_check_order sc_check_order len_check_order (fun f cdv A out s H E hg hr =>
  (dss_one (ds_if (DW.dt (dw_or (dt_not (dt_val (de_bi (dc_isA T.kt) rfl T.f_isinstance (by decide +kernel) (da_cons (de_var 0) (da_cons (de_tup (da_cons (de_bty rfl T.f_list (by decide +kernel)) (da_cons (de_bty rfl T.f_tuple (by decide +kernel)) da_nil))) da_nil))))) (dw_or (dt_cmp do_gt (de_bi dc_lenA rfl T.f_len (by decide +kernel) (da_cons (de_var 0) da_nil)) (de_globIe rfl T.c_MOST_WRITES) (nomark _)) (dw_or1 (dt_not (dt_val (de_bi (dc_all rfl) rfl T.f_all (by decide +kernel) (da_cons (de_lc (own := [("word", 1)]) rfl sc_check_order.nd (di_seq (de_var 0)) (blkOk_by (own := [("word", 1)]) (N := N_check_order) (sc := defScope s_check_order) (by decide +kernel)) (fun _ _ _ _ _ => (dg_name (i := 1) sc_check_order.nd rfl (Or.inl rfl))) (fun _ _ _ _ _ => dts_nil) (fun _ _ _ _ _ => (de_call (ok_is_word T) hg (hr.mono (by decide)) rfl T.g_is_word (da_cons (de_var 1) da_nil)))) da_nil)))))))) (dss_one ds_never) dss_nil))) p_check_order
theorem sc_are_numbers : FnScope N_are_numbers ["obj", "order"] (defScope s_are_numbers) := ⟨rfl, rfl, rfl, by decide +kernel, rfl, by decide +kernel, by decide +kernel⟩
theorem ok_are_numbers (T : Txt K mg) : DefOk P w K mg base ("are_numbers", none) ["obj", "order"] 3 R_are_numbers :=
  def_ok (N := N_are_numbers) (k := 2) (ws := w_are_numbers) T.d_are_numbers sc_are_numbers len_are_numbers (fun f cdv A out s H E hg hr =>
  (dss_cons (ds_if (DW.dt (dw_or (dt_not (dt_val (de_bi (dc_isA T.kt) rfl T.f_isinstance (by decide +kernel) (da_cons (de_var 0) (da_cons (de_bty rfl T.f_dict (by decide +kernel)) da_nil))))) (dw_or (dt_cmp (do_eq hr.units) (de_bi dc_lenA rfl T.f_len (by decide +kernel) (da_cons (de_var 0) da_nil)) de_int (nomark _)) (dw_or1 (dt_not (dt_val (de_bi (dc_all rfl) rfl T.f_all (by decide +kernel) (da_cons (de_lc (own := [("key", 2)]) rfl sc_are_numbers.nd (di_keys (de_var 0)) (blkOk_by (own := [("key", 2)]) (N := N_are_numbers) (sc := defScope s_are_numbers) (by decide +kernel)) (fun _ _ _ _ _ => (dg_name (i := 2) sc_are_numbers.nd rfl (Or.inl rfl))) (fun _ _ _ _ _ => dts_nil) (fun _ _ _ _ _ => (de_call (ok_is_word T) hg (hr.mono (by decide)) rfl T.g_is_word (da_cons (de_var 2) da_nil)))) da_nil)))))))) (dss_one (ds_ret de_bl)) dss_nil)
  (dss_one (ds_ret (de_bi (dc_all rfl) rfl T.f_all (by decide +kernel) (da_cons (de_lc (own := [("key", 2)]) rfl sc_are_numbers.nd (di_keys (de_var 0)) (blkOk_by (own := [("key", 2)]) (N := N_are_numbers) (sc := defScope s_are_numbers) (by decide +kernel)) (fun _ _ _ _ _ => (dg_name (i := 2) sc_are_numbers.nd rfl (Or.inr rfl))) (fun _ _ _ _ _ => dts_nil) (fun _ _ _ _ _ => (de_call (ok_is_in_range T) hg (hr.mono (by decide)) rfl T.g_is_in_range (da_cons (de_ixA (hu_of hr) (de_var 0) (de_var 2) (fun _ _ => rfl)) (da_cons de_int (da_cons (de_bi dc_lenA rfl T.f_len (by decide +kernel) (da_cons (de_lc (own := [("word", 3)]) rfl sc_are_numbers.nd (di_seq (de_var 1)) (blkOk_by (own := [("word", 3)]) (by kernel_rfl)) (fun _ _ _ _ _ => (dg_name (i := 3) sc_are_numbers.nd rfl (Or.inl rfl))) (fun _ _ _ _ _ => (dts_one (dt_cmp (do_eq hr.units) (de_var 3) (de_var 2) (nomark _)))) (fun _ _ _ _ _ => (de_var 3))) da_nil)) da_nil)))))) da_nil)))))) p_are_numbers
theorem sc_numbers_along : FnScope N_numbers_along ["order", "key"] (defScope s_numbers_along) := ⟨rfl, rfl, rfl, by decide +kernel, rfl, by decide +kernel, by decide +kernel⟩
theorem ok_numbers_along (T : Txt K mg) : DefOk P w K mg base ("numbers_along", none) ["order", "key"] 1 R_numbers_along :=
  def_ok (N := N_numbers_along) (k := 0) (ws := w_numbers_along) T.d_numbers_along sc_numbers_along len_numbers_along (fun f cdv A out s H E hg hr =>
  (dss_cons (ds_set (i := 2) sc_numbers_along.nd rfl (Or.inl rfl) (de_lstO (da_cons de_int da_nil)))
  (dss_cons (ds_for (passes_of rfl) rfl (di_seq (de_var 0)) (dg_name (i := 3) sc_numbers_along.nd rfl (Or.inl rfl)) (dss_one (ds_expr (de_append (de_var 2) (de_op do_add (de_ixA (hu_of hr) (de_var 2) (de_neg de_int) (fun _ _ => rfl)) (de_bt dc_int1 rfl T.f_int (by decide +kernel) (da_cons (de_cmp (do_eq hr.units) (de_var 3) (de_var 1) (nomark _)) da_nil)))))))
  (dss_one (ds_ret (de_fix (de_var 2))))))) p_numbers_along
theorem sc_Cut_gap : FnScope N_Cut_gap ["self", "moment"] (defScope s_Cut_gap) := ⟨rfl, rfl, rfl, by decide +kernel, rfl, by decide +kernel, by decide +kernel⟩
theorem ok_Cut_gap (T : Txt K mg) : DefOk P w K mg base ("Cut", some "gap") ["self", "moment"] 1 R_Cut_gap :=
  def_ok (N := N_Cut_gap) (k := 0) (ws := w_Cut_gap) T.d_Cut_gap sc_Cut_gap len_Cut_gap (fun f cdv A out s H E hg hr =>
  (dss_one (ds_ret (de_bi (dc_maxL rfl) rfl T.f_max (by decide +kernel) (da_cons (de_lc (own := [("key", 2)]) rfl sc_Cut_gap.nd (di_keys (de_fld T.k_Cut.cls (T.k_Cut.fld "own_numbers" (by decide)) (de_var 0))) (blkOk_by (own := [("key", 2)]) (N := N_Cut_gap) (sc := defScope s_Cut_gap) (by decide +kernel)) (fun _ _ _ _ _ => (dg_name (i := 2) sc_Cut_gap.nd rfl (Or.inl rfl))) (fun _ _ _ _ _ => dts_nil) (fun _ _ _ _ _ => (de_bi dc_abs rfl T.f_abs (by decide +kernel) (da_cons (de_op do_subI (de_ixA (hu_of hr) (de_fld T.k_Cut.cls (T.k_Cut.fld "own_numbers" (by decide)) (de_var 0)) (de_var 2) (fun _ _ => rfl)) (de_ixA (hu_of hr) (de_ixA (hu_of hr) (de_fld T.k_Cut.cls (T.k_Cut.fld "tracks" (by decide)) (de_var 0)) (de_var 2) (fun _ _ => rfl)) (de_var 1) (fun _ _ => rfl))) da_nil)))) da_nil))))) p_Cut_gap
theorem sc_Cut___init__ : FnScope N_Cut___init__ ["self", "order", "numbers"] (defScope s_Cut___init__) := ⟨rfl, rfl, rfl, by decide +kernel, rfl, by decide +kernel, by decide +kernel⟩
theorem ok_Cut___init__ (T : Txt K mg) : DefOk P w K mg base ("Cut", some "__init__") ["self", "order", "numbers"] 4 R_Cut___init__ :=
  def_ok (N := N_Cut___init__) (k := 3) (ws := w_Cut___init__) T.d_Cut___init__ sc_Cut___init__ len_Cut___init__ (fun f cdv A out s H E hg hr =>
  (dss_cons (ds_expr (de_call (ok_check_order T) hg (hr.mono (by decide)) rfl T.g_check_order (da_cons (de_var 1) da_nil)))
  (dss_cons (ds_if (dt_not (dt_val (de_call (ok_are_numbers T) hg (hr.mono (by decide)) rfl T.g_are_numbers (da_cons (de_var 2) (da_cons (de_var 1) da_nil))))) (dss_one ds_never) dss_nil)
  (dss_cons (ds_fld T.k_Cut.cls (T.k_Cut.fld "own_order" (by decide)) (de_var 0) (de_bt dc_tupleOf rfl T.f_tuple (by decide +kernel) (da_cons (de_var 1) da_nil)))
  (dss_cons (ds_fld T.k_Cut.cls (T.k_Cut.fld "own_numbers" (by decide)) (de_var 0) (de_fix (de_bt (dc_dictOf rfl) rfl T.f_dict (by decide +kernel) (da_cons (de_var 2) da_nil))))
  (dss_cons (ds_fld T.k_Cut.cls (T.k_Cut.fld "tracks" (by decide)) (de_var 0) (de_fix (de_dc (own := [("key", 3)]) rfl sc_Cut___init__.nd (di_keys (de_var 2)) (blkOk_by (own := [("key", 3)]) (N := N_Cut___init__) (sc := defScope s_Cut___init__) (by decide +kernel)) (fun _ _ _ _ _ => (dg_name (i := 3) sc_Cut___init__.nd rfl (Or.inl rfl))) (fun _ _ _ _ _ => dts_nil) (fun _ _ _ _ _ => (de_var 3)) (fun _ _ _ _ _ => (de_call (ok_numbers_along T) hg (hr.mono (by decide)) rfl T.g_numbers_along (da_cons (de_var 1) (da_cons (de_var 3) da_nil)))))))
  (dss_cons (ds_fld T.k_Cut.cls (T.k_Cut.fld "gaps" (by decide)) (de_var 0) (de_lc (own := [("moment", 4)]) rfl sc_Cut___init__.nd (di_range1 rfl T.f_range (da_cons (de_op do_add (de_bi dc_lenA rfl T.f_len (by decide +kernel) (da_cons (de_var 1) da_nil)) de_int) da_nil)) (blkOk_by (own := [("moment", 4)]) (N := N_Cut___init__) (sc := defScope s_Cut___init__) (by decide +kernel)) (fun _ _ _ _ _ => (dg_name (i := 4) sc_Cut___init__.nd rfl (Or.inl rfl))) (fun _ _ _ _ _ => dts_nil) (fun _ _ _ _ _ => (de_meth T.k_Cut.cls (T.k_Cut.mth "gap" (by decide)) (ok_Cut_gap T) hg (hr.mono (by decide)) (de_var 0) (da_cons (de_var 4) da_nil)))))
  (dss_cons (ds_fld T.k_Cut.cls (T.k_Cut.fld "own_spread" (by decide)) (de_var 0) (de_bi (dc_minL rfl) rfl T.f_min (by decide +kernel) (da_cons (de_fld T.k_Cut.cls (T.k_Cut.fld "gaps" (by decide)) (de_var 0)) da_nil)))
  (dss_one (ds_fld T.k_Cut.cls (T.k_Cut.fld "own_nearest" (by decide)) (de_var 0) (de_ixA (hu_of hr) (de_lc (own := [("moment", 4), ("gap", 5)]) rfl sc_Cut___init__.nd (di_enum rfl T.f_enumerate (da_cons (de_fld T.k_Cut.cls (T.k_Cut.fld "gaps" (by decide)) (de_var 0)) da_nil)) (blkOk_by (own := [("moment", 4), ("gap", 5)]) (N := N_Cut___init__) (sc := defScope s_Cut___init__) (by decide +kernel)) (fun _ _ _ _ _ => (dg_tup rfl (dgs_cons (dg_name (i := 4) sc_Cut___init__.nd rfl (Or.inl rfl)) (dgs_cons (dg_name (i := 5) sc_Cut___init__.nd rfl (Or.inl rfl)) dgs_nil)))) (fun _ _ _ _ _ => (dts_one (dt_cmp (do_eq hr.units) (de_var 5) (de_fld T.k_Cut.cls (T.k_Cut.fld "own_spread" (by decide)) (de_var 0)) (nomark _)))) (fun _ _ _ _ _ => (de_var 4))) de_int (fun _ _ => rfl)))))))))))) p_Cut___init__
theorem sc_Cut_numbers : FnScope N_Cut_numbers ["self"] (defScope s_Cut_numbers) := ⟨rfl, rfl, rfl, by decide +kernel, rfl, by decide +kernel, by decide +kernel⟩
theorem ok_Cut_numbers (T : Txt K mg) : DefOk P w K mg base ("Cut", some "numbers") ["self"] 1 R_Cut_numbers :=
  def_ok (N := N_Cut_numbers) (k := 0) (ws := w_Cut_numbers) T.d_Cut_numbers sc_Cut_numbers len_Cut_numbers (fun f cdv A out s H E hg hr =>
  (dss_one (ds_ret (de_fix (de_bt (dc_dictOf rfl) rfl T.f_dict (by decide +kernel) (da_cons (de_fld T.k_Cut.cls (T.k_Cut.fld "own_numbers" (by decide)) (de_var 0)) da_nil)))))) p_Cut_numbers
theorem sc_Cut_spread : FnScope N_Cut_spread ["self"] (defScope s_Cut_spread) := ⟨rfl, rfl, rfl, by decide +kernel, rfl, by decide +kernel, by decide +kernel⟩
theorem ok_Cut_spread (T : Txt K mg) : DefOk P w K mg base ("Cut", some "spread") ["self"] 1 R_Cut_spread :=
  def_ok (N := N_Cut_spread) (k := 0) (ws := w_Cut_spread) T.d_Cut_spread sc_Cut_spread len_Cut_spread (fun f cdv A out s H E hg hr =>
  (dss_one (ds_ret (de_fld T.k_Cut.cls (T.k_Cut.fld "own_spread" (by decide)) (de_var 0))))) p_Cut_spread
theorem sc_Cut_nearest : FnScope N_Cut_nearest ["self"] (defScope s_Cut_nearest) := ⟨rfl, rfl, rfl, by decide +kernel, rfl, by decide +kernel, by decide +kernel⟩
theorem ok_Cut_nearest (T : Txt K mg) : DefOk P w K mg base ("Cut", some "nearest") ["self"] 1 R_Cut_nearest :=
  def_ok (N := N_Cut_nearest) (k := 0) (ws := w_Cut_nearest) T.d_Cut_nearest sc_Cut_nearest len_Cut_nearest (fun f cdv A out s H E hg hr =>
  (dss_one (ds_ret (de_fld T.k_Cut.cls (T.k_Cut.fld "own_nearest" (by decide)) (de_var 0))))) p_Cut_nearest
theorem sc_Cut_seen : FnScope N_Cut_seen ["self"] (defScope s_Cut_seen) := ⟨rfl, rfl, rfl, by decide +kernel, rfl, by decide +kernel, by decide +kernel⟩
theorem ok_Cut_seen (T : Txt K mg) : DefOk P w K mg base ("Cut", some "seen") ["self"] 1 R_Cut_seen :=
  def_ok (N := N_Cut_seen) (k := 0) (ws := w_Cut_seen) T.d_Cut_seen sc_Cut_seen len_Cut_seen (fun f cdv A out s H E hg hr =>
  (dss_cons (ds_setLc (i := 1) (own := [("moment", 3), ("gap", 2)]) rfl sc_Cut_seen.nd rfl rfl (sw_true rfl rfl rfl (by decide +kernel)) (di_enum rfl T.f_enumerate (da_cons (de_fld T.k_Cut.cls (T.k_Cut.fld "gaps" (by decide)) (de_var 0)) da_nil)) (blkOk_by (own := [("moment", 3), ("gap", 2)]) (N := N_Cut_seen) (sc := defScope s_Cut_seen) (by decide +kernel)) (fun _ _ _ _ _ => (dg_tup rfl (dgs_cons (dg_name (i := 3) sc_Cut_seen.nd rfl (Or.inl rfl)) (dgs_cons (dg_name (i := 2) sc_Cut_seen.nd rfl (Or.inl rfl)) dgs_nil)))) (fun _ _ _ _ _ => (dts_one (dt_cmp (do_eq hr.units) (de_var 2) de_int (nomark _)))) (fun _ _ _ _ _ => (de_var 3)))
  (dss_one (ds_ret (de_if (dt_cmp (do_ne hr.units) (de_var 1) (de_lst da_nil) (nomark _)) (de_tup (da_cons (de_ixA (hu_of hr) (de_var 1) de_int (fun _ _ => rfl)) (da_cons (de_ixA (hu_of hr) (de_var 1) (de_neg de_int) (fun _ _ => rfl)) da_nil))) de_non))))) p_Cut_seen
theorem sc_Cut_window : FnScope N_Cut_window ["self", "key", "slack"] (defScope s_Cut_window) := ⟨rfl, rfl, rfl, by decide +kernel, rfl, by decide +kernel, by decide +kernel⟩
theorem ok_Cut_window (T : Txt K mg) : DefOk P w K mg base ("Cut", some "window") ["self", "key", "slack"] 1 R_Cut_window :=
  def_ok (N := N_Cut_window) (k := 0) (ws := w_Cut_window) T.d_Cut_window sc_Cut_window len_Cut_window (fun f cdv A out s H E hg hr =>
  (dss_cons (ds_parN rfl (da_cons (de_ixA (hu_of hr) (de_fld T.k_Cut.cls (T.k_Cut.fld "tracks" (by decide)) (de_var 0)) (de_var 1) (fun _ _ => rfl)) (da_cons (de_ixA (hu_of hr) (de_fld T.k_Cut.cls (T.k_Cut.fld "own_numbers" (by decide)) (de_var 0)) (de_var 1) (fun _ _ => rfl)) da_nil)) (PNames.cons (pg_name (i := 3) sc_Cut_window.nd rfl (Or.inl rfl)) (PNames.cons (pg_name (i := 4) sc_Cut_window.nd rfl (Or.inr rfl)) PNames.nil rfl) rfl))
  (dss_cons (ds_setLc (i := 5) (own := [("moment", 6), ("other", 7)]) rfl sc_Cut_window.nd rfl rfl (sw_true rfl rfl rfl (by decide +kernel)) (di_enum rfl T.f_enumerate (da_cons (de_var 3) da_nil)) (blkOk_by (own := [("moment", 6), ("other", 7)]) (N := N_Cut_window) (sc := defScope s_Cut_window) (by decide +kernel)) (fun _ _ _ _ _ => (dg_tup rfl (dgs_cons (dg_name (i := 6) sc_Cut_window.nd rfl (Or.inl rfl)) (dgs_cons (dg_name (i := 7) sc_Cut_window.nd rfl (Or.inl rfl)) dgs_nil)))) (fun _ _ _ _ _ => (dts_one (dt_cmp do_le (de_bi dc_abs rfl T.f_abs (by decide +kernel) (da_cons (de_op do_subI (de_var 4) (de_var 7)) da_nil)) (de_var 2) (nomark _)))) (fun _ _ _ _ _ => (de_var 6)))
  (dss_one (ds_ret (de_tup (da_cons (de_ixA (hu_of hr) (de_var 5) de_int (fun _ _ => rfl)) (da_cons (de_ixA (hu_of hr) (de_var 5) (de_neg de_int) (fun _ _ => rfl)) da_nil)))))))) p_Cut_window
theorem sc_Cut_are_apart : FnScope N_Cut_are_apart ["self", "one", "other", "slack"] (defScope s_Cut_are_apart) := ⟨rfl, rfl, rfl, by decide +kernel, rfl, by decide +kernel, by decide +kernel⟩
theorem ok_Cut_are_apart (T : Txt K mg) : DefOk P w K mg base ("Cut", some "are_apart") ["self", "one", "other", "slack"] 2 R_Cut_are_apart :=
  def_ok (N := N_Cut_are_apart) (k := 1) (ws := w_Cut_are_apart) T.d_Cut_are_apart sc_Cut_are_apart len_Cut_are_apart (fun f cdv A out s H E hg hr =>
  (dss_cons (ds_par (i := 4) (j := 5) rfl sc_Cut_are_apart.nd rfl rfl (by decide) rfl rfl (da_cons (de_meth T.k_Cut.cls (T.k_Cut.mth "window" (by decide)) (ok_Cut_window T) hg (hr.mono (by decide)) (de_var 0) (da_cons (de_var 1) (da_cons (de_var 3) da_nil))) (da_cons (de_meth T.k_Cut.cls (T.k_Cut.mth "window" (by decide)) (ok_Cut_window T) hg (hr.mono (by decide)) (de_var 0) (da_cons (de_var 2) (da_cons (de_var 3) da_nil))) da_nil)))
  (dss_one (ds_ret (de_or (de_cmp do_lt (de_ixA (hu_of hr) (de_var 4) de_int (fun _ _ => rfl)) (de_ixA (hu_of hr) (de_var 5) de_int (fun _ _ => rfl)) (nomark _)) (de_one (de_cmp do_lt (de_ixA (hu_of hr) (de_var 5) de_int (fun _ _ => rfl)) (de_ixA (hu_of hr) (de_var 4) de_int (fun _ _ => rfl)) (nomark _)))))))) p_Cut_are_apart
theorem sc_check_like : FnScope N_check_like ["cut", "obj"] (defScope s_check_like) := ⟨rfl, rfl, rfl, by decide +kernel, rfl, by decide +kernel, by decide +kernel⟩
theorem ok_check_like (T : Txt K mg) : DefOk P w K mg base ("check_like", none) ["cut", "obj"] 1 R_check_like :=
  def_ok (N := N_check_like) (k := 0) (ws := w_check_like) T.d_check_like sc_check_like len_check_like (fun f cdv A out s H E hg hr =>
  (dss_cons (ds_if (DW.dt (dw_or (dt_not (dt_val (de_bi (dc_isA T.kt) rfl T.f_isinstance (by decide +kernel) (da_cons (de_var 1) (da_cons (de_globR rfl T.g_Cut) da_nil))))) (dw_or1 (dt_cmp (do_ne hr.units) (de_fld T.k_Cut.cls (T.k_Cut.fld "own_order" (by decide)) (de_var 1)) (de_fld T.k_Cut.cls (T.k_Cut.fld "own_order" (by decide)) (de_var 0)) (nomark _))))) (dss_one ds_never) dss_nil)
  (dss_one (ds_if (dt_cmp (do_ne hr.units) (de_bi (dc_sortDS rfl) rfl T.f_sorted (by decide +kernel) (da_cons (de_fld T.k_Cut.cls (T.k_Cut.fld "own_numbers" (by decide)) (de_var 1)) da_nil)) (de_bi (dc_sortDS rfl) rfl T.f_sorted (by decide +kernel) (da_cons (de_fld T.k_Cut.cls (T.k_Cut.fld "own_numbers" (by decide)) (de_var 0)) da_nil)) (nomark _)) (dss_one ds_never) dss_nil)))) p_check_like
theorem sc_Cut___or__ : FnScope N_Cut___or__ ["self", "other"] (defScope s_Cut___or__) := ⟨rfl, rfl, rfl, by decide +kernel, rfl, by decide +kernel, by decide +kernel⟩
theorem ok_Cut___or__ (T : Txt K mg) : DefOk P w K mg base ("Cut", some "__or__") ["self", "other"] 6 R_Cut___or__ :=
  def_ok (N := N_Cut___or__) (k := 5) (ws := w_Cut___or__) T.d_Cut___or__ sc_Cut___or__ len_Cut___or__ (fun f cdv A out s H E hg hr =>
  (dss_cons (ds_expr (de_call (ok_check_like T) hg (hr.mono (by decide)) rfl T.g_check_like (da_cons (de_var 0) (da_cons (de_var 1) da_nil))))
  (dss_one (ds_ret (de_fix (de_make (T.k_Cut.mkr rfl) (ok_Cut___init__ T) hg (hr.mono (by decide)) rfl T.g_Cut (da_cons (de_fld T.k_Cut.cls (T.k_Cut.fld "own_order" (by decide)) (de_var 0)) (da_cons (de_fix (de_dc (own := [("key", 2)]) rfl sc_Cut___or__.nd (di_keys (de_fld T.k_Cut.cls (T.k_Cut.fld "tracks" (by decide)) (de_var 0))) (blkOk_by (own := [("key", 2)]) (N := N_Cut___or__) (sc := defScope s_Cut___or__) (by decide +kernel)) (fun _ _ _ _ _ => (dg_name (i := 2) sc_Cut___or__.nd rfl (Or.inl rfl))) (fun _ _ _ _ _ => dts_nil) (fun _ _ _ _ _ => (de_var 2)) (fun _ _ _ _ _ => (de_bi (dc_max2 rfl) rfl T.f_max (by decide +kernel) (da_cons (de_ixA (hu_of hr) (de_fld T.k_Cut.cls (T.k_Cut.fld "own_numbers" (by decide)) (de_var 0)) (de_var 2) (fun _ _ => rfl)) (da_cons (de_ixA (hu_of hr) (de_fld T.k_Cut.cls (T.k_Cut.fld "own_numbers" (by decide)) (de_var 1)) (de_var 2) (fun _ _ => rfl)) da_nil)))))) da_nil)))))))) p_Cut___or__
theorem sc_Cut___and__ : FnScope N_Cut___and__ ["self", "other"] (defScope s_Cut___and__) := ⟨rfl, rfl, rfl, by decide +kernel, rfl, by decide +kernel, by decide +kernel⟩
theorem ok_Cut___and__ (T : Txt K mg) : DefOk P w K mg base ("Cut", some "__and__") ["self", "other"] 6 R_Cut___and__ :=
  def_ok (N := N_Cut___and__) (k := 5) (ws := w_Cut___and__) T.d_Cut___and__ sc_Cut___and__ len_Cut___and__ (fun f cdv A out s H E hg hr =>
  (dss_cons (ds_expr (de_call (ok_check_like T) hg (hr.mono (by decide)) rfl T.g_check_like (da_cons (de_var 0) (da_cons (de_var 1) da_nil))))
  (dss_one (ds_ret (de_fix (de_make (T.k_Cut.mkr rfl) (ok_Cut___init__ T) hg (hr.mono (by decide)) rfl T.g_Cut (da_cons (de_fld T.k_Cut.cls (T.k_Cut.fld "own_order" (by decide)) (de_var 0)) (da_cons (de_fix (de_dc (own := [("key", 2)]) rfl sc_Cut___and__.nd (di_keys (de_fld T.k_Cut.cls (T.k_Cut.fld "tracks" (by decide)) (de_var 0))) (blkOk_by (own := [("key", 2)]) (N := N_Cut___and__) (sc := defScope s_Cut___and__) (by decide +kernel)) (fun _ _ _ _ _ => (dg_name (i := 2) sc_Cut___and__.nd rfl (Or.inl rfl))) (fun _ _ _ _ _ => dts_nil) (fun _ _ _ _ _ => (de_var 2)) (fun _ _ _ _ _ => (de_bi (dc_min2 rfl) rfl T.f_min (by decide +kernel) (da_cons (de_ixA (hu_of hr) (de_fld T.k_Cut.cls (T.k_Cut.fld "own_numbers" (by decide)) (de_var 0)) (de_var 2) (fun _ _ => rfl)) (da_cons (de_ixA (hu_of hr) (de_fld T.k_Cut.cls (T.k_Cut.fld "own_numbers" (by decide)) (de_var 1)) (de_var 2) (fun _ _ => rfl)) da_nil)))))) da_nil)))))))) p_Cut___and__
theorem sc_find_bar : FnScope N_find_bar ["cut"] (defScope s_find_bar) := ⟨rfl, rfl, rfl, by decide +kernel, rfl, by decide +kernel, by decide +kernel⟩
theorem ok_find_bar (T : Txt K mg) : DefOk P w K mg base ("find_bar", none) ["cut"] 3 R_find_bar :=
  def_ok (N := N_find_bar) (k := 2) (ws := w_find_bar) T.d_find_bar sc_find_bar len_find_bar (fun f cdv A out s H E hg hr =>
  (dss_cons (ds_if (dt_cmp (do_eq hr.units) (de_prop T.k_Cut.cls (T.k_Cut.prp "spread" (by decide)) (ok_Cut_spread T) rfl hg (hr.mono (by decide)) (de_var 0)) de_int (nomark _)) (dss_one (ds_ret de_non)) dss_nil)
  (dss_cons (ds_set (i := 1) sc_find_bar.nd rfl (Or.inr rfl) (de_bi (dc_sortDS rfl) rfl T.f_sorted (by decide +kernel) (da_cons (de_fld T.k_Cut.cls (T.k_Cut.fld "tracks" (by decide)) (de_var 0)) da_nil)))
  (dss_cons (ds_setLc2 (i := 2) (own := [("one", 3), ("other", 4)]) (vs1 := [4]) rfl sc_find_bar.nd rfl rfl (sw_true rfl rfl rfl (by decide +kernel)) (di_seq (de_var 1)) (blkOk_by (own := [("one", 3), ("other", 4)]) (N := N_find_bar) (sc := defScope s_find_bar) (by decide +kernel)) (fun _ _ _ _ _ => (dg_name (i := 3) sc_find_bar.nd rfl (Or.inl rfl))) (fun _ _ _ _ _ => dts_nil) (fun _ _ _ _ _ => (di_seq (de_var 1))) (fun _ _ _ _ _ => (dg_name (i := 4) sc_find_bar.nd rfl (Or.inl rfl))) (fun _ _ _ _ _ => (dts_one (dt_cmp do_lt (de_var 3) (de_var 4) (nomark _)))) (fun _ _ _ _ _ => (de_tup (da_cons (de_var 3) (da_cons (de_var 4) da_nil)))))
  (dss_one (ds_ret (de_ixA (hu_of hr) (de_lc (own := [("pair", 5)]) rfl sc_find_bar.nd (di_seq (de_var 2)) (blkOk_by (own := [("pair", 5)]) (N := N_find_bar) (sc := defScope s_find_bar) (by decide +kernel)) (fun _ _ _ _ _ => (dg_name (i := 5) sc_find_bar.nd rfl (Or.inl rfl))) (fun _ _ _ _ _ => (dts_one (dt_val (de_meth T.k_Cut.cls (T.k_Cut.mth "are_apart" (by decide)) (ok_Cut_are_apart T) hg (hr.mono (by decide)) (de_var 0) (da_cons (de_ixA (hu_of hr) (de_var 5) de_int (fun _ _ => rfl)) (da_cons (de_ixA (hu_of hr) (de_var 5) de_int (fun _ _ => rfl)) (da_cons (de_op do_subI (de_prop T.k_Cut.cls (T.k_Cut.prp "spread" (by decide)) (ok_Cut_spread T) rfl hg (hr.mono (by decide)) (de_var 0)) de_int) da_nil))))))) (fun _ _ _ _ _ => (de_var 5))) de_int (fun _ _ => rfl)))))))) p_find_bar
theorem sc_check_bar : FnScope N_check_bar ["cut", "obj"] (defScope s_check_bar) := ⟨rfl, rfl, rfl, by decide +kernel, rfl, by decide +kernel, by decide +kernel⟩
theorem ok_check_bar (T : Txt K mg) : DefOk P w K mg base ("check_bar", none) ["cut", "obj"] 3 R_check_bar :=
  def_ok (N := N_check_bar) (k := 2) (ws := w_check_bar) T.d_check_bar sc_check_bar len_check_bar (fun f cdv A out s H E hg hr =>
  (dss_cons (ds_if (dt_cmp (do_eq hr.units) (de_prop T.k_Cut.cls (T.k_Cut.prp "spread" (by decide)) (ok_Cut_spread T) rfl hg (hr.mono (by decide)) (de_var 0)) de_int (nomark _)) (dss_one (ds_ret (de_cmp do_isN (de_var 1) de_non (nomark _)))) dss_nil)
  (dss_cons (ds_if (DW.dt (dw_or (dt_not (dt_val (de_bi (dc_isA T.kt) rfl T.f_isinstance (by decide +kernel) (da_cons (de_var 1) (da_cons (de_bty rfl T.f_tuple (by decide +kernel)) da_nil))))) (dw_or (dt_cmp (do_ne hr.units) (de_bi dc_lenA rfl T.f_len (by decide +kernel) (da_cons (de_var 1) da_nil)) de_int (nomark _)) (dw_or1 (dt_not (dt_val (de_bi (dc_all rfl) rfl T.f_all (by decide +kernel) (da_cons (de_lc (own := [("key", 2)]) rfl sc_check_bar.nd (di_seq (de_var 1)) (blkOk_by (own := [("key", 2)]) (N := N_check_bar) (sc := defScope s_check_bar) (by decide +kernel)) (fun _ _ _ _ _ => (dg_name (i := 2) sc_check_bar.nd rfl (Or.inl rfl))) (fun _ _ _ _ _ => dts_nil) (fun _ _ _ _ _ => (de_and (de_call (ok_is_word T) hg (hr.mono (by decide)) rfl T.g_is_word (da_cons (de_var 2) da_nil)) (de_one (de_cmp (do_inA (hu_of hr)) (de_var 2) (de_fld T.k_Cut.cls (T.k_Cut.fld "tracks" (by decide)) (de_var 0)) rfl))))) da_nil)))))))) (dss_one (ds_ret de_bl)) dss_nil)
  (dss_one (ds_ret (de_meth T.k_Cut.cls (T.k_Cut.mth "are_apart" (by decide)) (ok_Cut_are_apart T) hg (hr.mono (by decide)) (de_var 0) (da_cons (de_ixA (hu_of hr) (de_var 1) de_int (fun _ _ => rfl)) (da_cons (de_ixA (hu_of hr) (de_var 1) de_int (fun _ _ => rfl)) (da_cons (de_op do_subI (de_prop T.k_Cut.cls (T.k_Cut.prp "spread" (by decide)) (ok_Cut_spread T) rfl hg (hr.mono (by decide)) (de_var 0)) de_int) da_nil))))))))) p_check_bar
theorem sc__law_source : FnScope N__law_source ["_law_script", "_law_turn"] (defScope s__law_source) := ⟨rfl, rfl, rfl, by decide +kernel, rfl, by decide +kernel, by decide +kernel⟩
theorem ok__law_source (T : Txt K mg) : DefOk P w K mg base ("_law_source", none) ["_law_script", "_law_turn"] 1 R__law_source :=
  def_ok (N := N__law_source) (k := 0) (ws := w__law_source) T.d__law_source sc__law_source len__law_source (fun f cdv A out s H E hg hr =>
  (dss_cons (ds_set (i := 2) sc__law_source.nd rfl (Or.inl rfl) de_int)
  (dss_cons (ds_if (dt_cmp do_lt (de_var 1) (de_bi dc_lenA rfl T.f_len (by decide +kernel) (da_cons (de_var 0) da_nil)) (nomark _)) (dss_one (ds_set (i := 2) sc__law_source.nd rfl (Or.inl rfl) (de_ixA (hu_of hr) (de_var 0) (de_var 1) (fun _ _ => rfl)))) dss_nil)
  (dss_cons (ds_set (i := 3) sc__law_source.nd rfl (Or.inl rfl) (de_bi (dc_max2 rfl) rfl T.f_max (by decide +kernel) (da_cons (de_var 2) (da_cons (de_op do_subI (de_neg de_int) (de_var 2)) da_nil))))
  (dss_cons (ds_set (i := 4) sc__law_source.nd rfl (Or.inl rfl) (de_op do_mod (de_op do_add (de_op do_add (de_op do_mulA (de_op do_mod (de_var 3) de_int) de_int) (de_op do_mulA de_int (de_var 1))) de_int) de_int))
  (dss_cons (ds_if (dt_cmp do_lt (de_var 3) (de_op do_pow de_int de_int) (nomark _)) (dss_one (ds_set (i := 3) sc__law_source.nd rfl (Or.inl rfl) de_int)) dss_nil)
  (dss_one (ds_ret (de_lstO (da_cons (de_var 3) (da_cons (de_var 4) da_nil))))))))))) p__law_source
theorem sc__law_draw : FnScope N__law_draw ["_law_source_here", "_law_amount"] (defScope s__law_draw) := ⟨rfl, rfl, rfl, by decide +kernel, rfl, by decide +kernel, by decide +kernel⟩
theorem ok__law_draw (T : Txt K mg) : DefOk P w K mg base ("_law_draw", none) ["_law_source_here", "_law_amount"] 1 R__law_draw :=
  def_ok (N := N__law_draw) (k := 0) (ws := w__law_draw) T.d__law_draw sc__law_draw len__law_draw (fun f cdv A out s H E hg hr =>
  (dss_cons (ds_if (dt_cmp do_gt (de_ixA (hu_of hr) (de_var 0) de_int (fun _ _ => rfl)) de_int (nomark _)) (dss_cons (ds_set (i := 2) sc__law_draw.nd rfl (Or.inl rfl) (de_op do_mod (de_ixA (hu_of hr) (de_var 0) de_int (fun _ _ => rfl)) (de_var 1)))
  (dss_cons (ds_asg (de_op do_fdivW (de_ixA (hu_of hr) (de_var 0) de_int (fun _ _ => rfl)) (de_var 1)) (dg_sub (hu_of hr) (de_var 0) de_int))
  (dss_one (ds_ret (de_var 2))))) dss_nil)
  (dss_cons (ds_asg (de_op do_mod (de_op do_add (de_op do_mulA (de_ixA (hu_of hr) (de_var 0) de_int (fun _ _ => rfl)) de_int) de_int) de_int) (dg_sub (hu_of hr) (de_var 0) de_int))
  (dss_one (ds_ret (de_op do_mod (de_op do_fdivW (de_op do_mod (de_op do_mulA (de_ixA (hu_of hr) (de_var 0) de_int (fun _ _ => rfl)) (de_ixA (hu_of hr) (de_var 0) de_int (fun _ _ => rfl))) de_int) de_int) (de_var 1))))))) p__law_draw
theorem sc__law_order : FnScope N__law_order ["_law_source_here", "_law_most"] (defScope s__law_order) := ⟨rfl, rfl, rfl, by decide +kernel, rfl, by decide +kernel, by decide +kernel⟩
theorem ok__law_order (T : Txt K mg) : DefOk P w K mg base ("_law_order", none) ["_law_source_here", "_law_most"] 2 R__law_order :=
  def_ok (N := N__law_order) (k := 1) (ws := w__law_order) T.d__law_order sc__law_order len__law_order (fun f cdv A out s H E hg hr =>
  (dss_cons (ds_set (i := 2) sc__law_order.nd rfl (Or.inr rfl) (de_slice (de_lst (da_cons de_str (da_cons de_str (da_cons de_str da_nil)))) dpo_none (dpo_some (de_op do_add de_int (de_call (ok__law_draw T) hg (hr.mono (by decide)) rfl T.g__law_draw (da_cons (de_var 0) (da_cons de_int da_nil)))))))
  (dss_one (ds_ret (de_lc (own := [("_law_attempt", 3)]) rfl sc__law_order.nd (di_range1 rfl T.f_range (da_cons (de_call (ok__law_draw T) hg (hr.mono (by decide)) rfl T.g__law_draw (da_cons (de_var 0) (da_cons (de_op do_add (de_var 1) de_int) da_nil))) da_nil)) (blkOk_by (own := [("_law_attempt", 3)]) (N := N__law_order) (sc := defScope s__law_order) (by decide +kernel)) (fun _ _ _ _ _ => (dg_name (i := 3) sc__law_order.nd rfl (Or.inl rfl))) (fun _ _ _ _ _ => dts_nil) (fun _ _ _ _ _ => (de_ixA (hu_of hr) (de_var 2) (de_call (ok__law_draw T) hg (hr.mono (by decide)) rfl T.g__law_draw (da_cons (de_var 0) (da_cons (de_bi dc_lenA rfl T.f_len (by decide +kernel) (da_cons (de_var 2) da_nil)) da_nil))) (fun _ _ => rfl)))))))) p__law_order
theorem sc__law_numbers : FnScope N__law_numbers ["_law_source_here", "_law_order_here"] (defScope s__law_numbers) := ⟨rfl, rfl, rfl, by decide +kernel, rfl, by decide +kernel, by decide +kernel⟩
theorem ok__law_numbers (T : Txt K mg) : DefOk P w K mg base ("_law_numbers", none) ["_law_source_here", "_law_order_here"] 2 R__law_numbers :=
  def_ok (N := N__law_numbers) (k := 1) (ws := w__law_numbers) T.d__law_numbers sc__law_numbers len__law_numbers (fun f cdv A out s H E hg hr =>
  (dss_cons (ds_setLc (i := 2) (own := [("_law_word", 4)]) rfl sc__law_numbers.nd rfl rfl (sw_true rfl rfl rfl (by decide +kernel)) (di_seq (de_lst (da_cons de_str (da_cons de_str (da_cons de_str (da_cons de_str da_nil)))))) (blkOk_by (own := [("_law_word", 4)]) (N := N__law_numbers) (sc := defScope s__law_numbers) (by decide +kernel)) (fun _ _ _ _ _ => (dg_name (i := 4) sc__law_numbers.nd rfl (Or.inl rfl))) (fun _ _ _ _ _ => (dts_one (dt_cmp do_gt (de_call (ok__law_draw T) hg (hr.mono (by decide)) rfl T.g__law_draw (da_cons (de_var 0) (da_cons de_int da_nil))) de_int (nomark _)))) (fun _ _ _ _ _ => (de_var 4)))
  (dss_cons (ds_set (i := 3) sc__law_numbers.nd rfl (Or.inl rfl) (de_if (dt_cmp (do_ne hr.units) (de_var 2) (de_lst da_nil) (nomark _)) (de_var 2) (de_lst (da_cons de_str da_nil))))
  (dss_one (ds_ret (de_fix (de_bt (dc_dictOf rfl) rfl T.f_dict (by decide +kernel) (da_cons (de_lc (own := [("_law_word", 4)]) rfl sc__law_numbers.nd (di_seq (de_var 3)) (blkOk_by (own := [("_law_word", 4)]) (N := N__law_numbers) (sc := defScope s__law_numbers) (by decide +kernel)) (fun _ _ _ _ _ => (dg_name (i := 4) sc__law_numbers.nd rfl (Or.inl rfl))) (fun _ _ _ _ _ => dts_nil) (fun _ _ _ _ _ => (de_tup (da_cons (de_var 4) (da_cons (de_call (ok__law_draw T) hg (hr.mono (by decide)) rfl T.g__law_draw (da_cons (de_var 0) (da_cons (de_op do_add (de_count (de_var 1) (de_var 4)) de_int) da_nil))) da_nil))))) da_nil)))))))) p__law_numbers
theorem sc__law_gap : FnScope N__law_gap ["_law_order_here", "_law_numbers_here", "_law_moment"] (defScope s__law_gap) := ⟨rfl, rfl, rfl, by decide +kernel, rfl, by decide +kernel, by decide +kernel⟩
theorem ok__law_gap (T : Txt K mg) : DefOk P w K mg base ("_law_gap", none) ["_law_order_here", "_law_numbers_here", "_law_moment"] 1 R__law_gap :=
  def_ok (N := N__law_gap) (k := 0) (ws := w__law_gap) T.d__law_gap sc__law_gap len__law_gap (fun f cdv A out s H E hg hr =>
  (dss_one (ds_ret (de_bi (dc_maxL rfl) rfl T.f_max (by decide +kernel) (da_cons (de_lc (own := [("_law_word", 3)]) rfl sc__law_gap.nd (di_keys (de_var 1)) (blkOk_by (own := [("_law_word", 3)]) (N := N__law_gap) (sc := defScope s__law_gap) (by decide +kernel)) (fun _ _ _ _ _ => (dg_name (i := 3) sc__law_gap.nd rfl (Or.inl rfl))) (fun _ _ _ _ _ => dts_nil) (fun _ _ _ _ _ => (de_bi dc_abs rfl T.f_abs (by decide +kernel) (da_cons (de_op do_subI (de_ixA (hu_of hr) (de_var 1) (de_var 3) (fun _ _ => rfl)) (de_count (de_slice (de_var 0) dpo_none (dpo_some (de_var 2))) (de_var 3))) da_nil)))) da_nil))))) p__law_gap
theorem sc__law_at : FnScope N__law_at ["_law_order_here", "_law_words", "_law_moment"] (defScope s__law_at) := ⟨rfl, rfl, rfl, by decide +kernel, rfl, by decide +kernel, by decide +kernel⟩
theorem ok__law_at (T : Txt K mg) : DefOk P w K mg base ("_law_at", none) ["_law_order_here", "_law_words", "_law_moment"] 1 R__law_at :=
  def_ok (N := N__law_at) (k := 0) (ws := w__law_at) T.d__law_at sc__law_at len__law_at (fun f cdv A out s H E hg hr =>
  (dss_one (ds_ret (de_fix (de_bt (dc_dictOf rfl) rfl T.f_dict (by decide +kernel) (da_cons (de_lc (own := [("_law_word", 3)]) rfl sc__law_at.nd (di_keys (de_var 1)) (blkOk_by (own := [("_law_word", 3)]) (N := N__law_at) (sc := defScope s__law_at) (by decide +kernel)) (fun _ _ _ _ _ => (dg_name (i := 3) sc__law_at.nd rfl (Or.inl rfl))) (fun _ _ _ _ _ => dts_nil) (fun _ _ _ _ _ => (de_tup (da_cons (de_var 3) (da_cons (de_count (de_slice (de_var 0) dpo_none (dpo_some (de_var 2))) (de_var 3)) da_nil))))) da_nil)))))) p__law_at
theorem sc__law_bars : FnScope N__law_bars ["_law_order_here", "_law_numbers_here", "_law_pair", "_law_slack"] (defScope s__law_bars) := ⟨rfl, rfl, rfl, by decide +kernel, rfl, by decide +kernel, by decide +kernel⟩
theorem ok__law_bars (T : Txt K mg) : DefOk P w K mg base ("_law_bars", none) ["_law_order_here", "_law_numbers_here", "_law_pair", "_law_slack"] 1 R__law_bars :=
  def_ok (N := N__law_bars) (k := 0) (ws := w__law_bars) T.d__law_bars sc__law_bars len__law_bars (fun f cdv A out s H E hg hr =>
  (dss_cons (ds_for (passes_of rfl) rfl (di_range1 rfl T.f_range (da_cons (de_op do_add (de_bi dc_lenA rfl T.f_len (by decide +kernel) (da_cons (de_var 0) da_nil)) de_int) da_nil)) (dg_name (i := 4) sc__law_bars.nd rfl (Or.inr rfl)) (dss_one (ds_if (dt_cmp do_le (de_bi (dc_maxL rfl) rfl T.f_max (by decide +kernel) (da_cons (de_lc (own := [("_law_word", 5)]) rfl sc__law_bars.nd (di_seq (de_var 2)) (blkOk_by (own := [("_law_word", 5)]) (N := N__law_bars) (sc := defScope s__law_bars) (by decide +kernel)) (fun _ _ _ _ _ => (dg_name (i := 5) sc__law_bars.nd rfl (Or.inl rfl))) (fun _ _ _ _ _ => dts_nil) (fun _ _ _ _ _ => (de_bi dc_abs rfl T.f_abs (by decide +kernel) (da_cons (de_op do_subI (de_ixA (hu_of hr) (de_var 1) (de_var 5) (fun _ _ => rfl)) (de_count (de_slice (de_var 0) dpo_none (dpo_some (de_var 4))) (de_var 5))) da_nil)))) da_nil)) (de_var 3) (nomark _)) (dss_one (ds_ret de_bl)) dss_nil)))
  (dss_one (ds_ret de_bl)))) p__law_bars
theorem sc__law_right : FnScope N__law_right ["_law_order_here", "_law_numbers_here"] (defScope s__law_right) := ⟨rfl, rfl, rfl, by decide +kernel, rfl, by decide +kernel, by decide +kernel⟩
theorem ok__law_right (T : Txt K mg) : DefOk P w K mg base ("_law_right", none) ["_law_order_here", "_law_numbers_here"] 6 R__law_right :=
  def_ok (N := N__law_right) (k := 5) (ws := w__law_right) T.d__law_right sc__law_right len__law_right (fun f cdv A out s H E hg hr =>
  (dss_cons (ds_set (i := 2) sc__law_right.nd rfl (Or.inl rfl) (de_fix (de_make (T.k_Cut.mkr rfl) (ok_Cut___init__ T) hg (hr.mono (by decide)) rfl T.g_Cut (da_cons (de_var 0) (da_cons (de_var 1) da_nil)))))
  (dss_cons (ds_set (i := 3) sc__law_right.nd rfl (Or.inr rfl) (de_lc (own := [("_law_moment", 10)]) rfl sc__law_right.nd (di_range1 rfl T.f_range (da_cons (de_op do_add (de_bi dc_lenA rfl T.f_len (by decide +kernel) (da_cons (de_var 0) da_nil)) de_int) da_nil)) (blkOk_by (own := [("_law_moment", 10)]) (N := N__law_right) (sc := defScope s__law_right) (by decide +kernel)) (fun _ _ _ _ _ => (dg_name (i := 10) sc__law_right.nd rfl (Or.inl rfl))) (fun _ _ _ _ _ => dts_nil) (fun _ _ _ _ _ => (de_call (ok__law_gap T) hg (hr.mono (by decide)) rfl T.g__law_gap (da_cons (de_var 0) (da_cons (de_var 1) (da_cons (de_var 10) da_nil)))))))
  (dss_cons (ds_set (i := 4) sc__law_right.nd rfl (Or.inl rfl) (de_bi (dc_minL rfl) rfl T.f_min (by decide +kernel) (da_cons (de_var 3) da_nil)))
  (dss_cons (ds_setLc (i := 5) (own := [("_law_moment", 10)]) rfl sc__law_right.nd rfl rfl (sw_true rfl rfl rfl (by decide +kernel)) (di_range1 rfl T.f_range (da_cons (de_bi dc_lenA rfl T.f_len (by decide +kernel) (da_cons (de_var 3) da_nil)) da_nil)) (blkOk_by (own := [("_law_moment", 10)]) (N := N__law_right) (sc := defScope s__law_right) (by decide +kernel)) (fun _ _ _ _ _ => (dg_name (i := 10) sc__law_right.nd rfl (Or.inl rfl))) (fun _ _ _ _ _ => (dts_one (dt_cmp (do_eq hr.units) (de_ixA (hu_of hr) (de_var 3) (de_var 10) (fun _ _ => rfl)) de_int (nomark _)))) (fun _ _ _ _ _ => (de_var 10)))
  (dss_cons (ds_set (i := 6) sc__law_right.nd rfl (Or.inl rfl) (de_if (dt_cmp (do_eq hr.units) (de_var 5) (de_lst da_nil) (nomark _)) de_non (de_tup (da_cons (de_ixA (hu_of hr) (de_var 5) de_int (fun _ _ => rfl)) (da_cons (de_ixA (hu_of hr) (de_var 5) (de_neg de_int) (fun _ _ => rfl)) da_nil)))))
  (dss_cons (ds_if (dt_cmp (do_ne hr.units) (de_lst (da_cons (de_prop T.k_Cut.cls (T.k_Cut.prp "spread" (by decide)) (ok_Cut_spread T) rfl hg (hr.mono (by decide)) (de_var 2)) (da_cons (de_prop T.k_Cut.cls (T.k_Cut.prp "nearest" (by decide)) (ok_Cut_nearest T) rfl hg (hr.mono (by decide)) (de_var 2)) (da_cons (de_prop T.k_Cut.cls (T.k_Cut.prp "seen" (by decide)) (ok_Cut_seen T) rfl hg (hr.mono (by decide)) (de_var 2)) da_nil)))) (de_lst (da_cons (de_var 4) (da_cons (de_index (de_var 3) (de_var 4)) (da_cons (de_var 6) da_nil)))) (nomark _)) (dss_one (ds_ret de_bl)) dss_nil)
  (dss_cons (ds_set (i := 7) sc__law_right.nd rfl (Or.inl rfl) (de_call (ok_find_bar T) hg (hr.mono (by decide)) rfl T.g_find_bar (da_cons (de_var 2) da_nil)))
  (dss_cons (ds_if (dt_cmp (do_eq hr.units) (de_var 4) de_int (nomark _)) (dss_one (ds_ret (de_and (de_cmp do_isN (de_var 7) de_non (nomark _)) (de_and (de_cmp do_isB (de_call (ok_check_bar T) hg (hr.mono (by decide)) rfl T.g_check_bar (da_cons (de_var 2) (da_cons de_non da_nil))) de_bl (nomark _)) (de_one (de_cmp do_isB (de_call (ok_check_bar T) hg (hr.mono (by decide)) rfl T.g_check_bar (da_cons (de_var 2) (da_cons (de_tup (da_cons de_str (da_cons de_str da_nil))) da_nil))) de_bl (nomark _))))))) dss_nil)
  (dss_cons (ds_if (DW.dt (dw_or (dt_not (dt_val (de_bi (dc_isA T.kt) rfl T.f_isinstance (by decide +kernel) (da_cons (de_var 7) (da_cons (de_bty rfl T.f_tuple (by decide +kernel)) da_nil))))) (dw_or (dt_cmp (do_ne hr.units) (de_bi dc_lenA rfl T.f_len (by decide +kernel) (da_cons (de_var 7) da_nil)) de_int (nomark _)) (dw_or1 (dt_not (dt_val (de_call (ok__law_bars T) hg (hr.mono (by decide)) rfl T.g__law_bars (da_cons (de_var 0) (da_cons (de_var 1) (da_cons (de_var 7) (da_cons (de_op do_subI (de_var 4) de_int) da_nil))))))))))) (dss_one (ds_ret de_bl)) dss_nil)
  (dss_cons (ds_if (DW.dt (dw_or (dt_val (de_call (ok_check_bar T) hg (hr.mono (by decide)) rfl T.g_check_bar (da_cons (de_var 2) (da_cons de_non da_nil)))) (dw_or1 (dt_cmp do_notB (de_call (ok_check_bar T) hg (hr.mono (by decide)) rfl T.g_check_bar (da_cons (de_var 2) (da_cons (de_var 7) da_nil))) de_bl (nomark _))))) (dss_one (ds_ret de_bl)) dss_nil)
  (dss_cons (ds_for (passes_of rfl) rfl (di_keys (de_var 1)) (dg_name (i := 8) sc__law_right.nd rfl (Or.inl rfl)) (dss_one (ds_for (passes_of rfl) rfl (di_keys (de_var 1)) (dg_name (i := 9) sc__law_right.nd rfl (Or.inl rfl)) (dss_cons (ds_if (dt_cmp (do_ne hr.units) (de_call (ok_check_bar T) hg (hr.mono (by decide)) rfl T.g_check_bar (da_cons (de_var 2) (da_cons (de_tup (da_cons (de_var 8) (da_cons (de_var 9) da_nil))) da_nil))) (de_and (de_cmp (do_ne hr.units) (de_var 8) (de_var 9) (nomark _)) (de_one (de_call (ok__law_bars T) hg (hr.mono (by decide)) rfl T.g__law_bars (da_cons (de_var 0) (da_cons (de_var 1) (da_cons (de_tup (da_cons (de_var 8) (da_cons (de_var 9) da_nil))) (da_cons (de_op do_subI (de_var 4) de_int) da_nil))))))) (nomark _)) (dss_one (ds_ret de_bl)) dss_nil)
  (dss_one (ds_if (dt_cmp do_gt (de_prop T.k_Cut.cls (T.k_Cut.prp "spread" (by decide)) (ok_Cut_spread T) rfl hg (hr.mono (by decide)) (de_fix (de_make (T.k_Cut.mkr rfl) (ok_Cut___init__ T) hg (hr.mono (by decide)) rfl T.g_Cut (da_cons (de_var 0) (da_cons (de_fix (de_disp (DPs.cons (de_var 8) (de_ixA (hu_of hr) (de_var 1) (de_var 8) (fun _ _ => rfl)) (DPs.cons (de_var 9) (de_ixA (hu_of hr) (de_var 1) (de_var 9) (fun _ _ => rfl)) DPs.nil)))) da_nil))))) (de_var 4) (nomark _)) (dss_one (ds_ret de_bl)) dss_nil))))))
  (dss_one (ds_ret de_bl)))))))))))))) p__law_right
theorem sc_law : FnScope N_law ["_law_script"] (defScope s_law) := ⟨rfl, rfl, rfl, by decide +kernel, rfl, by decide +kernel, by decide +kernel⟩
theorem ok_law (T : Txt K mg) {fx : Addr} {fdx : FuncData} (F : FunD K "law" "law" (defArgs s_law) (defBody s_law) (defScope s_law) [] [] fx fdx) : FnG P w K mg base (L2.CX P w) 8 fx fdx ["_law_script"] (spF K R_law) :=
  fn_okD (N := N_law) (k := 7) (ws := w_law) F sc_law len_law (fun cdv A out s H E hg hr =>
  (dss_cons (ds_for (passes_of rfl) rfl (di_range1 rfl T.f_range (da_cons (de_bi (dc_max2 rfl) rfl T.f_max (by decide +kernel) (da_cons de_int (da_cons (de_bi (dc_min2 rfl) rfl T.f_min (by decide +kernel) (da_cons (de_bi dc_lenA rfl T.f_len (by decide +kernel) (da_cons (de_var 0) da_nil)) (da_cons de_int da_nil))) da_nil))) da_nil)) (dg_name (i := 1) sc_law.nd rfl (Or.inl rfl)) (dss_cons (ds_set (i := 2) sc_law.nd rfl (Or.inr rfl) (de_call (ok__law_source T) hg (hr.mono (by decide)) rfl T.g__law_source (da_cons (de_var 0) (da_cons (de_var 1) da_nil))))
  (dss_one (ds_for (passes_of rfl) rfl (di_range1 rfl T.f_range (da_cons de_int da_nil)) (dg_name (i := 3) sc_law.nd rfl (Or.inl rfl)) (dss_cons (ds_set (i := 4) sc_law.nd rfl (Or.inr rfl) (de_call (ok__law_order T) hg (hr.mono (by decide)) rfl T.g__law_order (da_cons (de_var 2) (da_cons de_int da_nil))))
  (dss_cons (ds_set (i := 5) sc_law.nd rfl (Or.inl rfl) (de_call (ok__law_numbers T) hg (hr.mono (by decide)) rfl T.g__law_numbers (da_cons (de_var 2) (da_cons (de_var 4) da_nil))))
  (dss_cons (ds_setLc (i := 6) (own := [("_law_one", 13)]) rfl sc_law.nd rfl rfl (sw_true rfl rfl rfl (by decide +kernel)) (di_range1 rfl T.f_range (da_cons de_int da_nil)) (blkOk_by (own := [("_law_one", 13)]) (N := N_law) (sc := defScope s_law) (by decide +kernel)) (fun _ _ _ _ _ => (dg_name (i := 13) sc_law.nd rfl (Or.inl rfl))) (fun _ _ _ _ _ => dts_nil) (fun _ _ _ _ _ => (de_call (ok__law_draw T) hg (hr.mono (by decide)) rfl T.g__law_draw (da_cons (de_var 2) (da_cons (de_op do_add (de_bi dc_lenA rfl T.f_len (by decide +kernel) (da_cons (de_var 4) da_nil)) de_int) da_nil)))))
  (dss_cons (ds_parN rfl (da_cons (de_call (ok__law_at T) hg (hr.mono (by decide)) rfl T.g__law_at (da_cons (de_var 4) (da_cons (de_var 5) (da_cons (de_ixA (hu_of hr) (de_var 6) de_int (fun _ _ => rfl)) da_nil)))) (da_cons (de_call (ok__law_at T) hg (hr.mono (by decide)) rfl T.g__law_at (da_cons (de_var 4) (da_cons (de_var 5) (da_cons (de_ixA (hu_of hr) (de_var 6) de_int (fun _ _ => rfl)) da_nil)))) da_nil)) (PNames.cons (pg_name (i := 7) sc_law.nd rfl (Or.inr rfl)) (PNames.cons (pg_name (i := 8) sc_law.nd rfl (Or.inr rfl)) PNames.nil rfl) rfl))
  (dss_cons (ds_set (i := 9) sc_law.nd rfl (Or.inl rfl) (de_fix (de_bt (dc_dictOf rfl) rfl T.f_dict (by decide +kernel) (da_cons (de_lc (own := [("_law_word", 14)]) rfl sc_law.nd (di_keys (de_var 5)) (blkOk_by (own := [("_law_word", 14)]) (N := N_law) (sc := defScope s_law) (by decide +kernel)) (fun _ _ _ _ _ => (dg_name (i := 14) sc_law.nd rfl (Or.inl rfl))) (fun _ _ _ _ _ => dts_nil) (fun _ _ _ _ _ => (de_tup (da_cons (de_var 14) (da_cons (de_ixA (hu_of hr) (de_ixA (hu_of hr) (de_lst (da_cons (de_var 7) (da_cons (de_var 8) da_nil))) (de_call (ok__law_draw T) hg (hr.mono (by decide)) rfl T.g__law_draw (da_cons (de_var 2) (da_cons de_int da_nil))) (fun _ _ => rfl)) (de_var 14) (fun _ _ => rfl)) da_nil))))) da_nil))))
  (dss_cons (ds_for (passes_of rfl) rfl (di_seq (de_lst (da_cons (de_var 5) (da_cons (de_var 7) (da_cons (de_var 8) (da_cons (de_var 9) da_nil)))))) (dg_name (i := 10) sc_law.nd rfl (Or.inl rfl)) (dss_one (ds_if (dt_not (dt_val (de_call (ok__law_right T) hg (hr.mono (by decide)) rfl T.g__law_right (da_cons (de_var 4) (da_cons (de_var 10) da_nil))))) (dss_one (ds_ret de_bl)) dss_nil)))
  (dss_cons (ds_set (i := 11) sc_law.nd rfl (Or.inl rfl) (de_binK (T.k_Cut.opr (.BitOr, "__or__") (by simp [kl_Cut])) (ok_Cut___or__ T) hg (hr.mono (by decide)) (de_fix (de_make (T.k_Cut.mkr rfl) (ok_Cut___init__ T) hg (hr.mono (by decide)) rfl T.g_Cut (da_cons (de_var 4) (da_cons (de_var 7) da_nil)))) (de_fix (de_make (T.k_Cut.mkr rfl) (ok_Cut___init__ T) hg (hr.mono (by decide)) rfl T.g_Cut (da_cons (de_var 4) (da_cons (de_var 8) da_nil))))))
  (dss_cons (ds_set (i := 12) sc_law.nd rfl (Or.inl rfl) (de_binK (T.k_Cut.opr (.BitAnd, "__and__") (by simp [kl_Cut])) (ok_Cut___and__ T) hg (hr.mono (by decide)) (de_fix (de_make (T.k_Cut.mkr rfl) (ok_Cut___init__ T) hg (hr.mono (by decide)) rfl T.g_Cut (da_cons (de_var 4) (da_cons (de_var 7) da_nil)))) (de_fix (de_make (T.k_Cut.mkr rfl) (ok_Cut___init__ T) hg (hr.mono (by decide)) rfl T.g_Cut (da_cons (de_var 4) (da_cons (de_var 8) da_nil))))))
  (dss_cons (ds_if (dt_cmp (do_neA (room_u hr)) (de_prop T.k_Cut.cls (T.k_Cut.prp "numbers" (by decide)) (ok_Cut_numbers T) rfl hg (hr.mono (by decide)) (de_var 11)) (de_call (ok__law_at T) hg (hr.mono (by decide)) rfl T.g__law_at (da_cons (de_var 4) (da_cons (de_var 5) (da_cons (de_bi (dc_maxL rfl) rfl T.f_max (by decide +kernel) (da_cons (de_var 6) da_nil)) da_nil)))) (nomark _)) (dss_one (ds_ret de_bl)) dss_nil)
  (dss_cons (ds_if (dt_cmp (do_neA (room_u hr)) (de_prop T.k_Cut.cls (T.k_Cut.prp "numbers" (by decide)) (ok_Cut_numbers T) rfl hg (hr.mono (by decide)) (de_var 12)) (de_call (ok__law_at T) hg (hr.mono (by decide)) rfl T.g__law_at (da_cons (de_var 4) (da_cons (de_var 5) (da_cons (de_bi (dc_minL rfl) rfl T.f_min (by decide +kernel) (da_cons (de_var 6) da_nil)) da_nil)))) (nomark _)) (dss_one (ds_ret de_bl)) dss_nil)
  (dss_one (ds_if (DW.dt (dw_or (dt_cmp do_isN (de_prop T.k_Cut.cls (T.k_Cut.prp "seen" (by decide)) (ok_Cut_seen T) rfl hg (hr.mono (by decide)) (de_var 11)) de_non (nomark _)) (dw_or1 (dt_not (dt_chain2 do_le do_le (de_ixA (hu_of hr) (de_prop T.k_Cut.cls (T.k_Cut.prp "seen" (by decide)) (ok_Cut_seen T) rfl hg (hr.mono (by decide)) (de_var 11)) de_int (fun _ _ => rfl)) (de_bi (dc_maxL rfl) rfl T.f_max (by decide +kernel) (da_cons (de_var 6) da_nil)) (de_ixA (hu_of hr) (de_prop T.k_Cut.cls (T.k_Cut.prp "seen" (by decide)) (ok_Cut_seen T) rfl hg (hr.mono (by decide)) (de_var 11)) de_int (fun _ _ => rfl))))))) (dss_one (ds_ret de_bl)) dss_nil))))))))))))))))
  (dss_one (ds_ret de_bl)))) p_law
end
end K41
namespace K41
open PySem PySem.Spec PyProof.Rows L2 Sy
def dd_is_integer : He5.DefA := ⟨fun K => fA K ("is_integer", none), "is_integer", "is_integer", defArgs s_is_integer, defBody s_is_integer, defScope s_is_integer, [], []⟩
def dd_is_in_range : He5.DefA := ⟨fun K => fA K ("is_in_range", none), "is_in_range", "is_in_range", defArgs s_is_in_range, defBody s_is_in_range, defScope s_is_in_range, [], []⟩
def dd_is_word : He5.DefA := ⟨fun K => fA K ("is_word", none), "is_word", "is_word", defArgs s_is_word, defBody s_is_word, defScope s_is_word, [], []⟩
def dd_check_order : He5.DefA := ⟨fun K => fA K ("check_order", none), "check_order", "check_order", defArgs s_check_order, defBody s_check_order, defScope s_check_order, [], []⟩
def dd_are_numbers : He5.DefA := ⟨fun K => fA K ("are_numbers", none), "are_numbers", "are_numbers", defArgs s_are_numbers, defBody s_are_numbers, defScope s_are_numbers, [], []⟩
def dd_numbers_along : He5.DefA := ⟨fun K => fA K ("numbers_along", none), "numbers_along", "numbers_along", defArgs s_numbers_along, defBody s_numbers_along, defScope s_numbers_along, [], []⟩
def dd_Cut_gap : He5.DefA := ⟨fun K => fA K ("Cut", some "gap"), "gap", "Cut.gap", defArgs s_Cut_gap, defBody s_Cut_gap, defScope s_Cut_gap, [], []⟩
def dd_Cut___init__ : He5.DefA := ⟨fun K => fA K ("Cut", some "__init__"), "__init__", "Cut.__init__", defArgs s_Cut___init__, defBody s_Cut___init__, defScope s_Cut___init__, [], []⟩
def dd_Cut_numbers : He5.DefA := ⟨fun K => fA K ("Cut", some "numbers"), "numbers", "Cut.numbers", defArgs s_Cut_numbers, defBody s_Cut_numbers, defScope s_Cut_numbers, [], []⟩
def dd_Cut_spread : He5.DefA := ⟨fun K => fA K ("Cut", some "spread"), "spread", "Cut.spread", defArgs s_Cut_spread, defBody s_Cut_spread, defScope s_Cut_spread, [], []⟩
def dd_Cut_nearest : He5.DefA := ⟨fun K => fA K ("Cut", some "nearest"), "nearest", "Cut.nearest", defArgs s_Cut_nearest, defBody s_Cut_nearest, defScope s_Cut_nearest, [], []⟩
def dd_Cut_seen : He5.DefA := ⟨fun K => fA K ("Cut", some "seen"), "seen", "Cut.seen", defArgs s_Cut_seen, defBody s_Cut_seen, defScope s_Cut_seen, [], []⟩
def dd_Cut_window : He5.DefA := ⟨fun K => fA K ("Cut", some "window"), "window", "Cut.window", defArgs s_Cut_window, defBody s_Cut_window, defScope s_Cut_window, [], []⟩
def dd_Cut_are_apart : He5.DefA := ⟨fun K => fA K ("Cut", some "are_apart"), "are_apart", "Cut.are_apart", defArgs s_Cut_are_apart, defBody s_Cut_are_apart, defScope s_Cut_are_apart, [], []⟩
def dd_check_like : He5.DefA := ⟨fun K => fA K ("check_like", none), "check_like", "check_like", defArgs s_check_like, defBody s_check_like, defScope s_check_like, [], []⟩
def dd_Cut___or__ : He5.DefA := ⟨fun K => fA K ("Cut", some "__or__"), "__or__", "Cut.__or__", defArgs s_Cut___or__, defBody s_Cut___or__, defScope s_Cut___or__, [], []⟩
def dd_Cut___and__ : He5.DefA := ⟨fun K => fA K ("Cut", some "__and__"), "__and__", "Cut.__and__", defArgs s_Cut___and__, defBody s_Cut___and__, defScope s_Cut___and__, [], []⟩
def dd_find_bar : He5.DefA := ⟨fun K => fA K ("find_bar", none), "find_bar", "find_bar", defArgs s_find_bar, defBody s_find_bar, defScope s_find_bar, [], []⟩
def dd_check_bar : He5.DefA := ⟨fun K => fA K ("check_bar", none), "check_bar", "check_bar", defArgs s_check_bar, defBody s_check_bar, defScope s_check_bar, [], []⟩
def dd__law_source : He5.DefA := ⟨fun K => fA K ("_law_source", none), "_law_source", "_law_source", defArgs s__law_source, defBody s__law_source, defScope s__law_source, [], []⟩
def dd__law_draw : He5.DefA := ⟨fun K => fA K ("_law_draw", none), "_law_draw", "_law_draw", defArgs s__law_draw, defBody s__law_draw, defScope s__law_draw, [], []⟩
def dd__law_order : He5.DefA := ⟨fun K => fA K ("_law_order", none), "_law_order", "_law_order", defArgs s__law_order, defBody s__law_order, defScope s__law_order, [], []⟩
def dd__law_numbers : He5.DefA := ⟨fun K => fA K ("_law_numbers", none), "_law_numbers", "_law_numbers", defArgs s__law_numbers, defBody s__law_numbers, defScope s__law_numbers, [], []⟩
def dd__law_gap : He5.DefA := ⟨fun K => fA K ("_law_gap", none), "_law_gap", "_law_gap", defArgs s__law_gap, defBody s__law_gap, defScope s__law_gap, [], []⟩
def dd__law_at : He5.DefA := ⟨fun K => fA K ("_law_at", none), "_law_at", "_law_at", defArgs s__law_at, defBody s__law_at, defScope s__law_at, [], []⟩
def dd__law_bars : He5.DefA := ⟨fun K => fA K ("_law_bars", none), "_law_bars", "_law_bars", defArgs s__law_bars, defBody s__law_bars, defScope s__law_bars, [], []⟩
def dd__law_right : He5.DefA := ⟨fun K => fA K ("_law_right", none), "_law_right", "_law_right", defArgs s__law_right, defBody s__law_right, defScope s__law_right, [], []⟩
def dd_law : He5.DefA := ⟨fun K => fA K ("law", none), "law", "law", defArgs s_law, defBody s_law, defScope s_law, [], []⟩
def fnL : List He5.DefA := [dd_is_integer, dd_is_in_range, dd_is_word, dd_check_order, dd_are_numbers, dd_numbers_along, dd_Cut_gap, dd_Cut___init__, dd_Cut_numbers, dd_Cut_spread, dd_Cut_nearest, dd_Cut_seen, dd_Cut_window, dd_Cut_are_apart, dd_check_like, dd_Cut___or__, dd_Cut___and__, dd_find_bar, dd_check_bar, dd__law_source, dd__law_draw, dd__law_order, dd__law_numbers, dd__law_gap, dd__law_at, dd__law_bars, dd__law_right, dd_law]
def faL : List He.Fa := [.glo "Cut", .glo "_law_at", .glo "_law_bars", .glo "_law_draw", .glo "_law_gap", .glo "_law_numbers", .glo "_law_order", .glo "_law_right", .glo "_law_source", .glo "are_numbers", .glo "check_bar", .glo "check_like", .glo "check_order", .glo "find_bar", .glo "is_in_range", .glo "is_integer", .glo "is_word", .glo "numbers_along", .glo "law", .free "abs", .free "all", .free "bool", .free "dict", .free "enumerate", .free "int", .free "isinstance", .free "len", .free "list", .free "max", .free "min", .free "range", .free "sorted", .free "str", .free "tuple", .str "LETTERS" "abcdefghijklmnopqrstuvwxyz", .int "LONGEST" 8, .int "MOST_WRITES" 5000]
def looseL : List PySem.Str := [("CacheError" : PySem.Str), ("InvalidOrder" : PySem.Str), ("InvalidCut" : PySem.Str), ("InvalidMoment" : PySem.Str), ("InvalidOperand" : PySem.Str), ("LETTERS" : PySem.Str), ("LONGEST" : PySem.Str), ("is_integer" : PySem.Str), ("is_in_range" : PySem.Str), ("is_word" : PySem.Str), ("MOST_WRITES" : PySem.Str), ("check_order" : PySem.Str), ("are_numbers" : PySem.Str), ("numbers_along" : PySem.Str), ("Cut" : PySem.Str), ("check_like" : PySem.Str), ("find_bar" : PySem.Str), ("check_bar" : PySem.Str), ("_law_source" : PySem.Str), ("_law_draw" : PySem.Str), ("_law_order" : PySem.Str), ("_law_numbers" : PySem.Str), ("_law_gap" : PySem.Str), ("_law_at" : PySem.Str), ("_law_bars" : PySem.Str), ("_law_right" : PySem.Str)]
def exK (K : PySem.W.Frag) : Bool := (ktL.all fun p => (p.2.1.all fun b => decide (PySem.W.kitOne K (p.1.val K) (b.val K) = some true)) && (p.2.2.all fun b => decide (PySem.W.kitOne K (p.1.val K) (b.val K) = some false))) && (isL.all fun C => inB K (He.ga K C)) &&
  (xsL.all fun p => xcB K (He.ga K p.1) && (p.2.all fun f => decide (PySem.W.findIn K (.ref (He.ga K p.1)) f = some none)) && decide (PySem.W.findIn K (.ref (He.ga K p.1)) "__init__" = some (some (.ref (fA K (p.1, some "__init__"))))) && decide (PySem.W.typeIn K (.ref (fA K (p.1, some "__init__"))) = some (.type "function"))) && true && ([kl_Cut].all (klB K))
abbrev rowR : PySem.W.OpenRow := PySem.W.OpenLaw.row PySem.Challenge.rw_slackcache_k41_whole_spreads_of_cuts
abbrev hkR : PySem.W.Hook := hookY 5 faL fnL exK
def obR (s : PySem.W.SharedT) : He.AlD × Bool := obsY 5 faL fnL exK (HandSHeadRun.getT s)
theorem obR_eq (s : PySem.W.SharedT) : obR s = hkR.obs s.abs := obsY_eq (HandSHeadRun.getT_eq s)
theorem runR (w : World) : HandSHeadRun.RunEq rowR (PySem.W.view rowR.prog [30]) hkR obR 20000 looseL w := by
  intro os
  kernel_rfl
theorem look_mem {α β : Type} [BEq α] [LawfulBEq α] {a : α} {b : β} : ∀ {l : List (α × β)}, l.lookup a = some b → (a, b) ∈ l
  | [], h => by cases h
  | (k, v) :: l, h => by
    cases e : a == k with
    | true => simp only [List.lookup, e] at h; cases h; rw [eq_of_beq e]; exact List.mem_cons_self
    | false => simp only [List.lookup, e] at h; exact List.mem_cons_of_mem _ (look_mem h)
theorem xsL_at {C : PySem.Str} (h : xsB C = true) : ∃ fs, (C, fs) ∈ xsL ∧ (xsL.lookup C).getD [] = fs := by
  obtain ⟨fs, e⟩ := Option.isSome_iff_exists.mp (show (xsL.lookup C).isSome = true from h)
  exact ⟨fs, look_mem e, by rw [e]; rfl⟩
theorem txtR {K : PySem.W.Frag} {h : Heap} {mg : PySem.Str → Option Value} (X : K.In h) (G : h.Ns mainGlobals mg) (c0 : SaysY faL fnL exK K) : Txt K mg := by
  have c : He5.SaysA faL fnL K := c0.d
  have m := c0.more
  unfold exK at m
  simp only [Bool.and_eq_true] at m
  obtain ⟨⟨⟨⟨m1, m2⟩, m3⟩, m4⟩, mk⟩ := m
  have xall : ∀ C fs, (C, fs) ∈ xsL → ((xcB K (He.ga K C) = true ∧ (fs.all fun f => decide (PySem.W.findIn K (.ref (He.ga K C)) f = some none)) = true) ∧ decide (PySem.W.findIn K (.ref (He.ga K C)) "__init__" = some (some (.ref (fA K (C, some "__init__"))))) = true) ∧ decide (PySem.W.typeIn K (.ref (fA K (C, some "__init__"))) = some (.type "function")) = true := fun C fs hm => by
    have := List.all_eq_true.mp m3 (C, fs) hm
    simpa only [Bool.and_eq_true] using this
  have ktok : KtOk K kt xsB isB := ⟨(fun a b r e => by
      unfold kt at e
      split at e
      · rename_i ts fs el
        have h1 := List.all_eq_true.mp m1 _ (look_mem el)
        simp only [Bool.and_eq_true] at h1
        split at e
        · rename_i hb
          cases e
          exact of_decide_eq_true (List.all_eq_true.mp h1.1 b (List.contains_iff_mem.mp hb))
        · split at e
          · rename_i hb
            cases e
            exact of_decide_eq_true (List.all_eq_true.mp h1.2 b (List.contains_iff_mem.mp hb))
          · cases e
      · cases e), fun C hC => let ⟨fs, hm, _⟩ := xsL_at hC; xcB_ok (xall C fs hm).1.1.1, fun C hC => inB_ok (List.all_eq_true.mp m2 C (by simpa [isB] using hC))⟩
  exact {
    g_Cut := He.glo_ok X G (c.fact 0 (f := .glo "Cut") rfl)
    g__law_at := He.glo_ok X G (c.fact 1 (f := .glo "_law_at") rfl)
    g__law_bars := He.glo_ok X G (c.fact 2 (f := .glo "_law_bars") rfl)
    g__law_draw := He.glo_ok X G (c.fact 3 (f := .glo "_law_draw") rfl)
    g__law_gap := He.glo_ok X G (c.fact 4 (f := .glo "_law_gap") rfl)
    g__law_numbers := He.glo_ok X G (c.fact 5 (f := .glo "_law_numbers") rfl)
    g__law_order := He.glo_ok X G (c.fact 6 (f := .glo "_law_order") rfl)
    g__law_right := He.glo_ok X G (c.fact 7 (f := .glo "_law_right") rfl)
    g__law_source := He.glo_ok X G (c.fact 8 (f := .glo "_law_source") rfl)
    g_are_numbers := He.glo_ok X G (c.fact 9 (f := .glo "are_numbers") rfl)
    g_check_bar := He.glo_ok X G (c.fact 10 (f := .glo "check_bar") rfl)
    g_check_like := He.glo_ok X G (c.fact 11 (f := .glo "check_like") rfl)
    g_check_order := He.glo_ok X G (c.fact 12 (f := .glo "check_order") rfl)
    g_find_bar := He.glo_ok X G (c.fact 13 (f := .glo "find_bar") rfl)
    g_is_in_range := He.glo_ok X G (c.fact 14 (f := .glo "is_in_range") rfl)
    g_is_integer := He.glo_ok X G (c.fact 15 (f := .glo "is_integer") rfl)
    g_is_word := He.glo_ok X G (c.fact 16 (f := .glo "is_word") rfl)
    g_numbers_along := He.glo_ok X G (c.fact 17 (f := .glo "numbers_along") rfl)
    f_abs := He.free_ok X G (c.fact 19 (f := .free "abs") rfl)
    f_all := He.free_ok X G (c.fact 20 (f := .free "all") rfl)
    f_bool := He.free_ok X G (c.fact 21 (f := .free "bool") rfl)
    f_dict := He.free_ok X G (c.fact 22 (f := .free "dict") rfl)
    f_enumerate := He.free_ok X G (c.fact 23 (f := .free "enumerate") rfl)
    f_int := He.free_ok X G (c.fact 24 (f := .free "int") rfl)
    f_isinstance := He.free_ok X G (c.fact 25 (f := .free "isinstance") rfl)
    f_len := He.free_ok X G (c.fact 26 (f := .free "len") rfl)
    f_list := He.free_ok X G (c.fact 27 (f := .free "list") rfl)
    f_max := He.free_ok X G (c.fact 28 (f := .free "max") rfl)
    f_min := He.free_ok X G (c.fact 29 (f := .free "min") rfl)
    f_range := He.free_ok X G (c.fact 30 (f := .free "range") rfl)
    f_sorted := He.free_ok X G (c.fact 31 (f := .free "sorted") rfl)
    f_str := He.free_ok X G (c.fact 32 (f := .free "str") rfl)
    f_tuple := He.free_ok X G (c.fact 33 (f := .free "tuple") rfl)
    c_LETTERS := He.str_ok X G (c.fact 34 (f := .str "LETTERS" "abcdefghijklmnopqrstuvwxyz") rfl)
    c_LONGEST := He.int_ok X G (c.fact 35 (f := .int "LONGEST" 8) rfl)
    c_MOST_WRITES := He.int_ok X G (c.fact 36 (f := .int "MOST_WRITES" 5000) rfl)
    d_is_integer := ⟨let ⟨fd, F⟩ := c.def_ 0 (d := dd_is_integer) rfl; ⟨fd, F, FunD.bindsN F fun _ _ _ _ _ _ us hl => match us, hl with | [_], _ => rfl, F.kp⟩⟩
    d_is_in_range := ⟨let ⟨fd, F⟩ := c.def_ 1 (d := dd_is_in_range) rfl; ⟨fd, F, FunD.bindsN F fun _ _ _ _ _ _ us hl => match us, hl with | [_, _, _], _ => rfl, F.kp⟩⟩
    d_is_word := ⟨let ⟨fd, F⟩ := c.def_ 2 (d := dd_is_word) rfl; ⟨fd, F, FunD.bindsN F fun _ _ _ _ _ _ us hl => match us, hl with | [_], _ => rfl, F.kp⟩⟩
    d_check_order := ⟨let ⟨fd, F⟩ := c.def_ 3 (d := dd_check_order) rfl; ⟨fd, F, FunD.bindsN F fun _ _ _ _ _ _ us hl => match us, hl with | [_], _ => rfl, F.kp⟩⟩
    d_are_numbers := ⟨let ⟨fd, F⟩ := c.def_ 4 (d := dd_are_numbers) rfl; ⟨fd, F, FunD.bindsN F fun _ _ _ _ _ _ us hl => match us, hl with | [_, _], _ => rfl, F.kp⟩⟩
    d_numbers_along := ⟨let ⟨fd, F⟩ := c.def_ 5 (d := dd_numbers_along) rfl; ⟨fd, F, FunD.bindsN F fun _ _ _ _ _ _ us hl => match us, hl with | [_, _], _ => rfl, F.kp⟩⟩
    d_Cut_gap := ⟨let ⟨fd, F⟩ := c.def_ 6 (d := dd_Cut_gap) rfl; ⟨fd, F, FunD.bindsN F fun _ _ _ _ _ _ us hl => match us, hl with | [_, _], _ => rfl, F.kp⟩⟩
    d_Cut___init__ := ⟨let ⟨fd, F⟩ := c.def_ 7 (d := dd_Cut___init__) rfl; ⟨fd, F, FunD.bindsN F fun _ _ _ _ _ _ us hl => match us, hl with | [_, _, _], _ => rfl, F.kp⟩⟩
    d_Cut_numbers := ⟨let ⟨fd, F⟩ := c.def_ 8 (d := dd_Cut_numbers) rfl; ⟨fd, F, FunD.bindsN F fun _ _ _ _ _ _ us hl => match us, hl with | [_], _ => rfl, F.kp⟩⟩
    d_Cut_spread := ⟨let ⟨fd, F⟩ := c.def_ 9 (d := dd_Cut_spread) rfl; ⟨fd, F, FunD.bindsN F fun _ _ _ _ _ _ us hl => match us, hl with | [_], _ => rfl, F.kp⟩⟩
    d_Cut_nearest := ⟨let ⟨fd, F⟩ := c.def_ 10 (d := dd_Cut_nearest) rfl; ⟨fd, F, FunD.bindsN F fun _ _ _ _ _ _ us hl => match us, hl with | [_], _ => rfl, F.kp⟩⟩
    d_Cut_seen := ⟨let ⟨fd, F⟩ := c.def_ 11 (d := dd_Cut_seen) rfl; ⟨fd, F, FunD.bindsN F fun _ _ _ _ _ _ us hl => match us, hl with | [_], _ => rfl, F.kp⟩⟩
    d_Cut_window := ⟨let ⟨fd, F⟩ := c.def_ 12 (d := dd_Cut_window) rfl; ⟨fd, F, FunD.bindsN F fun _ _ _ _ _ _ us hl => match us, hl with | [_, _, _], _ => rfl, F.kp⟩⟩
    d_Cut_are_apart := ⟨let ⟨fd, F⟩ := c.def_ 13 (d := dd_Cut_are_apart) rfl; ⟨fd, F, FunD.bindsN F fun _ _ _ _ _ _ us hl => match us, hl with | [_, _, _, _], _ => rfl, F.kp⟩⟩
    d_check_like := ⟨let ⟨fd, F⟩ := c.def_ 14 (d := dd_check_like) rfl; ⟨fd, F, FunD.bindsN F fun _ _ _ _ _ _ us hl => match us, hl with | [_, _], _ => rfl, F.kp⟩⟩
    d_Cut___or__ := ⟨let ⟨fd, F⟩ := c.def_ 15 (d := dd_Cut___or__) rfl; ⟨fd, F, FunD.bindsN F fun _ _ _ _ _ _ us hl => match us, hl with | [_, _], _ => rfl, F.kp⟩⟩
    d_Cut___and__ := ⟨let ⟨fd, F⟩ := c.def_ 16 (d := dd_Cut___and__) rfl; ⟨fd, F, FunD.bindsN F fun _ _ _ _ _ _ us hl => match us, hl with | [_, _], _ => rfl, F.kp⟩⟩
    d_find_bar := ⟨let ⟨fd, F⟩ := c.def_ 17 (d := dd_find_bar) rfl; ⟨fd, F, FunD.bindsN F fun _ _ _ _ _ _ us hl => match us, hl with | [_], _ => rfl, F.kp⟩⟩
    d_check_bar := ⟨let ⟨fd, F⟩ := c.def_ 18 (d := dd_check_bar) rfl; ⟨fd, F, FunD.bindsN F fun _ _ _ _ _ _ us hl => match us, hl with | [_, _], _ => rfl, F.kp⟩⟩
    d__law_source := ⟨let ⟨fd, F⟩ := c.def_ 19 (d := dd__law_source) rfl; ⟨fd, F, FunD.bindsN F fun _ _ _ _ _ _ us hl => match us, hl with | [_, _], _ => rfl, F.kp⟩⟩
    d__law_draw := ⟨let ⟨fd, F⟩ := c.def_ 20 (d := dd__law_draw) rfl; ⟨fd, F, FunD.bindsN F fun _ _ _ _ _ _ us hl => match us, hl with | [_, _], _ => rfl, F.kp⟩⟩
    d__law_order := ⟨let ⟨fd, F⟩ := c.def_ 21 (d := dd__law_order) rfl; ⟨fd, F, FunD.bindsN F fun _ _ _ _ _ _ us hl => match us, hl with | [_, _], _ => rfl, F.kp⟩⟩
    d__law_numbers := ⟨let ⟨fd, F⟩ := c.def_ 22 (d := dd__law_numbers) rfl; ⟨fd, F, FunD.bindsN F fun _ _ _ _ _ _ us hl => match us, hl with | [_, _], _ => rfl, F.kp⟩⟩
    d__law_gap := ⟨let ⟨fd, F⟩ := c.def_ 23 (d := dd__law_gap) rfl; ⟨fd, F, FunD.bindsN F fun _ _ _ _ _ _ us hl => match us, hl with | [_, _, _], _ => rfl, F.kp⟩⟩
    d__law_at := ⟨let ⟨fd, F⟩ := c.def_ 24 (d := dd__law_at) rfl; ⟨fd, F, FunD.bindsN F fun _ _ _ _ _ _ us hl => match us, hl with | [_, _, _], _ => rfl, F.kp⟩⟩
    d__law_bars := ⟨let ⟨fd, F⟩ := c.def_ 25 (d := dd__law_bars) rfl; ⟨fd, F, FunD.bindsN F fun _ _ _ _ _ _ us hl => match us, hl with | [_, _, _, _], _ => rfl, F.kp⟩⟩
    d__law_right := ⟨let ⟨fd, F⟩ := c.def_ 26 (d := dd__law_right) rfl; ⟨fd, F, FunD.bindsN F fun _ _ _ _ _ _ us hl => match us, hl with | [_, _], _ => rfl, F.kp⟩⟩
    k_Cut := klB_ok (List.all_eq_true.mp mk kl_Cut (by simp))
    kt := ktok }
theorem endR {K : PySem.W.Frag} {H : Hp} {a : Addr} {ns : List Int} {E : XK} (hl : ns.length ≤ 63) (hS : SqL K H a (ns.map V.int)) : spF K R_law [.ref a] H (fun v _ => v = .bl true) E := by
  refine ⟨⟨⟨K, never, none⟩, H, H, [], fun _ => none⟩, [.scr ns], [], fun r _ => r = .bl true, fun _ _ _ => False, rfl, rfl, ⟨fun _ _ h => h, rfl, fun i j a h => (by simp at h), fun i a h => (by simp at h), fun _ _ h => (by cases h), fun _ _ h => (by cases h), fun i a h => (by simp at h), fun i c h => (by simp at h)⟩, .cons (.scr hS) .nil, ⟨ns, rfl, rfl, hl, fun _ => rfl⟩, fun W' v r ms' _ _ ok e => ?_, fun _ _ _ _ _ _ _ _ _ _ z => z.elim⟩
  subst e
  cases ok
  rfl
end K41
open PySem PySem.W PySem.Calls PyProof.Rows
theorem PySem.Challenge.cw_slackcache_k41_whole_spreads_of_cuts_holds : PySem.Challenge.rw_slackcache_k41_whole_spreads_of_cuts.Holds := by
  w_on; o_law
  refine HandSHeadRun.head_any (r := OpenLaw.row PySem.Challenge.rw_slackcache_k41_whole_spreads_of_cuts) (q := view (OpenLaw.row PySem.Challenge.rw_slackcache_k41_whole_spreads_of_cuts).prog [30]) (H := K41.hkR) (ob := K41.obR) (M := 20000) (loose := K41.looseL) (d := HandSHeadRun.topDef (OpenLaw.row PySem.Challenge.rw_slackcache_k41_whole_spreads_of_cuts).prog 30) (kwd := []) K41.obR_eq
    (by kernel_rfl) (fun s => by kernel_rfl) K41.runR (by kernel_rfl) (by kernel_rfl) (by kernel_rfl) (by rfl) (by first | assumption | decide +kernel) (by decide +kernel) ⟨rfl, rfl, rfl, rfl, rfl, by decide +kernel⟩ ?hw ?hc
  case hw => w_witness2
  case hc =>
    refine Sy.walkG (l := PySem.Challenge.rw_slackcache_k41_whole_spreads_of_cuts) (n := 63) (k := 8) (x := "_law_script") (CX := fun w => L2.CX PySem.Challenge.rw_slackcache_k41_whole_spreads_of_cuts.prog w) rfl (by decide) (by kernel_rfl) ⟨rfl, by decide, by decide⟩ ?F (fun _ _ _ _ _ z => Sy.cx_none z)
    intro w mg fa h Y G hmg0
    obtain ⟨K, KX, c⟩ := Y
    have hmg : mg ("law" : PySem.Str) = some (.ref fa) := by
      have e : (HandSHeadRun.topDef (OpenLaw.row PySem.Challenge.rw_slackcache_k41_whole_spreads_of_cuts).prog 30).name = ("law" : PySem.Str) := by kernel_rfl
      rw [← e]
      exact hmg0
    have T := K41.txtR KX G c
    obtain ⟨fd, F⟩ := He5.SaysA.def_ c.d 27 (d := K41.dd_law) rfl
    have m := He.glo_ok KX G (He5.SaysA.fact c.d 18 (f := .glo "law") rfl)
    cases m.symm.trans hmg
    have bA := L2.FunD.bindsA (ps := ["_law_script"]) F fun _ _ _ _ _ _ us hl => match us, hl with | [_], _ => rfl
    exact ⟨K, fd, Sy.spF K K41.R_law, KX, fun s u => bA s [u] rfl, fun H a ns hl _ hS => K41.endR hl hS, fun base hb hN => K41.ok_law T F⟩
