import PyProof.Rows.All
import Wide.All
import OpenK.AllK
import Wide.FinOn
import HandS.ForMost
import HandS.Defaults
import KE.KDictCopyH
import KE.DataEq
import HandS.IsInst
import HandS.Style
import HandS.RevRange
import HandS.More
import HandS.WideBits
import HandS.DictComp
import PyProof.Rows.SetFrom
import HandS.Conv
import HandS.Zip
import KE.IntBitsLaws
import KE.KStateDown
import Lean
import HandS.Base
import HandS.Call
import HandS.Ends
import HandS.Words
import HandS.WordsExc
import HandS.Head0
import HandS.Head1
import HandS.Head2
import HandS.HeadEnd
import HandS.HeadHook1
import HandS.HeadHook2
import PySem.Challenge.RW_allmayedit_k52_whole_changes_left_out
set_option Elab.async false
set_option linter.all false
set_option maxRecDepth 100000
set_option maxHeartbeats 4000000
/-! Vi0: values as data, own cells, the world of a body, what a reading says in these words. -/
namespace Vi
open PySem PySem.Spec PyProof.Rows L2

abbrev T := PyData
/-- the program, the world, the written part -/
structure Kc where
  p : Program
  w : World
  k : PySem.W.Frag
abbrev _root_.L2.Cx.kc (X : Cx) : Kc := ⟨X.prog, X.w, X.K⟩
def Sub (F H : Hp) : Prop := ∀ a o, F a = some o → H a = some o
theorem Sub.rfl' {F : Hp} : Sub F F := fun _ _ h => h
theorem Sub.trans {F G H : Hp} (x : Sub F G) (y : Sub G H) : Sub F H := fun a o h => y a o (x a o h)
theorem Sub.new {H : Hp} {p : Addr} {o : HO} (h : H p = none) : Sub H (upd H p o) := fun a u e => by
  rw [upd_ne (ne_of_none e h)]
  exact e
theorem Sub.nn {F H : Hp} (x : Sub F H) {a : Addr} (h : H a = none) : F a = none := by
  cases e : F a with
  | none => rfl
  | some o => rw [x a o e] at h; cases h
theorem Sub.up {F H : Hp} {p : Addr} {o : HO} (x : Sub F H) (h : F p = none) : Sub F (upd H p o) := fun a u e => by
  rw [upd_ne (ne_of_none e h)]
  exact x a u e
theorem Sub.up2 {F H : Hp} {p : Addr} {o : HO} (x : Sub F H) (h : H p = some o) : Sub (L2.upd F p o) H := fun a u e => by
  by_cases q : a = p
  · subst q; rw [upd_same] at e; cases e; exact h
  · rw [upd_ne q] at e; exact x a u e
theorem sqL_sub {K : PySem.W.Frag} {F H : Hp} {a : Addr} {xs : List V} (x : Sub F H) (h : SqL K F a xs) : SqL K H a xs := by
  rcases h with (h | ⟨o, h⟩) | h
  · exact .inl (.inl (x _ _ h))
  · exact .inl (.inr ⟨o, x _ _ h⟩)
  · exact .inr h
theorem sqT_sub {K : PySem.W.Frag} {F H : Hp} {a : Addr} {xs : List V} (x : Sub F H) (h : SqT K F a xs) : SqT K H a xs := by
  rcases h with (h | ⟨o, h⟩) | h
  · exact .inl (.inl (x _ _ h))
  · exact .inl (.inr ⟨o, x _ _ h⟩)
  · exact .inr h

/-- a value while a body runs: data that nobody changes; data that another may own; a cell of one's own -/
inductive Val where
  | t (d : T) | bor (d : T) | lab (l : Nat)
/-- keys ints and texts; keys tuples of such; keys None, ints and texts -/
inductive DK where
  | k | p | n
  deriving DecidableEq
inductive Cell where
  | lst (xs : List Val)
  | dct (q : DK) (kvs : List (T × Val))
abbrev Mu := List (Option Cell)
abbrev En := List (Option Val)
/-- what stands for good; what is not touched; where the cells lie -/
structure Wd where
  F : Hp
  G : Hp
  r : List Addr

def keyT : Key → T
  | .inl i => .int i
  | .inr s => .str s
def keyP (k : List Key) : T := .tuple (k.map keyT)
def keyN : Leaf → T
  | .none => .none
  | .num i => .int i
  | .text s => .str s
/-- a dict with None among its keys -/
def HON (K : Kc) (a : Addr) (kvs : List (Leaf × V)) : HO := .ext fun h => kvs.length ≤ sizeLine ∧ (a == sysModules) = false ∧ ∃ vs, KV kvs vs ∧ h.DictOf (leafKind K.p K.w) a vs
/-- a dict's object by its keys as data and its values -/
def DctO (K : Kc) (a : Addr) (q : DK) (keys : List T) (xs : List V) (o : HO) : Prop := match q with
  | .k => ∃ kvs : List (Key × V), o = .dK kvs ∧ keys = kvs.map (fun p => keyT p.1) ∧ xs = kvs.map (·.2)
  | .p => ∃ kvs : List (List Key × V), o = .dT kvs ∧ keys = kvs.map (fun p => keyP p.1) ∧ xs = kvs.map (·.2)
  | .n => ∃ kvs : List (Leaf × V), o = HON K a kvs ∧ keys = kvs.map (fun p => keyN p.1) ∧ xs = kvs.map (·.2)

mutual
inductive Rep (K : Kc) (F : Hp) : V → T → Prop
  | non : Rep K F .non .none
  | bl (b : Bool) : Rep K F (.bl b) (.bool b)
  | int (i : Int) : Rep K F (.int i) (.int i)
  | str (x : Str) : Rep K F (.str x) (.str x)
  | lst {a : Addr} {xs : List V} {ds : List T} : F a = some (.lst xs) → RepAll K F xs ds → Rep K F (.ref a) (.list ds)
  | tup {a : Addr} {xs : List V} {ds : List T} : F a = some (.tup xs) → RepAll K F xs ds → Rep K F (.ref a) (.tuple ds)
  | dct {a : Addr} {q : DK} {keys : List T} {xs : List V} {o : HO} {ds : List T} {kvs : List (T × T)} : q ≠ .n → DctO K a q keys xs o → F a = some o → RepAll K F xs ds → kvs = keys.zip ds → Rep K F (.ref a) (.dict kvs)
inductive RepAll (K : Kc) (F : Hp) : List V → List T → Prop
  | nil : RepAll K F [] []
  | cons {v : V} {vs : List V} {d : T} {ds : List T} : Rep K F v d → RepAll K F vs ds → RepAll K F (v :: vs) (d :: ds)
end
section
variable {K : Kc} {F H : Hp}
mutual
theorem Rep.mono (s : Sub F H) : ∀ {v : V} {d : T}, Rep K F v d → Rep K H v d
  | _, _, .non => .non
  | _, _, .bl b => .bl b
  | _, _, .int i => .int i
  | _, _, .str x => .str x
  | _, _, .lst h r => .lst (s _ _ h) (RepAll.mono s r)
  | _, _, .tup h r => .tup (s _ _ h) (RepAll.mono s r)
  | _, _, .dct hq h1 h2 r e => .dct hq h1 (s _ _ h2) (RepAll.mono s r) e
theorem RepAll.mono (s : Sub F H) : ∀ {vs : List V} {ds : List T}, RepAll K F vs ds → RepAll K H vs ds
  | _, _, .nil => .nil
  | _, _, .cons h r => .cons (Rep.mono s h) (RepAll.mono s r)
end
theorem RepAll.length : ∀ {vs : List V} {ds : List T}, RepAll K F vs ds → vs.length = ds.length
  | _, _, .nil => rfl
  | _, _, .cons _ r => congrArg Nat.succ (RepAll.length r)
theorem RepAll.get : ∀ {vs : List V} {ds : List T} {i : Nat} {d : T}, RepAll K F vs ds → ds[i]? = some d → ∃ v, vs[i]? = some v ∧ Rep K F v d
  | _, _, _, _, .nil, e => by simp at e
  | _, _, 0, _, .cons h _, e => by simp at e; subst e; exact ⟨_, rfl, h⟩
  | _, _, i + 1, d, .cons _ r, e => by
    obtain ⟨v, h1, h2⟩ := RepAll.get (i := i) (d := d) r (by simpa using e)
    exact ⟨v, by simpa using h1, h2⟩
theorem RepAll.get' : ∀ {vs : List V} {ds : List T} {i : Nat} {v : V}, RepAll K F vs ds → vs[i]? = some v → ∃ d, ds[i]? = some d ∧ Rep K F v d
  | _, _, _, _, .nil, e => by simp at e
  | _, _, 0, _, .cons h _, e => by simp at e; subst e; exact ⟨_, rfl, h⟩
  | _, _, i + 1, v, .cons _ r, e => by
    obtain ⟨d, h1, h2⟩ := RepAll.get' (i := i) (v := v) r (by simpa using e)
    exact ⟨d, by simpa using h1, h2⟩
theorem RepAll.append : ∀ {vs us : List V} {ds es : List T}, RepAll K F vs ds → RepAll K F us es → RepAll K F (vs ++ us) (ds ++ es)
  | _, _, _, _, .nil, s => s
  | _, _, _, _, .cons h r, s => .cons h (RepAll.append r s)
theorem RepAll.take : ∀ {vs : List V} {ds : List T} (n : Nat), RepAll K F vs ds → RepAll K F (vs.take n) (ds.take n)
  | _, _, 0, _ => .nil
  | _, _, _ + 1, .nil => .nil
  | _, _, n + 1, .cons h r => .cons h (RepAll.take n r)
theorem RepAll.drop : ∀ {vs : List V} {ds : List T} (n : Nat), RepAll K F vs ds → RepAll K F (vs.drop n) (ds.drop n)
  | _, _, 0, r => r
  | _, _, _ + 1, .nil => .nil
  | _, _, n + 1, .cons _ r => RepAll.drop n r
theorem RepAll.reverse : ∀ {vs : List V} {ds : List T}, RepAll K F vs ds → RepAll K F vs.reverse ds.reverse
  | _, _, .nil => .nil
  | _, _, .cons h r => by
    rw [List.reverse_cons, List.reverse_cons]
    exact RepAll.append (RepAll.reverse r) (.cons h .nil)
theorem RepAll.rep {vs : List V} {ds : List T} (h : RepAll K F vs ds) : ∀ k : Nat, RepAll K F (List.replicate k vs).flatten (List.replicate k ds).flatten
  | 0 => .nil
  | k + 1 => by
    rw [List.replicate_succ, List.replicate_succ, List.flatten_cons, List.flatten_cons]
    exact RepAll.append h (RepAll.rep h k)
end

section
variable (K : Kc)
/-- data whose top another may own -/
def RepB (w : Wd) (x : V) (d : T) : Prop := Rep K w.F x d ∨ (∃ a xs ds, d = .list ds ∧ x = .ref a ∧ (SqL K.k w.F a xs ∨ w.G a = some (.lst xs)) ∧ RepAll K w.F xs ds) ∨
  ∃ a q keys xs o ds, d = .dict (keys.zip ds) ∧ x = .ref a ∧ (q ≠ .n ∧ DctO K a q keys xs o) ∧ w.G a = some o ∧ RepAll K w.F xs ds
def RV (w : Wd) (x : V) : Val → Prop
  | .t d => Rep K w.F x d
  | .bor d => RepB K w x d
  | .lab l => ∃ a, w.r[l]? = some a ∧ x = .ref a
/-- a cell's item: nothing borrowed -/
def RC (w : Wd) (x : V) (v : Val) : Prop := RV K w x v ∧ ∀ d, v ≠ .bor d
def CellOk (w : Wd) (H : Hp) (a : Addr) : Cell → Prop
  | .lst vs => ∃ xs, H a = some (.lst xs) ∧ Paired (RC K w) xs vs
  | .dct q kvs => ∃ xs o, H a = some o ∧ DctO K a q (kvs.map (·.1)) xs o ∧ Paired (RC K w) xs (kvs.map (·.2))
structure Own (w : Wd) (mu : Mu) (H : Hp) : Prop where
  sub : Sub w.F H
  subG : Sub w.G H
  dis : ∀ a o, w.F a = some o → w.G a = none
  len : mu.length = w.r.length
  cell : ∀ (l : Nat) (c : Cell), mu[l]? = some (some c) → ∃ a, w.r[l]? = some a ∧ w.F a = none ∧ w.G a = none ∧ CellOk K w H a c
  inj : ∀ (l l' : Nat) (c c' : Cell) (a : Addr), mu[l]? = some (some c) → mu[l']? = some (some c') → w.r[l]? = some a → w.r[l']? = some a → l = l'
structure Slots (w : Wd) (env : En) (σ : L2.St) : Prop where
  len : env.length = σ.length
  at_ : ∀ (i : Nat) (v : Val), env[i]? = some (some v) → ∃ x, σ[i]? = some (some x) ∧ RV K w x v
end
structure Ext (w w' : Wd) : Prop where
  F : Sub w.F w'.F
  G : Sub w.G w'.G
  r : ∃ more, w'.r = w.r ++ more
theorem Ext.refl (w : Wd) : Ext w w := ⟨Sub.rfl', Sub.rfl', ⟨[], by simp⟩⟩
theorem Ext.trans {a b c : Wd} (x : Ext a b) (y : Ext b c) : Ext a c := by
  obtain ⟨m, hm⟩ := x.r
  obtain ⟨n, hn⟩ := y.r
  exact ⟨x.F.trans y.F, x.G.trans y.G, ⟨m ++ n, by rw [hn, hm, List.append_assoc]⟩⟩
theorem Ext.lab {w w' : Wd} (x : Ext w w') {l : Nat} {a : Addr} (h : w.r[l]? = some a) : w'.r[l]? = some a := by
  obtain ⟨m, hm⟩ := x.r
  rw [hm, List.getElem?_append_left (List.getElem?_eq_some_iff.mp h).1]
  exact h
section
variable {K : Kc} {w w' : Wd} {H H' : Hp} {x : V} {v : Val} {mu : Mu} {env : En} {σ : L2.St}
theorem RepB.mono {d : T} (s : Sub w.F w'.F) (g : Sub w.G w'.G) (h : RepB K w x d) : RepB K w' x d := by
  rcases h with h | ⟨a, xs, ds, e, ex, h, r⟩ | ⟨a, q, keys, xs, o, ds, e, ex, h1, h2, r⟩
  · exact .inl (h.mono s)
  · exact .inr (.inl ⟨a, xs, ds, e, ex, h.elim (fun z => .inl (sqL_sub s z)) (fun z => .inr (g _ _ z)), r.mono s⟩)
  · exact .inr (.inr ⟨a, q, keys, xs, o, ds, e, ex, h1, g _ _ h2, r.mono s⟩)
theorem RV.mono (e : Ext w w') (h : RV K w x v) : RV K w' x v := by
  cases v with
  | t d => exact Rep.mono e.F h
  | bor d => exact RepB.mono e.F e.G h
  | lab l => obtain ⟨a, h1, h2⟩ := h; exact ⟨a, e.lab h1, h2⟩
/-- what is not borrowed leans on what stands for good and on the places alone -/
theorem RC.mono (s : Sub w.F w'.F) (hr : ∃ more, w'.r = w.r ++ more) (h : RC K w x v) : RC K w' x v := by
  obtain ⟨h, nb⟩ := h
  refine ⟨?_, nb⟩
  cases v with
  | t d => exact Rep.mono s h
  | bor d => exact absurd rfl (nb d)
  | lab l =>
    obtain ⟨a, h1, h2⟩ := h
    obtain ⟨m, hm⟩ := hr
    exact ⟨a, by rw [hm, List.getElem?_append_left (List.getElem?_eq_some_iff.mp h1).1]; exact h1, h2⟩
theorem CellOk.mono {a : Addr} {c : Cell} (s : Sub w.F w'.F) (hr : ∃ more, w'.r = w.r ++ more) (hH : H' a = H a) (h : CellOk K w H a c) : CellOk K w' H' a c := by
  cases c with
  | lst vs =>
    obtain ⟨xs, h1, h2⟩ := h
    exact ⟨xs, hH.trans h1, Paired.mapP h2 fun _ _ z => z.mono s hr⟩
  | dct q kvs =>
    obtain ⟨xs, o, h1, h2, h3⟩ := h
    exact ⟨xs, o, hH.trans h1, h2, Paired.mapP h3 fun _ _ z => z.mono s hr⟩
theorem Slots.mono (e : Ext w w') (h : Slots K w env σ) : Slots K w' env σ :=
  ⟨h.len, fun i v q => let ⟨x, h1, h2⟩ := h.at_ i v q; ⟨x, h1, h2.mono e⟩⟩
theorem Slots.set {i : Nat} (h : Slots K w env σ) (r : RV K w x v) : Slots K w (env.set i (some v)) (σ.set i (some x)) := by
  refine ⟨by simp [h.len], fun j u e => ?_⟩
  by_cases q : i = j
  · subst q
    by_cases hi : i < env.length
    · rw [List.getElem?_set_self hi] at e
      cases e
      exact ⟨x, List.getElem?_set_self (by rw [← h.len]; exact hi), r⟩
    · rw [List.getElem?_eq_none (by simpa using hi)] at e; cases e
  · rw [List.getElem?_set_ne q] at e ⊢
    exact h.at_ j u e
theorem Slots.clear {i : Nat} (h : Slots K w env σ) : Slots K w (env.set i none) (σ.set i none) := by
  refine ⟨by simp [h.len], fun j u e => ?_⟩
  by_cases q : i = j
  · subst q
    by_cases hi : i < env.length
    · rw [List.getElem?_set_self hi] at e
      cases e
    · rw [List.getElem?_eq_none (by simpa using hi)] at e; cases e
  · rw [List.getElem?_set_ne q] at e ⊢
    exact h.at_ j u e
/-- a new thing that stands for good -/
theorem Own.laidF {p : Addr} {o : HO} (O : Own K w mu H) (h : H p = none) : Own K { w with F := upd w.F p o } mu (upd H p o) := by
  have nG : w.G p = none := O.subG.nn h
  have nF : w.F p = none := O.sub.nn h
  refine ⟨fun a u e => ?_, O.subG.up nG, fun a u e => ?_, O.len, fun l c e => ?_, O.inj⟩
  · have e : upd w.F p o a = some u := e
    by_cases q : a = p
    · subst q; rw [upd_same] at e ⊢; exact e
    · rw [upd_ne q] at e ⊢; exact O.sub a u e
  · have e : upd w.F p o a = some u := e
    by_cases q : a = p
    · subst q; exact nG
    · rw [upd_ne q] at e; exact O.dis a u e
  · obtain ⟨a, h1, h2, h3, h4⟩ := O.cell l c e
    have ne : a ≠ p := by
      rintro rfl
      cases c with
      | lst vs => obtain ⟨xs, z, _⟩ := h4; rw [h] at z; cases z
      | dct q kvs => obtain ⟨xs, o, z, _⟩ := h4; rw [h] at z; cases z
    exact ⟨a, h1, by show upd w.F p o a = none; rw [upd_ne ne]; exact h2, h3, h4.mono (Sub.new nF) ⟨[], by simp⟩ (upd_ne ne)⟩
theorem ext_laidF {p : Addr} {o : HO} (h : w.F p = none) : Ext w { w with F := upd w.F p o } := ⟨Sub.new h, Sub.rfl', ⟨[], by simp⟩⟩
/-- something is laid that nobody tracks here -/
theorem Own.laid {p : Addr} {o : HO} (O : Own K w mu H) (h : H p = none) : Own K w mu (upd H p o) := by
  have nG : w.G p = none := O.subG.nn h
  have nF : w.F p = none := O.sub.nn h
  refine ⟨O.sub.up nF, O.subG.up nG, O.dis, O.len, fun l c e => ?_, O.inj⟩
  obtain ⟨a, h1, h2, h3, h4⟩ := O.cell l c e
  have ne : a ≠ p := by
    rintro rfl
    cases c with
    | lst vs => obtain ⟨xs, z, _⟩ := h4; rw [h] at z; cases z
    | dct q kvs => obtain ⟨xs, o, z, _⟩ := h4; rw [h] at z; cases z
  exact ⟨a, h1, h2, h3, h4.mono Sub.rfl' ⟨[], by simp⟩ (upd_ne ne)⟩
end

/-! ### meanings and their readings -/
abbrev Ex := En → Mu → Option (Val × Mu)
abbrev Tx := En → Mu → Option (Bool × Mu)
abbrev Ax := En → Mu → Option (List Val × Mu)
abbrev Fx := En → Mu → Option (Cell × Mu)
inductive Fl where
  | nx (env : En) (mu : Mu) | rt (v : Val) (mu : Mu) | bk (env : En) (mu : Mu) | ct (env : En) (mu : Mu)
abbrev Sx := En → Mu → Option Fl
section
variable (K : Kc)
def tE (m : Ex) : TE := fun σ H Q => ∃ w env mu v mu', Slots K w env σ ∧ Own K w mu H ∧ m env mu = some (v, mu') ∧ ∀ w' x H', Ext w w' → Own K w' mu' H' → RV K w' x v → Q x H'
def tT (m : Tx) : TT := fun σ H Q => ∃ w env mu b mu', Slots K w env σ ∧ Own K w mu H ∧ m env mu = some (b, mu') ∧ ∀ w' H', Ext w w' → Own K w' mu' H' → Q b H'
def tA (m : Ax) : TA := fun σ H Q => ∃ w env mu vs mu', Slots K w env σ ∧ Own K w mu H ∧ m env mu = some (vs, mu') ∧ ∀ w' xs H', Ext w w' → Own K w' mu' H' → Paired (RV K w') xs vs → Q xs H'
/-- a new object of one's own, known to nobody yet -/
def Fresh (w : Wd) (mu : Mu) (a : Addr) : Prop := w.F a = none ∧ w.G a = none ∧ ∀ (l : Nat) (c : Cell), mu[l]? = some (some c) → w.r[l]? ≠ some a
def tF (m : Fx) : TE := fun σ H Q => ∃ w env mu c mu', Slots K w env σ ∧ Own K w mu H ∧ m env mu = some (c, mu') ∧ ∀ w' a H', Ext w w' → Own K w' mu' H' → Fresh w' mu' a → CellOk K w' H' a c → Q (.ref a) H'
def EndsAt (w : Wd) (D : Ends) : Fl → Prop
  | .nx env mu => ∀ w' σ' H', Ext w w' → Slots K w' env σ' → Own K w' mu H' → D.nx σ' H'
  | .bk env mu => ∀ w' σ' H', Ext w w' → Slots K w' env σ' → Own K w' mu H' → D.bk σ' H'
  | .ct env mu => ∀ w' σ' H', Ext w w' → Slots K w' env σ' → Own K w' mu H' → D.ct σ' H'
  | .rt v mu => ∀ w' x H', Ext w w' → Own K w' mu H' → RV K w' x v → D.rt x H'
def tS (m : Sx) : TS := fun D σ H => ∃ w env mu fl, Slots K w env σ ∧ Own K w mu H ∧ m env mu = some fl ∧ EndsAt K w D fl
end
section
variable (X : Cx)
def DE (e : Expr) (m : Ex) : Prop := PE X e (tE X.kc m)
def DF (e : Expr) (m : Fx) : Prop := PE X e (tF X.kc m)
def DT (e : Expr) (m : Tx) : Prop := PT X e (tT X.kc m)
def DA (es : List Expr) (m : Ax) : Prop := PA X es (tA X.kc m)
def DS (st : Stmt) (m : Sx) : Prop := PS X st (tS X.kc m)
def DSs (st : List Stmt) (m : Sx) : Prop := PSs X st (tS X.kc m)
end
section
variable {X : Cx} {e : Expr} {st : Stmt} {sts : List Stmt} {es : List Expr}
theorem _root_.L2.PE.imp {t t' : TE} (h : PE X e t) (i : ∀ σ H Q, t' σ H Q → t σ H Q) : PE X e t' := ⟨fun pins s σ H Q I q => h.run pins s σ H Q I (i σ H Q q)⟩
theorem _root_.L2.PT.imp {t t' : TT} (h : PT X e t) (i : ∀ σ H Q, t' σ H Q → t σ H Q) : PT X e t' := ⟨fun pins s σ H Q I q => h.run pins s σ H Q I (i σ H Q q)⟩
theorem _root_.L2.PA.imp {t t' : TA} (h : PA X es t) (i : ∀ σ H Q, t' σ H Q → t σ H Q) : PA X es t' := ⟨fun pos pins s σ H Q I q => h.run pos pins s σ H Q I (i σ H Q q)⟩
theorem _root_.L2.PS.imp {t t' : TS} (h : PS X st t) (i : ∀ D σ H, t' D σ H → t D σ H) : PS X st t' := ⟨fun pins s σ H D I q => h.run pins s σ H D I (i D σ H q)⟩
theorem _root_.L2.PSs.imp {t t' : TS} (h : PSs X sts t) (i : ∀ D σ H, t' D σ H → t D σ H) : PSs X sts t' := ⟨fun pins s σ H D I q => h.run pins s σ H D I (i D σ H q)⟩
end
theorem EndsAt.mono {K : Kc} {w w' : Wd} {D : Ends} {fl : Fl} (e : Ext w w') (h : EndsAt K w D fl) : EndsAt K w' D fl := by
  cases fl with
  | nx env mu => exact fun w2 σ H x => h w2 σ H (e.trans x)
  | bk env mu => exact fun w2 σ H x => h w2 σ H (e.trans x)
  | ct env mu => exact fun w2 σ H x => h w2 σ H (e.trans x)
  | rt v mu => exact fun w2 y H x => h w2 y H (e.trans x)
end Vi

set_option Elab.async false
set_option linter.all false
set_option maxRecDepth 100000
set_option maxHeartbeats 4000000
/-! Vi1: expressions. -/
namespace Vi
open PySem PySem.Spec PyProof.Rows L2
/-! ### pairs -/
section
variable {α β γ : Type} {R S : α → β → Prop}
theorem Pd.get : ∀ {xs : List α} {ys : List β} {i : Nat} {y : β}, Paired R xs ys → ys[i]? = some y → ∃ x, xs[i]? = some x ∧ R x y
  | _, _, _, _, .nil, e => by simp at e
  | _, _, 0, _, .cons h _, e => by simp at e; subst e; exact ⟨_, rfl, h⟩
  | _, _, i + 1, y, .cons _ r, e => by
    obtain ⟨v, h1, h2⟩ := Pd.get (i := i) (y := y) r (by simpa using e)
    exact ⟨v, by simpa using h1, h2⟩
theorem Pd.append : ∀ {xs xs' : List α} {ys ys' : List β}, Paired R xs ys → Paired R xs' ys' → Paired R (xs ++ xs') (ys ++ ys')
  | _, _, _, _, .nil, s => s
  | _, _, _, _, .cons h r, s => .cons h (Pd.append r s)
theorem Pd.take : ∀ {xs : List α} {ys : List β} (n : Nat), Paired R xs ys → Paired R (xs.take n) (ys.take n)
  | _, _, 0, _ => .nil
  | _, _, _ + 1, .nil => .nil
  | _, _, n + 1, .cons h r => .cons h (Pd.take n r)
theorem Pd.drop : ∀ {xs : List α} {ys : List β} (n : Nat), Paired R xs ys → Paired R (xs.drop n) (ys.drop n)
  | _, _, 0, r => r
  | _, _, _ + 1, .nil => .nil
  | _, _, n + 1, .cons _ r => Pd.drop n r
theorem Pd.reverse : ∀ {xs : List α} {ys : List β}, Paired R xs ys → Paired R xs.reverse ys.reverse
  | _, _, .nil => .nil
  | _, _, .cons h r => by
    rw [List.reverse_cons, List.reverse_cons]
    exact Pd.append (Pd.reverse r) (.cons h .nil)
theorem Pd.rep {xs : List α} {ys : List β} (h : Paired R xs ys) : ∀ k : Nat, Paired R (List.replicate k xs).flatten (List.replicate k ys).flatten
  | 0 => .nil
  | k + 1 => by
    rw [List.replicate_succ, List.replicate_succ, List.flatten_cons, List.flatten_cons]
    exact Pd.append h (Pd.rep h k)
theorem Pd.set {x : α} {y : β} (h : R x y) : ∀ {xs : List α} {ys : List β} (i : Nat), Paired R xs ys → Paired R (xs.set i x) (ys.set i y)
  | _, _, _, .nil => .nil
  | _, _, 0, .cons _ t => .cons h t
  | _, _, i + 1, .cons q t => .cons q (Pd.set h i t)
end
section
variable {K : Kc} {w w' : Wd} {H H' : Hp} {x : V} {v : Val} {mu : Mu} {env : En} {σ : L2.St}
theorem Pd.ofRep : ∀ {xs : List V} {ds : List T}, RepAll K w.F xs ds → Paired (RC K w) xs (ds.map Val.t)
  | _, _, .nil => .nil
  | _, _, .cons h r => .cons ⟨h, fun d e => nomatch e⟩ (Pd.ofRep r)
theorem Pd.toRep : ∀ {xs : List V} {ds : List T}, Paired (RC K w) xs (ds.map Val.t) → RepAll K w.F xs ds
  | [], [], .nil => .nil
  | _ :: _, _ :: _, .cons h r => .cons h.1 (Pd.toRep r)
theorem Pd.toRep' : ∀ {xs : List V} {ds : List T}, Paired (RV K w) xs (ds.map Val.t) → RepAll K w.F xs ds
  | [], [], .nil => .nil
  | _ :: _, _ :: _, .cons h r => .cons h (Pd.toRep' r)
theorem Pd.rv {xs : List V} {vs : List Val} (h : Paired (RC K w) xs vs) : Paired (RV K w) xs vs := Paired.mapP h fun _ _ z => z.1
theorem Pd.monoV {xs : List V} {vs : List Val} (e : Ext w w') (h : Paired (RV K w) xs vs) : Paired (RV K w') xs vs := Paired.mapP h fun _ _ z => z.mono e
theorem Pd.monoC {xs : List V} {vs : List Val} (e : Ext w w') (h : Paired (RC K w) xs vs) : Paired (RC K w') xs vs := Paired.mapP h fun _ _ z => z.mono e.F e.r
/-- the values, all of them data -/
@[simp] def datas : List Val → Option (List T)
  | [] => some []
  | .t d :: vs => (datas vs).map (d :: ·)
  | _ :: _ => none
theorem datas_eq : ∀ {vs : List Val} {ds : List T}, datas vs = some ds → vs = ds.map Val.t
  | [], _, h => by simp [datas] at h; subst h; rfl
  | .t d :: vs, ds, h => by
    simp only [datas, Option.map_eq_some_iff] at h
    obtain ⟨es, h1, rfl⟩ := h
    rw [datas_eq h1]; rfl
  | .bor _ :: _, _, h => by simp [datas] at h
  | .lab _ :: _, _, h => by simp [datas] at h
theorem datas_map (ds : List T) : datas (ds.map Val.t) = some ds := by
  induction ds with
  | nil => rfl
  | cons d ds ih => simp [datas, ih]
/-- a list to be read -/
@[simp] def lv : Val → Mu → Option (List Val)
  | .t (.list ds), _ => some (ds.map .t)
  | .bor (.list ds), _ => some (ds.map .t)
  | .lab l, mu => match mu[l]? with
    | some (some (.lst vs)) => some vs
    | _ => none
  | _, _ => none
theorem lv_ok {vs : List Val} (O : Own K w mu H) (r : RV K w x v) (h : lv v mu = some vs) : ∃ a xs, x = .ref a ∧ SqL K.k H a xs ∧ Paired (RC K w) xs vs := by
  unfold lv at h
  split at h
  · cases h
    cases r with
    | lst h1 r2 => exact ⟨_, _, rfl, .inl (.inl (O.sub _ _ h1)), Pd.ofRep r2⟩
  · cases h
    rcases r with r | ⟨a, xs, ds, e, ex, h, r⟩ | ⟨a, q, keys, xs, o, ds, e, _⟩
    · cases r with
      | lst h1 r2 => exact ⟨_, _, rfl, .inl (.inl (O.sub _ _ h1)), Pd.ofRep r2⟩
    · cases e
      exact ⟨a, xs, ex, h.elim (fun z => sqL_sub O.sub z) (fun z => .inl (.inl (O.subG _ _ z))), Pd.ofRep r⟩
    · cases e
  · obtain ⟨a, ha, ex⟩ := r
    split at h
    · rename_i us hc
      cases h
      obtain ⟨a', ha', _, _, xs, h1, h2⟩ := O.cell _ _ hc
      rw [ha] at ha'; cases ha'
      exact ⟨a, xs, ex, .inl (.inl h1), h2⟩
    · cases h
  · cases h
/-- a list that is tracked as one -/
@[simp] def lvM : Val → Mu → Option (List Val)
  | .t (.list ds), _ => some (ds.map .t)
  | .lab l, mu => match mu[l]? with
    | some (some (.lst vs)) => some vs
    | _ => none
  | _, _ => none
theorem lvM_ok {vs : List Val} (O : Own K w mu H) (r : RV K w x v) (h : lvM v mu = some vs) : ∃ a xs, x = .ref a ∧ H a = some (.lst xs) ∧ Paired (RC K w) xs vs := by
  unfold lvM at h
  split at h
  · cases h
    cases r with
    | lst h1 r2 => exact ⟨_, _, rfl, O.sub _ _ h1, Pd.ofRep r2⟩
  · obtain ⟨a, ha, ex⟩ := r
    split at h
    · rename_i us hc
      cases h
      obtain ⟨a', ha', _, _, xs, h1, h2⟩ := O.cell _ _ hc
      rw [ha] at ha'; cases ha'
      exact ⟨a, xs, ex, h1, h2⟩
    · cases h
  · cases h
/-- the keys and values of a dict to be read -/
def dv : Val → Mu → Option (DK × List (T × Val))
  | .lab l, mu => match mu[l]? with
    | some (some (.dct q kvs)) => some (q, kvs)
    | _ => none
  | _, _ => none
end
section
variable {X : Cx} {K : Kc}
/-! ### names, constants -/
@[simp] def eVar (i : Nat) : Ex := fun env mu => match env[i]? with
  | some (some v) => some (v, mu)
  | _ => none
@[simp] def eC (d : T) : Ex := fun _ mu => some (.t d, mu)
theorem tE_var {i : Nat} {σ : L2.St} {H : Hp} {Q : VK} (h : tE K (eVar i) σ H Q) : tVar i σ H Q := by
  obtain ⟨w, env, mu, v, mu', S, O, e, q⟩ := h
  unfold eVar at e
  split at e
  · rename_i v' hv
    cases e
    obtain ⟨x, hx, r⟩ := S.at_ i _ hv
    exact ⟨x, hx, q w x H (Ext.refl w) O r⟩
  · cases e
theorem de_var {i : Nat} {x : Str} {pos : Pos} (hN : X.N[i]? = some x) (hv : Vis X.env.scope x) (hd : (x == ("__debug__" : Str)) = false := by decide) (hcd : (x == ("__classdict__" : Str)) = false := by decide) : DE X (.Name x pos) (eVar i) :=
  (pe_var hN hv hd hcd).imp fun _ _ _ h => tE_var h
theorem tE_c {v : V} {d : T} {σ : L2.St} {H : Hp} {Q : VK} (hr : ∀ F, Rep K F v d) (h : tE K (eC d) σ H Q) : tC v σ H Q := by
  obtain ⟨w, env, mu, v', mu', S, O, e, q⟩ := h
  cases e
  exact q w v H (Ext.refl w) O (hr _)
theorem de_int {i j pos} : DE X (.Constant (.int i) j pos) (eC (.int i)) := pe_int.imp fun _ _ _ h => tE_c (fun _ => .int i) h
theorem de_bl {b j pos} : DE X (.Constant (.bool b) j pos) (eC (.bool b)) := pe_bl.imp fun _ _ _ h => tE_c (fun _ => .bl b) h
theorem de_non {j pos} : DE X (.Constant .none j pos) (eC .none) := pe_non.imp fun _ _ _ h => tE_c (fun _ => .non) h
theorem de_str {x j pos} : DE X (.Constant (.str x) j pos) (eC (.str x)) := pe_str.imp fun _ _ _ h => tE_c (fun _ => .str x) h

/-! ### two values -/
abbrev G2 := Val → Val → Mu → Option (Val × Mu)
@[simp] def eOp (g : G2) (a b : Ex) : Ex := fun env mu => match a env mu with
  | some (va, mu1) => (match b env mu1 with
    | some (vb, mu2) => g va vb mu2
    | none => none)
  | none => none
/-- g says what r asks -/
def OpV (K : Kc) (r : R2) (g : G2) : Prop := ∀ (w : Wd) (mu : Mu) (H : Hp) (x y : V) (va vb v : Val) (mu' : Mu) (Q : VK), Own K w mu H → RV K w x va → RV K w y vb → g va vb mu = some (v, mu') →
  (∀ w' z H', Ext w w' → Own K w' mu' H' → RV K w' z v → Q z H') → r x y H Q
theorem tE_op {r : R2} {g : G2} {a b : Ex} (hg : OpV K r g) {σ : L2.St} {H : Hp} {Q : VK} (h : tE K (eOp g a b) σ H Q) : tOp r (tE K a) (tE K b) σ H Q := by
  obtain ⟨w, env, mu, v, mu', S, O, e, q⟩ := h
  unfold eOp at e
  split at e
  · rename_i va mu1 ea
    split at e
    · rename_i vb mu2 eb
      refine ⟨w, env, mu, va, _, S, O, ea, fun w1 x H1 x1 O1 r1 => ?_⟩
      refine ⟨w1, env, mu1, vb, _, S.mono x1, O1, eb, fun w2 y H2 x2 O2 r2 => ?_⟩
      exact hg w2 mu2 H2 x y va vb v mu' Q O2 (r1.mono x2) r2 e fun w3 z H3 x3 O3 r3 => q w3 z H3 ((x1.trans x2).trans x3) O3 r3
    · cases e
  · cases e
theorem de_op {op : Operator} {r : R2} {g : G2} {a b : Expr} {ma mb : Ex} {pos : Pos} (ho : OpR X (binaryOp op) r) (hg : OpV X.kc r g) (ha : DE X a ma) (hb : DE X b mb) : DE X (.BinOp a op b pos) (eOp g ma mb) :=
  (pe_op ho ha hb).imp fun _ _ _ h => tE_op hg h
theorem de_cmp {op : CmpOp} {r : R2} {g : G2} {a b : Expr} {ma mb : Ex} {pos : Pos} (ho : OpR X (compareOp op) r) (hg : OpV X.kc r g) (ha : DE X a ma) (hb : DE X b mb) (hm : behindInMarks op b = false) : DE X (.Compare a [op] [b] pos) (eOp g ma mb) :=
  (pe_cmpR ho ha hb hm).imp fun _ _ _ h => tE_op hg h
/-- a test of a comparison -/
@[simp] def cB (m : Ex) : Tx := fun env mu => match m env mu with
  | some (.t (.bool b), mu1) => some (b, mu1)
  | _ => none
theorem tT_B {m : Ex} {σ : L2.St} {H : Hp} {Q : Bool → Hp → Prop} (h : tT K (cB m) σ H Q) : tE K m σ H fun x H1 => ∃ c, x = .bl c ∧ Q c H1 := by
  obtain ⟨w, env, mu, b, mu', S, O, e, q⟩ := h
  unfold cB at e
  split at e
  · rename_i b' mu1 em
    cases e
    refine ⟨w, env, mu, _, _, S, O, em, fun w1 x H1 x1 O1 r1 => ?_⟩
    cases r1
    exact ⟨_, rfl, q w1 H1 x1 O1⟩
  · cases e
theorem dt_cmp {op : CmpOp} {r : R2} {g : G2} {a b : Expr} {ma mb : Ex} {pos : Pos} (ho : OpR X (compareOp op) r) (hg : OpV X.kc r g) (ha : DE X a ma) (hb : DE X b mb) (hm : behindInMarks op b = false) : DT X (.Compare a [op] [b] pos) (cB (eOp g ma mb)) :=
  (pt_cmpR ho ha hb hm).imp fun σ H Q h => tE_op hg (tT_B h)
theorem dt_val {e : Expr} {m : Ex} (h : DE X e m) (he : ∀ whole, isTrue e X.env whole = (do let v ← whole; standAt e.pos; holding [v] (truthy v)) := by intro _; rfl) : DT X e (cB m) :=
  (pt_val h he).imp fun σ H Q h => tT_B h

/-! #### ints and texts -/
def rAddV : R2 := fun x y H Q => (∃ i j, x = .int i ∧ y = .int j ∧ Q (.int (i + j)) H) ∨ (∃ i j, x = .str i ∧ y = .str j ∧ i.length + j.length ≤ sizeLine ∧ Q (.str (i ++ j)) H)
theorem opr_add : OpR X (binaryOp .Add) rAddV := OpR.or op_add op_add_str
/-- texts are held below this -/
def textLine : Nat := 100000
theorem text_line {n : Nat} (h : n ≤ textLine) : n ≤ sizeLine := Nat.le_trans h (by rw [sizeLine_eq]; decide)
@[simp] def gAdd : G2 := fun a b mu => match a, b with
  | .t (.int i), .t (.int j) => some (.t (.int (i + j)), mu)
  | .t (.str i), .t (.str j) => if i.length + j.length ≤ textLine then some (.t (.str (i ++ j)), mu) else none
  | _, _ => none
theorem opv_add : OpV K rAddV gAdd := by
  intro w mu H x y va vb v mu' Q O ra rb e q
  unfold gAdd at e
  split at e
  · cases e
    cases ra; cases rb
    exact .inl ⟨_, _, rfl, rfl, q w _ H (Ext.refl w) O (.int _)⟩
  · split at e
    · rename_i hl
      cases e
      cases ra; cases rb
      exact .inr ⟨_, _, rfl, rfl, text_line hl, q w _ H (Ext.refl w) O (.str _)⟩
    · cases e
  · cases e
/-- two ints by a function -/
def gI (c : Int → Int → Bool) (f : Int → Int → Int) : G2 := fun a b mu => match a, b with
  | .t (.int i), .t (.int j) => if c i j then some (.t (.int (f i j)), mu) else none
  | _, _ => none
def gIc (f : Int → Int → Bool) : G2 := fun a b mu => match a, b with
  | .t (.int i), .t (.int j) => some (.t (.bool (f i j)), mu)
  | _, _ => none
theorem opv_I {C : Int → Int → Prop} {c : Int → Int → Bool} {f : Int → Int → Int} (h : ∀ i j, c i j = true → C i j) : OpV K (rI C fun i j => .int (f i j)) (gI c f) := by
  intro w mu H x y va vb v mu' Q O ra rb e q
  unfold gI at e
  split at e
  · split at e
    · rename_i hc
      cases e
      cases ra; cases rb
      exact ⟨_, _, rfl, rfl, h _ _ hc, q w _ H (Ext.refl w) O (.int _)⟩
    · cases e
  · cases e
theorem opv_I0 {f : Int → Int → Int} : OpV K (rI0 fun i j => .int (f i j)) (gI (fun _ _ => true) f) := by
  intro w mu H x y va vb v mu' Q O ra rb e q
  unfold gI at e
  split at e
  · cases e
    cases ra; cases rb
    exact ⟨_, _, rfl, rfl, q w _ H (Ext.refl w) O (.int _)⟩
  · cases e
theorem opv_Ic {f : Int → Int → Bool} : OpV K (rI0 fun i j => .bl (f i j)) (gIc f) := by
  intro w mu H x y va vb v mu' Q O ra rb e q
  unfold gIc at e
  split at e
  · cases e
    cases ra; cases rb
    exact ⟨_, _, rfl, rfl, q w _ H (Ext.refl w) O (.bl _)⟩
  · cases e
abbrev gSub : G2 := gI (fun _ _ => true) (· - ·)
def gMul : G2 := gI (fun i j => decide (-(2 ^ 64) < i ∧ i < 2 ^ 64) || decide (-(2 ^ 64) < j ∧ j < 2 ^ 64)) (· * ·)
theorem opv_mul : OpV K (rI CMul fun i j => .int (i * j)) gMul := opv_I fun i j h => by
  simp only [Bool.or_eq_true, decide_eq_true_eq] at h
  exact h
def gDiv : G2 := gI (fun i j => decide (0 < j ∧ j < 1073741824)) (· / ·)
theorem opv_div : OpV K (rI CDiv fun i j => .int (i / j)) gDiv := opv_I fun i j h => (of_decide_eq_true h : 0 < j ∧ j < 1073741824)
def gMod : G2 := gI (fun i j => decide (0 < j)) (· % ·)
theorem opv_mod : OpV K (rI (fun _ j => 0 < j) fun i j => .int (i % j)) gMod := opv_I fun i j h => of_decide_eq_true h
def gPow : G2 := gI (fun i j => decide (0 ≤ j ∧ j ≤ 1000000) && decide (i.natAbs < 2 ^ 64)) fun i j => i ^ j.toNat
theorem opv_pow : OpV K (rI CPow fun i j => .int (i ^ j.toNat)) gPow := opv_I fun i j h => by
  simp only [Bool.and_eq_true, decide_eq_true_eq] at h
  exact ⟨h.1.1, h.1.2, h.2⟩
theorem opv_sub : OpV K (rI0 fun i j => .int (i - j)) gSub := opv_I0
def gLt : G2 := gIc fun i j => decide (i < j)
def gLe : G2 := gIc fun i j => decide (i ≤ j)
def gGt : G2 := gIc fun i j => decide (j < i)
def gGe : G2 := gIc fun i j => decide (j ≤ i)
theorem opv_lt : OpV K (rI0 fun i j => .bl (decide (i < j))) gLt := opv_Ic
theorem opv_le : OpV K (rI0 fun i j => .bl (decide (i ≤ j))) gLe := opv_Ic
theorem opv_gt : OpV K (rI0 fun i j => .bl (decide (j < i))) gGt := opv_Ic
theorem opv_ge : OpV K (rI0 fun i j => .bl (decide (j ≤ i))) gGe := opv_Ic

/-! #### is None -/
@[simp] def isNonT : T → Bool
  | .none => true
  | _ => false
@[simp] def isNon : Val → Bool
  | .t d => isNonT d
  | .bor d => isNonT d
  | .lab _ => false
@[simp] def gIsN (k : Bool) : G2 := fun a b mu => match b with
  | .t .none => some (.t (.bool (if k then isNon a else !isNon a)), mu)
  | _ => none
theorem rep_non {F : Hp} {x : V} {d : T} (r : Rep K F x d) : decide (x = .non) = isNonT d := by
  cases r <;> rfl
theorem rv_non {w : Wd} {x : V} {v : Val} (r : RV K w x v) : decide (x = .non) = isNon v := by
  cases v with
  | t d => exact rep_non r
  | bor d =>
    rcases r with r | ⟨a, xs, ds, rfl, rfl, _⟩ | ⟨a, q, keys, xs, o, ds, rfl, rfl, _⟩
    · exact rep_non r
    · rfl
    · rfl
  | lab l => obtain ⟨a, _, rfl⟩ := r; rfl
theorem opv_isN : OpV K (fun x y H Q => y = .non ∧ Q (.bl (decide (x = .non))) H) (gIsN true) := by
  intro w mu H x y va vb v mu' Q O ra rb e q
  have z := rv_non ra
  unfold gIsN at e
  split at e
  · cases e; cases rb
    exact ⟨rfl, q w _ H (Ext.refl w) O (by rw [z]; exact .bl _)⟩
  · cases e
theorem opv_notN : OpV K (fun x y H Q => y = .non ∧ Q (.bl (!decide (x = .non))) H) (gIsN false) := by
  intro w mu H x y va vb v mu' Q O ra rb e q
  have z := rv_non ra
  unfold gIsN at e
  split at e
  · cases e; cases rb
    exact ⟨rfl, q w _ H (Ext.refl w) O (by rw [z]; exact .bl _)⟩
  · cases e

/-! ### and, or, not, if -/
@[simp] def eAnd (a b : Ex) : Ex := fun env mu => match a env mu with
  | some (.t (.bool true), mu1) => b env mu1
  | some (.t (.bool false), mu1) => some (.t (.bool false), mu1)
  | _ => none
@[simp] def eOr (a b : Ex) : Ex := fun env mu => match a env mu with
  | some (.t (.bool true), mu1) => some (.t (.bool true), mu1)
  | some (.t (.bool false), mu1) => b env mu1
  | _ => none
@[simp] def eNot (a : Ex) : Ex := fun env mu => match a env mu with
  | some (.t (.bool c), mu1) => some (.t (.bool (!c)), mu1)
  | _ => none
@[simp] def eIf (c : Tx) (a b : Ex) : Ex := fun env mu => match c env mu with
  | some (true, mu1) => a env mu1
  | some (false, mu1) => b env mu1
  | none => none
@[simp] def cAnd (a b : Tx) : Tx := fun env mu => match a env mu with
  | some (true, mu1) => b env mu1
  | some (false, mu1) => some (false, mu1)
  | none => none
@[simp] def cOr (a b : Tx) : Tx := fun env mu => match a env mu with
  | some (true, mu1) => some (true, mu1)
  | some (false, mu1) => b env mu1
  | none => none
@[simp] def cNot (a : Tx) : Tx := fun env mu => match a env mu with
  | some (c, mu1) => some (!c, mu1)
  | none => none
variable {a b c : Expr} {ma mb : Ex} {na nb nc : Tx} {rest : List Expr} {pos : Pos}
theorem de_and1 {op} (ha : DE X a ma) : DE X (.BoolOp op [a] pos) ma := pe_one ha
theorem de_and (ha : DE X a ma) (hb : DE X (.BoolOp .And (b :: rest) pos) mb) : DE X (.BoolOp .And (a :: b :: rest) pos) (eAnd ma mb) := by
  refine (pe_and ha hb).imp fun σ H Q h => ?_
  obtain ⟨w, env, mu, v, mu', S, O, e, q⟩ := h
  unfold eAnd at e
  split at e
  · rename_i mu1 ea
    refine ⟨w, env, mu, _, _, S, O, ea, fun w1 x H1 x1 O1 r1 => ?_⟩
    cases r1
    exact ⟨true, rfl, w1, env, mu1, v, mu', S.mono x1, O1, e, fun w2 z H2 x2 => q w2 z H2 (x1.trans x2)⟩
  · rename_i mu1 ea
    cases e
    refine ⟨w, env, mu, _, _, S, O, ea, fun w1 x H1 x1 O1 r1 => ?_⟩
    cases r1
    exact ⟨false, rfl, q w1 _ H1 x1 O1 (.bl _)⟩
  · cases e
theorem de_or (ha : DE X a ma) (hb : DE X (.BoolOp .Or (b :: rest) pos) mb) : DE X (.BoolOp .Or (a :: b :: rest) pos) (eOr ma mb) := by
  refine (pe_or ha hb).imp fun σ H Q h => ?_
  obtain ⟨w, env, mu, v, mu', S, O, e, q⟩ := h
  unfold eOr at e
  split at e
  · rename_i mu1 ea
    cases e
    refine ⟨w, env, mu, _, _, S, O, ea, fun w1 x H1 x1 O1 r1 => ?_⟩
    cases r1
    exact ⟨true, rfl, q w1 _ H1 x1 O1 (.bl _)⟩
  · rename_i mu1 ea
    refine ⟨w, env, mu, _, _, S, O, ea, fun w1 x H1 x1 O1 r1 => ?_⟩
    cases r1
    exact ⟨false, rfl, w1, env, mu1, v, mu', S.mono x1, O1, e, fun w2 z H2 x2 => q w2 z H2 (x1.trans x2)⟩
  · cases e
theorem de_not (ha : DE X a ma) : DE X (.UnaryOp .Not a pos) (eNot ma) := by
  refine (pe_not ha).imp fun σ H Q h => ?_
  obtain ⟨w, env, mu, v, mu', S, O, e, q⟩ := h
  unfold eNot at e
  split at e
  · rename_i c mu1 ea
    cases e
    refine ⟨w, env, mu, _, _, S, O, ea, fun w1 x H1 x1 O1 r1 => ?_⟩
    cases r1
    exact ⟨c, rfl, q w1 _ H1 x1 O1 (.bl _)⟩
  · cases e
theorem de_if (hc : DT X c nc) (ha : DE X a ma) (hb : DE X b mb) : DE X (.IfExp c a b pos) (eIf nc ma mb) := by
  refine (pe_ifExp hc ha hb).imp fun σ H Q h => ?_
  obtain ⟨w, env, mu, v, mu', S, O, e, q⟩ := h
  unfold eIf at e
  split at e
  · rename_i mu1 ea
    refine ⟨w, env, mu, _, _, S, O, ea, fun w1 H1 x1 O1 => ?_⟩
    exact ⟨w1, env, mu1, v, mu', S.mono x1, O1, e, fun w2 z H2 x2 => q w2 z H2 (x1.trans x2)⟩
  · rename_i mu1 ea
    refine ⟨w, env, mu, _, _, S, O, ea, fun w1 H1 x1 O1 => ?_⟩
    exact ⟨w1, env, mu1, v, mu', S.mono x1, O1, e, fun w2 z H2 x2 => q w2 z H2 (x1.trans x2)⟩
  · cases e
def DW (X : Cx) (e : Expr) (m : Tx) : Prop := PW X e (tT X.kc m)
theorem _root_.L2.PW.imp {e : Expr} {t t' : TT} (h : PW X e t) (i : ∀ σ H Q, t' σ H Q → t σ H Q) : PW X e t' := ⟨fun wh pins s σ H Q I q => h.run wh pins s σ H Q I (i σ H Q q)⟩
theorem dw_and1 (ha : DT X a na) : DW X (.BoolOp .And [a] pos) na := pw_and1 ha
theorem dw_or1 (ha : DT X a na) : DW X (.BoolOp .Or [a] pos) na := pw_or1 ha
theorem tT_and {σ : L2.St} {H : Hp} {Q : Bool → Hp → Prop} (h : tT K (cAnd na nb) σ H Q) : tAnd (tT K na) (tT K nb) σ H Q := by
  obtain ⟨w, env, mu, v, mu', S, O, e, q⟩ := h
  unfold cAnd at e
  split at e
  · rename_i mu1 ea
    refine ⟨w, env, mu, _, _, S, O, ea, fun w1 H1 x1 O1 => ?_⟩
    exact ⟨w1, env, mu1, v, mu', S.mono x1, O1, e, fun w2 H2 x2 => q w2 H2 (x1.trans x2)⟩
  · rename_i mu1 ea
    cases e
    refine ⟨w, env, mu, _, _, S, O, ea, fun w1 H1 x1 O1 => ?_⟩
    exact q w1 H1 x1 O1
  · cases e
theorem tT_or {σ : L2.St} {H : Hp} {Q : Bool → Hp → Prop} (h : tT K (cOr na nb) σ H Q) : tOr (tT K na) (tT K nb) σ H Q := by
  obtain ⟨w, env, mu, v, mu', S, O, e, q⟩ := h
  unfold cOr at e
  split at e
  · rename_i mu1 ea
    cases e
    refine ⟨w, env, mu, _, _, S, O, ea, fun w1 H1 x1 O1 => ?_⟩
    exact q w1 H1 x1 O1
  · rename_i mu1 ea
    refine ⟨w, env, mu, _, _, S, O, ea, fun w1 H1 x1 O1 => ?_⟩
    exact ⟨w1, env, mu1, v, mu', S.mono x1, O1, e, fun w2 H2 x2 => q w2 H2 (x1.trans x2)⟩
  · cases e
theorem dw_and (ha : DT X a na) (hb : DW X (.BoolOp .And (b :: rest) pos) nb) : DW X (.BoolOp .And (a :: b :: rest) pos) (cAnd na nb) := PW.imp (pw_and ha hb) fun _ _ _ h => tT_and h
theorem dw_or (ha : DT X a na) (hb : DW X (.BoolOp .Or (b :: rest) pos) nb) : DW X (.BoolOp .Or (a :: b :: rest) pos) (cOr na nb) := PW.imp (pw_or ha hb) fun _ _ _ h => tT_or h
theorem dt_w {e : Expr} {m : Tx} (h : DW X e m) : DT X e m := PW.pt h
theorem dt_not (ha : DT X a na) : DT X (.UnaryOp .Not a pos) (cNot na) := by
  refine (pt_not ha).imp fun σ H Q h => ?_
  obtain ⟨w, env, mu, v, mu', S, O, e, q⟩ := h
  unfold cNot at e
  split at e
  · rename_i c mu1 ea
    cases e
    exact ⟨w, env, mu, _, _, S, O, ea, fun w1 H1 x1 O1 => q w1 H1 x1 O1⟩
  · cases e

/-! ### several values -/
@[simp] def aNil : Ax := fun _ mu => some ([], mu)
@[simp] def aCons (m : Ex) (r : Ax) : Ax := fun env mu => match m env mu with
  | some (v, mu1) => (match r env mu1 with
    | some (vs, mu2) => some (v :: vs, mu2)
    | none => none)
  | none => none
theorem da_nil : DA X [] aNil := pa_nil.imp fun σ H Q h => by
  obtain ⟨w, env, mu, v, mu', S, O, e, q⟩ := h
  cases e
  exact q w [] H (Ext.refl w) O .nil
theorem da_cons {e : Expr} {es : List Expr} {m : Ex} {r : Ax} (he : DE X e m) (hr : DA X es r) (hs : starEach (e :: es) X.env = (false, eval e X.env) :: starEach es X.env := by rfl) : DA X (e :: es) (aCons m r) := (pa_cons he hr hs).imp fun σ H Q h => by
  obtain ⟨w, env, mu, v, mu', S, O, e, q⟩ := h
  unfold aCons at e
  split at e
  · rename_i va mu1 ea
    split at e
    · rename_i vb mu2 eb
      cases e
      refine ⟨w, env, mu, va, _, S, O, ea, fun w1 x H1 x1 O1 r1 => ?_⟩
      refine ⟨w1, env, mu1, vb, _, S.mono x1, O1, eb, fun w2 xs H2 x2 O2 r2 => ?_⟩
      exact q w2 _ H2 (x1.trans x2) O2 (.cons (r1.mono x2) r2)
    · cases e
  · cases e
/-! ### new tuples, new lists -/
@[simp] def eTup (m : Ax) : Ex := fun env mu => match m env mu with
  | some (vs, mu1) => (match datas vs with
    | some ds => if ds.length ≤ textLine then some (.t (.tuple ds), mu1) else none
    | none => none)
  | none => none
theorem de_tup {es : List Expr} {k : Nat} {m : Ax} (h : DA X es m) : DE X (.Tuple es k pos) (eTup m) := (pe_tup h).imp fun σ H Q h => by
  obtain ⟨w, env, mu, v, mu', S, O, e, q⟩ := h
  unfold eTup at e
  split at e
  · rename_i vs mu1 ea
    split at e
    · rename_i ds ed
      split at e
      · rename_i hl
        cases e
        refine ⟨w, env, mu, vs, _, S, O, ea, fun w1 xs H1 x1 O1 r1 => ?_⟩
        rw [datas_eq ed] at r1
        have r2 := Pd.toRep' r1
        refine ⟨by rw [r2.length]; exact text_line hl, fun p hp => ?_⟩
        refine q _ _ _ (x1.trans (ext_laidF (O1.sub.nn hp))) (O1.laidF hp) ?_
        exact .tup upd_same (r2.mono (Sub.new (O1.sub.nn hp)))
      · cases e
    · cases e
  · cases e
/-- a new list as a cell -/
@[simp] def fLst (m : Ax) : Fx := fun env mu => match m env mu with
  | some (vs, mu1) => if vs.length ≤ textLine ∧ vs.all (fun v => match v with | .bor _ => false | _ => true) then some (.lst vs, mu1) else none
  | none => none
theorem rc_of {w : Wd} {xs : List V} {vs : List Val} (r : Paired (RV K w) xs vs) (h : vs.all (fun v => match v with | .bor _ => false | _ => true) = true) : Paired (RC K w) xs vs := by
  induction r with
  | nil => exact .nil
  | cons r1 r2 ih =>
    rw [List.all_cons, Bool.and_eq_true] at h
    refine .cons ⟨r1, fun d e => ?_⟩ (ih h.2)
    subst e
    exact absurd h.1 (by simp)
theorem fresh_new {w : Wd} {mu : Mu} {H : Hp} {p : Addr} (O : Own K w mu H) (hp : H p = none) : Fresh w mu p := by
  refine ⟨O.sub.nn hp, O.subG.nn hp, fun l c e z => ?_⟩
  obtain ⟨a, h1, _, _, h4⟩ := O.cell l c e
  rw [z] at h1; cases h1
  cases c with
  | lst vs => obtain ⟨xs, q, _⟩ := h4; rw [hp] at q; cases q
  | dct q kvs => obtain ⟨xs, o, q, _⟩ := h4; rw [hp] at q; cases q
theorem df_lst {es : List Expr} {m : Ax} (h : DA X es m) : DF X (.List es pos) (fLst m) := (pe_lst h).imp fun σ H Q h => by
  obtain ⟨w, env, mu, v, mu', S, O, e, q⟩ := h
  unfold fLst at e
  split at e
  · rename_i vs mu1 ea
    split at e
    · rename_i hl
      cases e
      refine ⟨w, env, mu, vs, _, S, O, ea, fun w1 xs H1 x1 O1 r1 => ?_⟩
      refine ⟨by rw [Paired.length r1]; exact text_line hl.1, fun p hp => ?_⟩
      exact q w1 p _ x1 (O1.laid hp) (fresh_new O1 hp) ⟨xs, upd_same, rc_of r1 hl.2⟩
    · cases e
  · cases e
/-- a new thing taken for good; taken as a cell of one's own -/
def cellT : Cell → Option T
  | .lst vs => (datas vs).map .list
  | .dct q kvs => if q = .n then none else (datas (kvs.map (·.2))).map fun ds => .dict ((kvs.map (·.1)).zip ds)
@[simp] def eFr (m : Fx) : Ex := fun env mu => match m env mu with
  | some (c, mu1) => (match cellT c with
    | some d => some (.t d, mu1)
    | none => none)
  | none => none
@[simp] def eOwn (m : Fx) : Ex := fun env mu => match m env mu with
  | some (c, mu1) => some (.lab mu1.length, mu1 ++ [some c])
  | none => none
theorem cell_rep {w : Wd} {H : Hp} {a : Addr} {c : Cell} {d : T} (h : CellOk K w H a c) (e : cellT c = some d) : ∃ o, H a = some o ∧ ∀ F, Sub w.F F → F a = some o → Rep K F (.ref a) d := by
  cases c with
  | lst vs =>
    obtain ⟨xs, h1, h2⟩ := h
    simp only [cellT, Option.map_eq_some_iff] at e
    obtain ⟨ds, e1, rfl⟩ := e
    rw [datas_eq e1] at h2
    exact ⟨_, h1, fun F s z => .lst z ((Pd.toRep h2).mono s)⟩
  | dct q kvs =>
    obtain ⟨xs, o, h1, h2, h3⟩ := h
    have e : (if q = .n then none else (datas (kvs.map (·.2))).map fun ds => PyData.dict ((kvs.map (·.1)).zip ds)) = some d := e
    split at e
    · cases e
    rename_i hq
    simp only [Option.map_eq_some_iff] at e
    obtain ⟨ds, e1, rfl⟩ := e
    rw [datas_eq e1] at h3
    exact ⟨_, h1, fun F s z => .dct hq h2 z ((Pd.toRep h3).mono s) rfl⟩
/-- one that is there comes to stand for good -/
theorem Own.freeze {w : Wd} {mu : Mu} {H : Hp} {a : Addr} {o : HO} (O : Own K w mu H) (f : Fresh w mu a) (h : H a = some o) : Own K { w with F := upd w.F a o } mu H := by
  obtain ⟨f1, f2, f3⟩ := f
  refine ⟨O.sub.up2 h, O.subG, fun b u e => ?_, O.len, fun l c e => ?_, O.inj⟩
  · have e : upd w.F a o b = some u := e
    by_cases q : b = a
    · subst q; exact f2
    · rw [upd_ne q] at e; exact O.dis b u e
  · obtain ⟨b, h1, h2, h3, h4⟩ := O.cell l c e
    have ne : b ≠ a := by rintro rfl; exact f3 l c e h1
    exact ⟨b, h1, by show upd w.F a o b = none; rw [upd_ne ne]; exact h2, h3, h4.mono (Sub.new f1) ⟨[], by simp⟩ rfl⟩
theorem tE_fr {m : Fx} {σ : L2.St} {H : Hp} {Q : VK} (h : tE K (eFr m) σ H Q) : tF K m σ H Q := by
  obtain ⟨w, env, mu, v, mu', S, O, e, q⟩ := h
  unfold eFr at e
  split at e
  · rename_i c mu1 em
    split at e
    · rename_i d ed
      cases e
      refine ⟨w, env, mu, c, _, S, O, em, fun w1 a H1 x1 O1 f1 c1 => ?_⟩
      obtain ⟨o, h1, h2⟩ := cell_rep c1 ed
      exact q { w1 with F := upd w1.F a o } _ H1 (x1.trans (ext_laidF f1.1)) (O1.freeze f1 h1) (h2 _ (Sub.new f1.1) upd_same)
    · cases e
  · cases e
theorem de_fr {e : Expr} {m : Fx} (h : DF X e m) : DE X e (eFr m) := PE.imp h fun _ _ _ h => tE_fr h
theorem getElem?_snoc {α : Type} {l : List α} {x y : α} {i : Nat} (h : (l ++ [x])[i]? = some y) : l[i]? = some y ∨ (i = l.length ∧ y = x) := by
  by_cases q : i < l.length
  · rw [List.getElem?_append_left q] at h; exact .inl h
  · rw [List.getElem?_append_right (Nat.le_of_not_lt q)] at h
    have : i - l.length = 0 := by
      cases z : i - l.length with
      | zero => rfl
      | succ n => rw [z] at h; simp at h
    rw [this] at h
    simp at h
    exact .inr ⟨by omega, h.symm⟩
theorem Own.own {w : Wd} {mu : Mu} {H : Hp} {a : Addr} {c : Cell} (O : Own K w mu H) (f : Fresh w mu a) (h : CellOk K w H a c) : Own K { w with r := w.r ++ [a] } (mu ++ [some c]) H := by
  obtain ⟨f1, f2, f3⟩ := f
  have fr : ∀ {l : Nat} {b : Addr}, w.r[l]? = some b → (w.r ++ [a])[l]? = some b := fun {l b} e => by
    rw [List.getElem?_append_left (List.getElem?_eq_some_iff.mp e).1]; exact e
  have la : (w.r ++ [a])[mu.length]? = some a := by rw [O.len]; simp
  have mono : ∀ {b : Addr} {c' : Cell}, CellOk K w H b c' → CellOk K { w with r := w.r ++ [a] } H b c' := fun {b c'} z => CellOk.mono (w := w) (w' := { w with r := w.r ++ [a] }) Sub.rfl' ⟨[a], rfl⟩ rfl z
  refine ⟨O.sub, O.subG, O.dis, by simp [O.len], fun l c' e => ?_, fun l l' c1 c2 b e1 e2 p1 p2 => ?_⟩
  · rcases getElem?_snoc e with e0 | ⟨el, e0⟩
    · obtain ⟨b, h1, h2, h3, h4⟩ := O.cell l c' e0
      exact ⟨b, fr h1, h2, h3, mono h4⟩
    · cases e0
      exact ⟨a, by rw [el]; exact la, f1, f2, mono h⟩
  · have p1 : (w.r ++ [a])[l]? = some b := p1
    have p2 : (w.r ++ [a])[l']? = some b := p2
    rcases getElem?_snoc e1 with e3 | ⟨el, e3⟩
    · obtain ⟨b1, h1, _⟩ := O.cell l c1 e3
      have eb : b1 = b := Option.some.inj ((fr h1).symm.trans p1)
      subst eb
      rcases getElem?_snoc e2 with e4 | ⟨el', e4⟩
      · obtain ⟨b2, h2, _⟩ := O.cell l' c2 e4
        have eb : b2 = b1 := Option.some.inj ((fr h2).symm.trans p2)
        subst eb
        exact O.inj l l' c1 c2 _ e3 e4 h1 h2
      · rw [el', la] at p2
        cases p2
        exact absurd h1 (f3 l c1 e3)
    · rw [el, la] at p1
      cases p1
      rcases getElem?_snoc e2 with e4 | ⟨el', e4⟩
      · obtain ⟨b2, h2, _⟩ := O.cell l' c2 e4
        have eb : b2 = a := Option.some.inj ((fr h2).symm.trans p2)
        subst eb
        exact absurd h2 (f3 l' c2 e4)
      · rw [el, el']
theorem tE_own {m : Fx} {σ : L2.St} {H : Hp} {Q : VK} (h : tE K (eOwn m) σ H Q) : tF K m σ H Q := by
  obtain ⟨w, env, mu, v, mu', S, O, e, q⟩ := h
  unfold eOwn at e
  split at e
  · rename_i c mu1 em
    cases e
    refine ⟨w, env, mu, c, _, S, O, em, fun w1 a H1 x1 O1 f1 c1 => ?_⟩
    refine q { w1 with r := w1.r ++ [a] } _ H1 (x1.trans ⟨Sub.rfl', Sub.rfl', ⟨[a], rfl⟩⟩) (O1.own f1 c1) ⟨a, ?_, rfl⟩
    show (w1.r ++ [a])[mu1.length]? = some a
    rw [O1.len]; simp
  · cases e
theorem de_own {e : Expr} {m : Fx} (h : DF X e m) : DE X e (eOwn m) := PE.imp h fun _ _ _ h => tE_own h
end
end Vi

set_option Elab.async false
set_option linter.all false
set_option maxRecDepth 100000
set_option maxHeartbeats 4000000
/-! Vi2: comparisons of data, membership, items, slices, lengths, classes. -/
namespace Vi
open PySem PySem.Spec PyProof.Rows L2
section
variable {X : Cx} {K : Kc}
/-! ### data without dicts -/
mutual
theorem rep_dp {F H : Hp} (s : Sub F H) : ∀ {d : T} {x : V}, d.plain = true → Rep K F x d → Dp K.k H x d
  | .none, _, _, r => by cases r; exact .non
  | .bool b, _, _, r => by cases r; exact .bl b
  | .int i, _, _, r => by cases r; exact .int i
  | .str z, _, _, r => by cases r; exact .str z
  | .list ds, _, h, r => by
    cases r with
    | lst h1 h2 => exact .lst (.inl (.inl (s _ _ h1))) (rep_dpAll s (by simpa [PyData.plain] using h) h2)
  | .tuple ds, _, h, r => by
    cases r with
    | tup h1 h2 => exact .tup (.inl (.inl (s _ _ h1))) (rep_dpAll s (by simpa [PyData.plain] using h) h2)
  | .dict _, _, h, _ => by simp [PyData.plain] at h
theorem rep_dpAll {F H : Hp} (s : Sub F H) : ∀ {ds : List T} {xs : List V}, PyData.plainAll ds = true → RepAll K F xs ds → DpAll K.k H xs ds
  | [], _, _, r => by cases r; exact .nil
  | d :: ds, _, h, r => by
    simp only [PyData.plainAll, Bool.and_eq_true] at h
    cases r with
    | cons h1 h2 => exact .cons (rep_dp s h.1 h1) (rep_dpAll s h.2 h2)
end
/-- data to be read: for good, borrowed, or a list of one's own of such -/
@[simp] def rd : Val → Mu → Option T
  | .t d, _ => some d
  | .bor d, _ => some d
  | .lab l, mu => match mu[l]? with
    | some (some (.lst vs)) => (datas vs).map .list
    | _ => none
theorem rd_ok {w : Wd} {mu : Mu} {H : Hp} {x : V} {v : Val} {d : T} (O : Own K w mu H) (r : RV K w x v) (h : rd v mu = some d) (p : d.plain = true) : Dp K.k H x d := by
  unfold rd at h
  split at h
  · cases h; exact rep_dp O.sub p r
  · cases h
    rcases r with r | ⟨a, xs, ds, rfl, rfl, h, r⟩ | ⟨a, q, keys, xs, o, ds, rfl, _⟩
    · exact rep_dp O.sub p r
    · exact .lst (h.elim (fun z => sqL_sub O.sub z) (fun z => .inl (.inl (O.subG _ _ z)))) (rep_dpAll O.sub (by simpa [PyData.plain] using p) r)
    · simp [PyData.plain] at p
  · obtain ⟨a, ha, rfl⟩ := r
    split at h
    · rename_i us hc
      simp only [Option.map_eq_some_iff] at h
      obtain ⟨ds, h1, rfl⟩ := h
      obtain ⟨a', ha', _, _, xs, h2, h3⟩ := O.cell _ _ hc
      rw [ha] at ha'; cases ha'
      rw [datas_eq h1] at h3
      exact .lst (.inl (.inl h2)) (rep_dpAll O.sub (by simpa [PyData.plain] using p) (Pd.toRep h3))
    · cases h
/-- nesting held below this -/
def rEqP (K : PySem.W.Frag) (neg : Bool) : R2 := fun x y H Q => ∃ d e, Dp K H x d ∧ Dp K H y e ∧ d.plain = true ∧ e.plain = true ∧ min d.depth e.depth ≤ 60 ∧ Q (.bl (if neg then !PyData.eqv d e else PyData.eqv d e)) H
theorem op_eqP (hu : X.A.units + 64 < cLine) : OpR X (compareOp .Eq) (rEqP X.K false) := by
  intro pins s σ H x y v u Q I rx ry h
  obtain ⟨d, e, hd, he, pd, pe, hm, q⟩ := h
  obtain ⟨as, r1⟩ := Dp.reads I d x v hd rx
  obtain ⟨bs, r2⟩ := Dp.reads I e y u he ry
  exact SeqAt.eq_plain r1 r2 pd pe (by omega) ⟨.bl _, H, I, rfl, q⟩
theorem op_neP (hu : X.A.units + 64 < cLine) : OpR X (compareOp .NotEq) (rEqP X.K true) := by
  intro pins s σ H x y v u Q I rx ry h
  obtain ⟨d, e, hd, he, pd, pe, hm, q⟩ := h
  obtain ⟨as, r1⟩ := Dp.reads I d x v hd rx
  obtain ⟨bs, r2⟩ := Dp.reads I e y u he ry
  exact SeqAt.ne_plain r1 r2 pd pe (by omega) ⟨.bl _, H, I, rfl, q⟩
def gEq (neg : Bool) : G2 := fun a b mu => match rd a mu, rd b mu with
  | some d, some e => if d.plain = true ∧ e.plain = true ∧ min d.depth e.depth ≤ 60 then some (.t (.bool (if neg then !PyData.eqv d e else PyData.eqv d e)), mu) else none
  | _, _ => none
theorem opv_eq {neg : Bool} : OpV K (rEqP K.k neg) (gEq neg) := by
  intro w mu H x y va vb v mu' Q O ra rb e q
  unfold gEq at e
  split at e
  · rename_i d e' h1 h2
    split at e
    · rename_i hc
      cases e
      exact ⟨d, e', rd_ok O ra h1 hc.1, rd_ok O rb h2 hc.2.1, hc.1, hc.2.1, hc.2.2, q w _ H (Ext.refl w) O (.bl _)⟩
    · cases e
  · cases e
/-- x in c: a list or a tuple of data, a text in a text -/
def rInP (K : PySem.W.Frag) (neg : Bool) : R2 := fun x y H Q => (∃ d ds, Dp K H x d ∧ (Dp K H y (.list ds) ∨ Dp K H y (.tuple ds)) ∧ d.plain = true ∧ PyData.plainAll ds = true ∧ d.depth ≤ 60 ∧ Q (.bl (if neg then !(ds.any fun z => PyData.eqv z d) else ds.any fun z => PyData.eqv z d)) H) ∨
  ∃ i j, x = .str i ∧ y = .str j ∧ Q (.bl (if neg then !(!(Builtin.Str.occurrences j i 0 j.length 1).isEmpty) else !(Builtin.Str.occurrences j i 0 j.length 1).isEmpty)) H
theorem op_inP (hu : X.A.units + 64 < cLine) : OpR X (compareOp .In) (rInP X.K false) := by
  intro pins s σ H x y v u Q I rx ry h
  rcases h with ⟨d, ds, hd, he, pd, pe, hm, q⟩ | ⟨i, j, e1, e2, q⟩
  · obtain ⟨as, r1⟩ := Dp.reads I d x v hd rx
    rcases he with he | he
    · obtain ⟨bs, r2⟩ := Dp.reads I _ y u he ry
      exact SeqAt.in_list_data r2 r1 pe pd (by omega) ⟨.bl _, H, I, rfl, q⟩
    · obtain ⟨bs, r2⟩ := Dp.reads I _ y u he ry
      exact SeqAt.in_tuple_data r2 r1 pe pd (by omega) ⟨.bl _, H, I, rfl, q⟩
  · exact op_in_str pins s σ H x y v u Q I rx ry ⟨i, j, e1, e2, q⟩
theorem op_notInP (hu : X.A.units + 64 < cLine) : OpR X (compareOp .NotIn) (rInP X.K true) := by
  intro pins s σ H x y v u Q I rx ry h
  rcases h with ⟨d, ds, hd, he, pd, pe, hm, q⟩ | ⟨i, j, e1, e2, q⟩
  · obtain ⟨as, r1⟩ := Dp.reads I d x v hd rx
    rcases he with he | he
    · obtain ⟨bs, r2⟩ := Dp.reads I _ y u he ry
      exact SeqAt.notIn_list_data r2 r1 pe pd (by omega) ⟨.bl _, H, I, rfl, q⟩
    · obtain ⟨bs, r2⟩ := Dp.reads I _ y u he ry
      exact SeqAt.notIn_tuple_data r2 r1 pe pd (by omega) ⟨.bl _, H, I, rfl, q⟩
  · exact op_notin_str pins s σ H x y v u Q I rx ry ⟨i, j, e1, e2, q⟩
def inL (d : T) (ds : List T) : Bool := ds.any fun z => PyData.eqv z d
def inS (i j : Str) : Bool := !(Builtin.Str.occurrences j i 0 j.length 1).isEmpty
def gIn (neg : Bool) : G2 := fun a b mu => match rd a mu, rd b mu with
  | some d, some (.list ds) => if d.plain = true ∧ PyData.plainAll ds = true ∧ d.depth ≤ 60 then some (.t (.bool (if neg then !inL d ds else inL d ds)), mu) else none
  | some d, some (.tuple ds) => if d.plain = true ∧ PyData.plainAll ds = true ∧ d.depth ≤ 60 then some (.t (.bool (if neg then !inL d ds else inL d ds)), mu) else none
  | some (.str i), some (.str j) => some (.t (.bool (if neg then !inS i j else inS i j)), mu)
  | _, _ => none
theorem rv_str {w : Wd} {mu : Mu} {x : V} {v : Val} {i : Str} (r : RV K w x v) (h : rd v mu = some (.str i)) : x = .str i := by
  unfold rd at h
  split at h
  · cases h; cases r; rfl
  · cases h
    rcases r with r | ⟨a, xs, ds, e, _⟩ | ⟨a, q, keys, xs, o, ds, e, _⟩
    · cases r; rfl
    · cases e
    · cases e
  · split at h
    · simp at h
    · cases h
theorem opv_in {neg : Bool} : OpV K (rInP K.k neg) (gIn neg) := by
  intro w mu H x y va vb v mu' Q O ra rb e q
  unfold gIn at e
  split at e
  · rename_i d ds h1 h2
    split at e
    · rename_i hc
      cases e
      exact .inl ⟨d, ds, rd_ok O ra h1 hc.1, .inl (rd_ok O rb h2 (by simpa [PyData.plain] using hc.2.1)), hc.1, hc.2.1, hc.2.2, q w _ H (Ext.refl w) O (.bl _)⟩
    · cases e
  · rename_i d ds h1 h2
    split at e
    · rename_i hc
      cases e
      exact .inl ⟨d, ds, rd_ok O ra h1 hc.1, .inr (rd_ok O rb h2 (by simpa [PyData.plain] using hc.2.1)), hc.1, hc.2.1, hc.2.2, q w _ H (Ext.refl w) O (.bl _)⟩
    · cases e
  · rename_i i j h1 h2
    cases e
    exact .inr ⟨i, j, rv_str ra h1, rv_str rb h2, q w _ H (Ext.refl w) O (.bl _)⟩
  · cases e
/-! ### items -/
abbrev rIx (K : PySem.W.Frag) : R2 := fun x y H Q => rIxL K x y H Q ∨ rIxT K x y H Q ∨ rIxS x y H Q
theorem IxR.or {r r' : R2} (h : IxR X r) (h' : IxR X r') : IxR X (fun x y H Q => r x y H Q ∨ r' x y H Q) := by
  intro value slice pins s σ H x y v u Q I rx ry hw hs
  rcases hw with hw | hw
  · exact h value slice pins s σ H x y v u Q I rx ry hw hs
  · exact h' value slice pins s σ H x y v u Q I rx ry hw hs
theorem ix_all : IxR X (rIx X.K) := IxR.or ix_list (IxR.or ix_tup ix_str)
@[simp] def gIx : G2 := fun a b mu => match b with
  | .t (.int i) => (match a with
    | .t (.tuple ds) => (match atI ds i with
      | some d => some (.t d, mu)
      | none => none)
    | .t (.str z) => if z.length ≤ textLine then (match atI z.cps.toList i with
      | some c => some (.t (.str ⟨#[c]⟩), mu)
      | none => none) else none
    | a => (match lv a mu with
      | some vs => (match atI vs i with
        | some v => some (v, mu)
        | none => none)
      | none => none))
  | _ => none
theorem atI_len {α β : Type} {xs : List α} {ys : List β} (h : xs.length = ys.length) (i : Int) : (∃ j, ixN xs.length i = some j ∧ atI xs i = xs[j]? ∧ atI ys i = ys[j]?) ∨ (atI xs i = none ∧ atI ys i = none) := by
  unfold atI
  rw [← h]
  cases e : ixN xs.length i with
  | none => exact .inr ⟨rfl, rfl⟩
  | some j => exact .inl ⟨j, rfl, rfl, rfl⟩
theorem opv_ix : OpV K (rIx K.k) gIx := by
  intro w mu H x y va vb v mu' Q O ra rb e q
  unfold gIx at e
  split at e
  · rename_i i
    cases rb
    split at e
    · rename_i ds
      split at e
      · rename_i d hd
        cases e
        cases ra with
        | @tup a xs _ h1 h2 =>
          rcases atI_len h2.length i with ⟨j, _, e1, e2⟩ | ⟨_, e2⟩
          · rw [e2] at hd
            obtain ⟨z, h3, h4⟩ := h2.get hd
            exact .inr (.inl ⟨_, _, i, z, rfl, rfl, (.inl (.inl (O.sub _ _ h1))), e1.trans h3, q w _ H (Ext.refl w) O h4⟩)
          · rw [e2] at hd; cases hd
      · cases e
    · rename_i z
      split at e
      · rename_i hl
        split at e
        · rename_i c hc
          cases e
          cases ra
          exact .inr (.inr ⟨z, i, c, rfl, rfl, text_line hl, hc, q w _ H (Ext.refl w) O (.str _)⟩)
        · cases e
      · cases e
    · split at e
      · rename_i vs hv
        split at e
        · rename_i d hd
          cases e
          obtain ⟨a, xs, rfl, h1, h2⟩ := lv_ok O ra hv
          rcases atI_len (Paired.length h2) i with ⟨j, _, e1, e2⟩ | ⟨_, e2⟩
          · rw [e2] at hd
            obtain ⟨z, h3, h4⟩ := Pd.get h2 hd
            exact .inl ⟨_, _, i, z, rfl, rfl, h1, e1.trans h3, q w _ H (Ext.refl w) O h4.1⟩
          · rw [e2] at hd; cases hd
        · cases e
      · cases e
  · cases e
theorem de_ix {a b : Expr} {ma mb : Ex} {pos : Pos} (ha : DE X a ma) (hb : DE X b mb) (hs : PlainIx b) : DE X (.Subscript a b pos) (eOp gIx ma mb) := (pe_ix ix_all ha hb hs).imp fun _ _ _ h => tE_op opv_ix h
/-! ### slices -/
abbrev Ox := En → Mu → Option (Option Int × Mu)
@[simp] def oNone : Ox := fun _ mu => some (none, mu)
@[simp] def oSome (m : Ex) : Ox := fun env mu => match m env mu with
  | some (.t (.int i), mu1) => some (some i, mu1)
  | _ => none
def tO (K : Kc) (m : Ox) : TO := fun σ H Q => ∃ w env mu o mu', Slots K w env σ ∧ Own K w mu H ∧ m env mu = some (o, mu') ∧ ∀ w' H', Ext w w' → Own K w' mu' H' → Q o H'
def DO (X : Cx) (e : Option Expr) (m : Ox) : Prop := PO X e (tO X.kc m)
theorem _root_.L2.PO.imp {e : Option Expr} {t t' : TO} (h : PO X e t) (i : ∀ σ H Q, t' σ H Q → t σ H Q) : PO X e t' := ⟨fun pins s σ H Q I q => h.run pins s σ H Q I (i σ H Q q)⟩
theorem do_none : DO X none oNone := po_none.imp fun σ H Q h => by
  obtain ⟨w, env, mu, o, mu', S, O, e, q⟩ := h
  cases e
  exact q w H (Ext.refl w) O
theorem do_some {e : Expr} {m : Ex} (he : DE X e m) : DO X (some e) (oSome m) := (po_some he).imp fun σ H Q h => by
  obtain ⟨w, env, mu, o, mu', S, O, e, q⟩ := h
  unfold oSome at e
  split at e
  · rename_i i mu1 em
    cases e
    refine ⟨w, env, mu, _, _, S, O, em, fun w1 x H1 x1 O1 r1 => ?_⟩
    cases r1
    exact ⟨i, rfl, q w1 H1 x1 O1⟩
  · cases e
def cutL {α : Type} (xs : List α) (lo hi : Option Int) : List α := (xs.drop (HT.sIx xs.length 0 lo)).take (HT.sIx xs.length xs.length hi - HT.sIx xs.length 0 lo)
theorem Pd.cut {α β : Type} {R : α → β → Prop} {xs : List α} {ys : List β} (h : Paired R xs ys) (lo hi : Option Int) : Paired R (cutL xs lo hi) (cutL ys lo hi) := by
  unfold cutL
  rw [Paired.length h]
  exact Pd.take _ (Pd.drop _ h)
/-- a slice of a list: a new list -/
@[simp] def fSl (m : Ex) (lo hi : Ox) : Fx := fun env mu => match m env mu with
  | some (v, mu1) => (match lo env mu1 with
    | some (l, mu2) => (match hi env mu2 with
      | some (h, mu3) => (match lv v mu3 with
        | some vs => some (.lst (cutL vs l h), mu3)
        | none => none)
      | none => none)
    | none => none)
  | none => none
theorem df_sl {e : Expr} {lo hi : Option Expr} {m : Ex} {ml mh : Ox} {p2 pos : Pos} (he : DE X e m) (hl : DO X lo ml) (hh : DO X hi mh) : DF X (.Subscript e (.Slice lo hi none p2) pos) (fSl m ml mh) := (pe_slice sl_list he hl hh).imp fun σ H Q h => by
  obtain ⟨w, env, mu, c, mu', S, O, e, q⟩ := h
  unfold fSl at e
  split at e
  · rename_i v mu1 e1
    split at e
    · rename_i l mu2 e2
      split at e
      · rename_i h mu3 e3
        split at e
        · rename_i vs e4
          cases e
          refine ⟨w, env, mu, v, mu1, S, O, e1, fun w1 x H1 x1 O1 r1 => ?_⟩
          refine ⟨w1, env, mu1, l, mu2, S.mono x1, O1, e2, fun w2 H2 x2 O2 => ?_⟩
          refine ⟨w2, env, mu2, h, _, (S.mono x1).mono x2, O2, e3, fun w3 H3 x3 O3 => ?_⟩
          obtain ⟨a, xs, rfl, h1, h2⟩ := lv_ok O3 ((r1.mono x2).mono x3) e4
          refine ⟨a, xs, rfl, h1, fun p hp => ?_⟩
          exact q w3 p _ ((x1.trans x2).trans x3) (O3.laid hp) (fresh_new O3 hp) ⟨_, upd_same, Pd.cut h2 l h⟩
        · cases e
      · cases e
    · cases e
  · cases e
/-- xs[::-1] -/
@[simp] def fRev (m : Ex) : Fx := fun env mu => match m env mu with
  | some (v, mu1) => (match lv v mu1 with
    | some vs => some (.lst vs.reverse, mu1)
    | none => none)
  | none => none
theorem df_rev {e : Expr} {m : Ex} {k : Nat} {p1 p2 p3 pos : Pos} (he : DE X e m) : DF X (.Subscript e (.Slice none none (some (.UnaryOp .USub (.Constant (.int 1) k p1) p2)) p3) pos) (fRev m) := (pe_revL he).imp fun σ H Q h => by
  obtain ⟨w, env, mu, c, mu', S, O, e, q⟩ := h
  unfold fRev at e
  split at e
  · rename_i v mu1 e1
    split at e
    · rename_i vs e4
      cases e
      refine ⟨w, env, mu, v, _, S, O, e1, fun w1 x H1 x1 O1 r1 => ?_⟩
      obtain ⟨a, xs, rfl, h1, h2⟩ := lv_ok O1 r1 e4
      exact ⟨a, xs, rfl, h1, fun p hp => q w1 p _ x1 (O1.laid hp) (fresh_new O1 hp) ⟨_, upd_same, Pd.reverse h2⟩⟩
    · cases e
  · cases e
end
end Vi

set_option Elab.async false
set_option linter.all false
set_option maxRecDepth 100000
set_option maxHeartbeats 4000000
/-! Vi3: statements, targets, loops. -/
namespace Vi
open PySem PySem.Spec PyProof.Rows L2
section
variable {X : Cx} {K : Kc} {e : Expr} {st : Stmt} {sts : List Stmt} {pos : Pos} {m : Ex} {a b : Sx} {c : Tx}
/-! ### small statements -/
@[simp] def sNext : Sx := fun env mu => some (.nx env mu)
@[simp] def sSeq (a b : Sx) : Sx := fun env mu => match a env mu with
  | some (.nx env1 mu1) => b env1 mu1
  | r => r
@[simp] def sSet (i : Nat) (m : Ex) : Sx := fun env mu => match m env mu with
  | some (v, mu1) => some (.nx (env.set i (some v)) mu1)
  | none => none
@[simp] def sDrop (m : Ex) : Sx := fun env mu => match m env mu with
  | some (_, mu1) => some (.nx env mu1)
  | none => none
@[simp] def sRet (m : Ex) : Sx := fun env mu => match m env mu with
  | some (v, mu1) => some (.rt v mu1)
  | none => none
@[simp] def sRetN : Sx := fun _ mu => some (.rt (.t .none) mu)
@[simp] def sIf (c : Tx) (a b : Sx) : Sx := fun env mu => match c env mu with
  | some (true, mu1) => a env mu1
  | some (false, mu1) => b env mu1
  | none => none
@[simp] def sNever : Sx := fun _ _ => none
@[simp] def sBreak : Sx := fun env mu => some (.bk env mu)
@[simp] def sCont : Sx := fun env mu => some (.ct env mu)
theorem dss_nil : DSs X [] sNext := pss_nil.imp fun D σ H h => by
  obtain ⟨w, env, mu, fl, S, O, e, q⟩ := h
  cases e
  exact q w σ H (Ext.refl w) S O
theorem ds_pass : DS X (.Pass pos) sNext := ps_pass.imp fun D σ H h => by
  obtain ⟨w, env, mu, fl, S, O, e, q⟩ := h
  cases e
  exact q w σ H (Ext.refl w) S O
theorem ds_break : DS X (.Break pos) sBreak := ps_break.imp fun D σ H h => by
  obtain ⟨w, env, mu, fl, S, O, e, q⟩ := h
  cases e
  exact q w σ H (Ext.refl w) S O
theorem ds_continue : DS X (.Continue pos) sCont := ps_continue.imp fun D σ H h => by
  obtain ⟨w, env, mu, fl, S, O, e, q⟩ := h
  cases e
  exact q w σ H (Ext.refl w) S O
theorem ds_never : DS X st sNever := (ps_never (X := X) (st := st)).imp fun D σ H h => by
  obtain ⟨w, env, mu, fl, S, O, e, q⟩ := h
  cases e
theorem dss_never : DSs X sts sNever := (pss_never (X := X) (sts := sts)).imp fun D σ H h => by
  obtain ⟨w, env, mu, fl, S, O, e, q⟩ := h
  cases e
theorem tS_seq {D : Ends} {σ : L2.St} {H : Hp} (h : tS K (sSeq a b) D σ H) : tSeq (tS K a) (tS K b) D σ H := by
  obtain ⟨w, env, mu, fl, S, O, e, q⟩ := h
  unfold sSeq at e
  split at e
  · rename_i env1 mu1 ea
    refine ⟨w, env, mu, _, S, O, ea, fun w1 σ1 H1 x1 S1 O1 => ?_⟩
    exact ⟨w1, env1, mu1, fl, S1, O1, e, q.mono x1⟩
  · rename_i hn
    refine ⟨w, env, mu, fl, S, O, e, ?_⟩
    cases fl with
    | nx env1 mu1 => exact absurd e (hn env1 mu1)
    | bk env1 mu1 => exact q
    | ct env1 mu1 => exact q
    | rt v mu1 => exact q
theorem dss_cons (h1 : DS X st a) (h2 : DSs X sts b) : DSs X (st :: sts) (sSeq a b) := (pss_cons h1 h2).imp fun _ _ _ h => tS_seq h
theorem dss_one (h1 : DS X st a) : DSs X [st] a := pss_one h1
theorem ds_set {i : Nat} {x : Str} {pos' : Pos} (hN : X.N.Nodup) (hi : X.N[i]? = some x) (hx : Loc X.env.scope x) (he : DE X e m) (hs : swapsWith e (some (.Name x pos')) pos.line X.env = pure false := by rfl) (hf : X.fn x = true ∨ X.env.scope.names.lookup x = some .local := by first | exact .inl rfl | exact .inr rfl | assumption) :
    DS X (.Assign [.Name x pos'] e pos) (sSet i m) := (ps_set hN hi hx he hs hf).imp fun D σ H h => by
  obtain ⟨w, env, mu, fl, S, O, e, q⟩ := h
  unfold sSet at e
  split at e
  · rename_i v mu1 em
    cases e
    refine ⟨w, env, mu, v, mu1, S, O, em, fun w1 x H1 x1 O1 r1 => ?_⟩
    exact q w1 _ H1 x1 ((S.mono x1).set r1) O1
  · cases e
theorem ds_expr (he : DE X e m) (hs : swapsWith e none pos.line X.env = pure false := by rfl) : DS X (.Expr e pos) (sDrop m) := (ps_expr he hs).imp fun D σ H h => by
  obtain ⟨w, env, mu, fl, S, O, e, q⟩ := h
  unfold sDrop at e
  split at e
  · rename_i v mu1 em
    cases e
    refine ⟨w, env, mu, v, mu1, S, O, em, fun w1 x H1 x1 O1 r1 => ?_⟩
    exact q w1 _ H1 x1 (S.mono x1) O1
  · cases e
theorem ds_doc {x : Str} {j : Nat} {pos pos' : Pos} : DS X (.Expr (.Constant (.str x) j pos) pos') sNext := ps_doc.imp fun D σ H h => by
  obtain ⟨w, env, mu, fl, S, O, e, q⟩ := h
  cases e
  exact q w σ H (Ext.refl w) S O
theorem ds_ret (he : DE X e m) : DS X (.Return (some e) pos) (sRet m) := (ps_ret he).imp fun D σ H h => by
  obtain ⟨w, env, mu, fl, S, O, e, q⟩ := h
  unfold sRet at e
  split at e
  · rename_i v mu1 em
    cases e
    exact ⟨w, env, mu, v, mu1, S, O, em, fun w1 x H1 x1 O1 r1 => q w1 x H1 x1 O1 r1⟩
  · cases e
theorem ds_retN : DS X (.Return none pos) sRetN := ps_retN.imp fun D σ H h => by
  obtain ⟨w, env, mu, fl, S, O, e, q⟩ := h
  cases e
  exact q w .non H (Ext.refl w) O .non
theorem ds_if {t : Expr} {s1 s2 : List Stmt} (hc : DT X t c) (ha : DSs X s1 a) (hb : DSs X s2 b) : DS X (.If t s1 s2 pos) (sIf c a b) := (ps_if hc ha hb).imp fun D σ H h => by
  obtain ⟨w, env, mu, fl, S, O, e, q⟩ := h
  unfold sIf at e
  split at e
  · rename_i mu1 ea
    refine ⟨w, env, mu, _, _, S, O, ea, fun w1 H1 x1 O1 => ?_⟩
    exact ⟨w1, env, mu1, fl, S.mono x1, O1, e, q.mono x1⟩
  · rename_i mu1 ea
    refine ⟨w, env, mu, _, _, S, O, ea, fun w1 H1 x1 O1 => ?_⟩
    exact ⟨w1, env, mu1, fl, S.mono x1, O1, e, q.mono x1⟩
  · cases e
/-! ### targets -/
abbrev Tg := Val → En → Option En
abbrev Tgs := List Val → En → Option En
def tG (K : Kc) (m : Tg) : TG := fun x σ H Q => ∃ w env mu v env', Slots K w env σ ∧ Own K w mu H ∧ RV K w x v ∧ m v env = some env' ∧ ∀ σ', Slots K w env' σ' → Q σ' H
def tGs (K : Kc) (m : Tgs) : TGs := fun xs σ H Q => ∃ w env mu vs env', Slots K w env σ ∧ Own K w mu H ∧ Paired (RV K w) xs vs ∧ m vs env = some env' ∧ ∀ σ', Slots K w env' σ' → Q σ' H
def DG (X : Cx) (e : Expr) (m : Tg) : Prop := PG X e (tG X.kc m)
def DGs (X : Cx) (e : List Expr) (m : Tgs) : Prop := PGs X e (tGs X.kc m)
theorem _root_.L2.PG.imp {t t' : TG} (h : PG X e t) (i : ∀ v σ H Q, t' v σ H Q → t v σ H Q) : PG X e t' := ⟨fun pins s σ H v u Q I r q => h.run pins s σ H v u Q I r (i v σ H Q q)⟩
theorem _root_.L2.PGs.imp {es : List Expr} {t t' : TGs} (h : PGs X es t) (i : ∀ v σ H Q, t' v σ H Q → t v σ H Q) : PGs X es t' := ⟨fun pins s σ H v u Q I r q => h.run pins s σ H v u Q I r (i v σ H Q q)⟩
@[simp] def gtName (i : Nat) : Tg := fun v env => some (env.set i (some v))
@[simp] def gtNil : Tgs := fun vs env => match vs with
  | [] => some env
  | _ => none
@[simp] def gtCons (t : Tg) (u : Tgs) : Tgs := fun vs env => match vs with
  | v :: r => (match t v env with
    | some env1 => u r env1
    | none => none)
  | [] => none
@[simp] def gtTup (n : Nat) (u : Tgs) : Tg := fun v env => match v with
  | .t (.tuple ds) => if ds.length = n then u (ds.map .t) env else none
  | _ => none
theorem dg_name {i : Nat} {x : Str} (hN : X.N.Nodup) (hi : X.N[i]? = some x) (hx : Loc X.env.scope x) (hf : X.fn x = true ∨ X.env.scope.names.lookup x = some .local := by first | exact .inl rfl | exact .inr rfl | assumption) : DG X (.Name x pos) (gtName i) :=
  (pg_name hN hi hx hf).imp fun v σ H Q h => by
  obtain ⟨w, env, mu, v, env', S, O, r, e, q⟩ := h
  cases e
  exact q _ (S.set r)
theorem dgs_nil : DGs X [] gtNil := pgs_nil.imp fun v σ H Q h => by
  obtain ⟨w, env, mu, vs, env', S, O, r, e, q⟩ := h
  cases r with
  | nil => cases e; exact ⟨rfl, q σ S⟩
  | cons _ _ => cases e
theorem dgs_cons {es : List Expr} {t : Tg} {u : Tgs} (h1 : DG X e t) (h2 : DGs X es u) (hs : (assignEach (e :: es) X.env).map (·.2) = assign e X.env :: (assignEach es X.env).map (·.2) := by rfl) : DGs X (e :: es) (gtCons t u) :=
  (pgs_cons h1 h2 hs).imp fun v σ H Q h => by
  obtain ⟨w, env, mu, vs, env', S, O, r, e, q⟩ := h
  cases r with
  | nil => cases e
  | cons r1 r2 =>
    unfold gtCons at e
    dsimp only at e
    split at e
    · rename_i env1 e1
      exact ⟨_, _, rfl, w, env, mu, _, env1, S, O, r1, e1, fun σ1 S1 => ⟨w, env1, mu, _, env', S1, O, r2, e, q⟩⟩
    · cases e
theorem dg_tup {es : List Expr} {k n : Nat} {u : Tgs} (hc : X.calm = true) (h : DGs X es u) (hn : (assignEach es X.env).length = n := by rfl) (hst : (assignEach es X.env).findIdx? (·.1) = none := by rfl) : DG X (.Tuple es k pos) (gtTup n u) :=
  (pg_tup hc h hn hst).imp fun v σ H Q h => by
  obtain ⟨w, env, mu, v, env', S, O, r, e, q⟩ := h
  unfold gtTup at e
  split at e
  · split at e
    · rename_i ds hl
      cases r with
      | tup h1 h2 =>
        exact ⟨_, _, rfl, (.inl (.inl (O.sub _ _ h1))), h2.length.trans hl, w, env, mu, _, env', S, O, Pd.rv (Pd.ofRep h2), e, q⟩
    · cases e
  · cases e
/-- target = value -/
@[simp] def sAsg (m : Ex) (t : Tg) : Sx := fun env mu => match m env mu with
  | some (v, mu1) => (match t v env with
    | some env1 => some (.nx env1 mu1)
    | none => none)
  | none => none
theorem ds_asg {tg : Expr} {t : Tg} (he : DE X e m) (hg : DG X tg t) (hs : swapsWithSole [tg] e pos.line X.env = pure false := by rfl) (hw : swappedStores [tg] e X.env = pure none := by rfl)
    (h1 : (assignEach [tg] X.env).map (·.2) = [assign tg X.env] := by rfl) : DS X (.Assign [tg] e pos) (sAsg m t) := (ps_asg he hg hs hw h1).imp fun D σ H h => by
  obtain ⟨w, env, mu, fl, S, O, e, q⟩ := h
  unfold sAsg at e
  split at e
  · rename_i v mu1 em
    split at e
    · rename_i env1 et
      cases e
      refine ⟨w, env, mu, v, mu1, S, O, em, fun w1 x H1 x1 O1 r1 => ?_⟩
      exact ⟨w1, env, mu1, v, env1, S.mono x1, O1, r1, et, fun σ1 S1 => q w1 σ1 H1 x1 S1 O1⟩
    · cases e
  · cases e

/-! ### what is walked -/
abbrev Ix := En → Mu → Option (List Val × Mu)
structure ItOk (K : Kc) (w : Wd) (J : It) (items : List Val) : Prop where
  go : ∀ w1 mu1 H1, Ext w w1 → Own K w1 mu1 H1 → ∀ i, i < items.length → J.go i H1
  stop : ∀ w1 mu1 H1, Ext w w1 → Own K w1 mu1 H1 → ∀ i, items.length ≤ i → J.stop i H1
  yld : ∀ w1 mu1 H1, Ext w w1 → Own K w1 mu1 H1 → ∀ i x H2, i < items.length → J.yld i H1 x H2 → ∃ v w2, items[i]? = some v ∧ Ext w1 w2 ∧ Own K w2 mu1 H2 ∧ RV K w2 x v
theorem ItOk.mono {w w' : Wd} {J : It} {items : List Val} (h : ItOk K w J items) (e : Ext w w') : ItOk K w' J items :=
  ⟨fun w1 mu1 H1 x => h.go w1 mu1 H1 (e.trans x), fun w1 mu1 H1 x => h.stop w1 mu1 H1 (e.trans x), fun w1 mu1 H1 x => h.yld w1 mu1 H1 (e.trans x)⟩
def tI (K : Kc) (m : Ix) : TI := fun σ H R => ∃ w env mu items mu', Slots K w env σ ∧ Own K w mu H ∧ m env mu = some (items, mu') ∧ ∀ w' H' J, Ext w w' → Own K w' mu' H' → ItOk K w' J items → R J H'
def DI (X : Cx) (tg iter : Expr) (m : Ix) : Prop := PI X tg iter (tI X.kc m)
theorem _root_.L2.PI.imp {tg iter : Expr} {t t' : TI} (h : PI X tg iter t) (i : ∀ σ H Q, t' σ H Q → t σ H Q) : PI X tg iter t' := ⟨fun pins s σ H R I q => h.run pins s σ H R I (i σ H R q)⟩
/-- a list that stays while it is walked -/
@[simp] def lvS : Val → Option (List T)
  | .t (.list ds) => some ds
  | .bor (.list ds) => some ds
  | _ => none
theorem lvS_ok {w : Wd} {mu : Mu} {H : Hp} {x : V} {v : Val} {ds : List T} (O : Own K w mu H) (r : RV K w x v) (h : lvS v = some ds) : ∃ a xs, x = .ref a ∧ (SqL K.k w.F a xs ∨ w.G a = some (.lst xs)) ∧ RepAll K w.F xs ds := by
  unfold lvS at h
  split at h
  · cases h
    cases r with
    | lst h1 r2 => exact ⟨_, _, rfl, .inl (.inl (.inl h1)), r2⟩
  · cases h
    rcases r with r | ⟨a, xs, ds, e, ex, h, r⟩ | ⟨a, q, keys, xs, o, ds, e, _⟩
    · cases r with
      | lst h1 r2 => exact ⟨_, _, rfl, .inl (.inl (.inl h1)), r2⟩
    · cases e
      exact ⟨a, xs, ex, h, r⟩
    · cases e
  · cases h
theorem stays {w w1 : Wd} {mu : Mu} {H : Hp} {a : Addr} {xs : List V} (h : SqL K.k w.F a xs ∨ w.G a = some (.lst xs)) (e : Ext w w1) (O : Own K w1 mu H) : SqL K.k H a xs := by
  rcases h with h | h
  · exact sqL_sub (e.F.trans O.sub) h
  · exact .inl (.inl (O.subG _ _ (e.G _ _ h)))
@[simp] def iLst (m : Ex) : Ix := fun env mu => match m env mu with
  | some (v, mu1) => (match lvS v with
    | some ds => some (ds.map .t, mu1)
    | none => none)
  | none => none
theorem it_list {w : Wd} {a : Addr} {xs : List V} {ds : List T} (h : SqL K.k w.F a xs ∨ w.G a = some (.lst xs)) (r : RepAll K w.F xs ds) : ItOk K w (Itl K.k a) (ds.map .t) := by
  refine ⟨fun w1 mu1 H1 x O i hi => ?_, fun w1 mu1 H1 x O i hi => ?_, fun w1 mu1 H1 x O i y H2 hi hy => ?_⟩
  · have hH := stays h x O
    have hi : i < xs.length := by rw [r.length]; simpa using hi
    exact ⟨xs, xs[i], hH, by simp [hi]⟩
  · have hH := stays h x O
    exact ⟨xs, hH, by rw [r.length]; simpa using hi⟩
  · have hH := stays h x O
    obtain ⟨rfl, hy⟩ := hy
    have h1 := hy xs (hH)
    obtain ⟨d, h2, h3⟩ := r.get' h1
    exact ⟨.t d, w1, by simp [h2], Ext.refl w1, O, h3.mono x.F⟩
theorem di_list {tg : Expr} (he : DE X e m) : DI X tg e (iLst m) := (pi_list he).imp fun σ H Q h => by
  obtain ⟨w, env, mu, items, mu', S, O, e, q⟩ := h
  unfold iLst at e
  split at e
  · rename_i v mu1 em
    split at e
    · rename_i ds hd
      cases e
      refine ⟨w, env, mu, v, _, S, O, em, fun w1 x H1 x1 O1 r1 => ?_⟩
      obtain ⟨a, xs, rfl, h1, h2⟩ := lvS_ok O1 r1 hd
      have hH := stays h1 (Ext.refl w1) O1
      exact ⟨a, rfl, ⟨xs, hH⟩, q w1 H1 _ x1 O1 (it_list h1 h2)⟩
    · cases e
  · cases e
/-- a tuple walked -/
@[simp] def iTpl (m : Ex) : Ix := fun env mu => match m env mu with
  | some (.t (.tuple ds), mu1) => some (ds.map .t, mu1)
  | _ => none
theorem di_tup {tg : Expr} (he : DE X e m) : DI X tg e (iTpl m) := (pi_tup he).imp fun σ H Q h => by
  obtain ⟨w, env, mu, items, mu', S, O, e, q⟩ := h
  unfold iTpl at e
  split at e
  · rename_i ds mu1 em
    cases e
    refine ⟨w, env, mu, _, _, S, O, em, fun w1 x H1 x1 O1 r1 => ?_⟩
    cases r1 with
    | @tup a xs _ h1 h2 =>
      refine ⟨a, rfl, ⟨xs, (.inl (.inl (O1.sub _ _ h1)))⟩, q w1 H1 _ x1 O1 ?_⟩
      refine ⟨fun w2 mu2 H2 x O i hi => ?_, fun w2 mu2 H2 x O i hi => ?_, fun w2 mu2 H2 x O i y H3 hi hy => ?_⟩
      · have hi : i < xs.length := by rw [h2.length]; simpa using hi
        exact ⟨xs, xs[i], (.inl (.inl ((x.F.trans O.sub) _ _ h1))), by simp [hi]⟩
      · exact ⟨xs, (.inl (.inl ((x.F.trans O.sub) _ _ h1))), by rw [h2.length]; simpa using hi⟩
      · obtain ⟨rfl, hy⟩ := hy
        have h3 := hy xs ((.inl (.inl ((x.F.trans O.sub) _ _ h1))))
        obtain ⟨d, h4, h5⟩ := h2.get' h3
        exact ⟨.t d, w2, by simp [h4], Ext.refl w2, O, h5.mono x.F⟩
  · cases e
/-- a text walked, sign by sign -/
@[simp] def iTxt (m : Ex) : Ix := fun env mu => match m env mu with
  | some (.t (.str z), mu1) => some (z.cps.toList.map (fun c => .t (.str ⟨#[c]⟩)), mu1)
  | _ => none
theorem di_str {tg : Expr} (he : DE X e m) : DI X tg e (iTxt m) := (pi_str he).imp fun σ H Q h => by
  obtain ⟨w, env, mu, items, mu', S, O, e, q⟩ := h
  unfold iTxt at e
  split at e
  · rename_i z mu1 em
    cases e
    refine ⟨w, env, mu, _, _, S, O, em, fun w1 x H1 x1 O1 r1 => ?_⟩
    cases r1
    refine ⟨z, rfl, q w1 H1 _ x1 O1 ?_⟩
    refine ⟨fun w2 mu2 H2 x O i hi => ?_, fun w2 mu2 H2 x O i hi => ?_, fun w2 mu2 H2 x O i y H3 hi hy => ?_⟩
    · show i < z.cps.size
      simpa using hi
    · show z.cps.size ≤ i
      simpa using hi
    · obtain ⟨rfl, c, hc, rfl⟩ := hy
      exact ⟨.t (.str ⟨#[c]⟩), w2, by simp [hc], Ext.refl w2, O, Rep.str _⟩
  · cases e
/-- ranges: the ints -/
def rangeL (lo c : Int) (n : Nat) : List T := (List.range n).map fun (i : Nat) => .int (lo + (i : Int) * c)
theorem it_rng {w : Wd} {lo : Int} {n : Nat} : ItOk K w (Itr lo n) ((rangeL lo 1 n).map .t) := by
  refine ⟨fun w2 mu2 H2 x O i hi => ?_, fun w2 mu2 H2 x O i hi => ?_, fun w2 mu2 H2 x O i y H3 hi hy => ?_⟩
  · show i < n
    simpa [rangeL] using hi
  · show n ≤ i
    simpa [rangeL] using hi
  · have hi : i < n := by simpa [rangeL] using hi
    obtain ⟨rfl, rfl⟩ := hy
    exact ⟨.t (.int (lo + (i : Int) * 1)), w2, by simp [rangeL, hi], Ext.refl w2, O, by rw [Int.mul_one]; exact Rep.int _⟩
def iRng1 (m : Ax) : Ix := fun env mu => match m env mu with
  | some ([.t (.int j)], mu1) => if -(2 ^ 62) ≤ j ∧ j < 2 ^ 62 then some ((rangeL 0 1 j.toNat).map .t, mu1) else none
  | _ => none
def iRng2 (m : Ax) : Ix := fun env mu => match m env mu with
  | some ([.t (.int i), .t (.int j)], mu1) => if -(2 ^ 62) ≤ i ∧ i < 2 ^ 62 ∧ -(2 ^ 62) ≤ j ∧ j < 2 ^ 62 then some ((rangeL i 1 (j - i).toNat).map .t, mu1) else none
  | _ => none
theorem di_rng1 {tg a : Expr} {ma : Ax} {p pos : Pos} (hg : Gl X "range") (hm : X.mg "range" = none) (ha : DA X [a] ma) (hs : starEach [a] X.env = [(false, eval a X.env)] := by rfl) : DI X tg (.Call (.Name "range" p) [a] [] pos) (iRng1 ma) :=
  (pi_range1 hg hm ha hs).imp fun σ H Q h => by
  obtain ⟨w, env, mu, items, mu', S, O, e, q⟩ := h
  unfold iRng1 at e
  split at e
  · rename_i j mu1 em
    split at e
    · rename_i hj
      cases e
      refine ⟨w, env, mu, _, _, S, O, em, fun w1 xs H1 x1 O1 r1 => ?_⟩
      cases r1 with
      | cons r1 r2 =>
        cases r1; cases r2
        exact ⟨j, rfl, hj.1, hj.2, q w1 H1 _ x1 O1 it_rng⟩
    · cases e
  · cases e
theorem di_rng2 {tg a b : Expr} {ma : Ax} {p pos : Pos} (hg : Gl X "range") (hm : X.mg "range" = none) (ha : DA X [a, b] ma) (hs : starEach [a, b] X.env = [(false, eval a X.env), (false, eval b X.env)] := by rfl) (hs2 : starEach [b] X.env = [(false, eval b X.env)] := by rfl) : DI X tg (.Call (.Name "range" p) [a, b] [] pos) (iRng2 ma) :=
  (pi_range2 hg hm ha hs hs2).imp fun σ H Q h => by
  obtain ⟨w, env, mu, items, mu', S, O, e, q⟩ := h
  unfold iRng2 at e
  split at e
  · rename_i i j mu1 em
    split at e
    · rename_i hj
      cases e
      refine ⟨w, env, mu, _, _, S, O, em, fun w1 xs H1 x1 O1 r1 => ?_⟩
      cases r1 with
      | cons r1 r2 =>
        cases r2 with
        | cons r2 r3 =>
          cases r1; cases r2; cases r3
          exact ⟨i, j, rfl, hj, q w1 H1 _ x1 O1 it_rng⟩
    · cases e
  · cases e
/-! ### for -/
def lpFor (t : Tg) (body : Sx) : List Val → En → Mu → Option Fl
  | [], env, mu => some (.nx env mu)
  | v :: vs, env, mu => match t v env with
    | some env1 => (match body env1 mu with
      | some (.nx env2 mu2) => lpFor t body vs env2 mu2
      | some (.ct env2 mu2) => lpFor t body vs env2 mu2
      | some (.bk env2 mu2) => some (.nx env2 mu2)
      | some (.rt v mu2) => some (.rt v mu2)
      | none => none)
    | none => none
def sFor (it : Ix) (t : Tg) (body : Sx) : Sx := fun env mu => match it env mu with
  | some (items, mu1) => lpFor t body items env mu1
  | none => none
theorem ds_for {tg iter : Expr} {body : List Stmt} {it : Ix} {t : Tg} (hp : PassesOwn (model X.prog X.w) X.A X.env X.xe) (hc : X.calm = true) (hi : DI X tg iter it) (hg : DG X tg t) (hb : DSs X body b)
    (hs : ∀ x, foldedSetIterable iter X.env x = pure x := by intro _; rfl) : DS X (.For tg iter body [] pos) (sFor it t b) := (ps_for hp hc hi hg hb hs).imp fun D σ H h => by
  obtain ⟨w, env, mu, fl, S, O, e, q⟩ := h
  unfold sFor at e
  split at e
  · rename_i items mu1 ei
    refine ⟨w, env, mu, items, mu1, S, O, ei, fun w1 H1 J x1 O1 it1 => ?_⟩
    refine ⟨fun i n σ H => n = items.length - i ∧ i ≤ items.length ∧ ∃ w2 env2 mu2, Ext w1 w2 ∧ Slots X.kc w2 env2 σ ∧ Own X.kc w2 mu2 H ∧ lpFor t b (items.drop i) env2 mu2 = some fl, ⟨_, rfl, Nat.zero_le _, w1, env, mu1, Ext.refl w1, S.mono x1, O1, by simpa using e⟩, ?_⟩
    rintro i n σ2 H2 ⟨rfl, hi, w2, env2, mu2, x2, S2, O2, e2⟩
    by_cases hlt : i < items.length
    · refine .inr ⟨it1.go w2 mu2 H2 x2 O2 i hlt, ?_⟩
      refine ⟨fun σ' H' => ∃ w3 env3 mu3, Ext w1 w3 ∧ Slots X.kc w3 env3 σ' ∧ Own X.kc w3 mu3 H' ∧ lpFor t b (items.drop (i + 1)) env3 mu3 = some fl, ?_, ?_⟩
      · rintro σ' H' ⟨w3, env3, mu3, h1, h2, h3, h4⟩
        exact ⟨items.length - (i + 1), by omega, rfl, hlt, w3, env3, mu3, h1, h2, h3, h4⟩
      · intro x H3 hy
        obtain ⟨v, w3, hv, x3, O3, r3⟩ := it1.yld w2 mu2 H2 x2 O2 i x H3 hlt hy
        have ed : items.drop i = v :: items.drop (i + 1) := by
          rw [List.drop_eq_getElem_cons hlt]
          rw [List.getElem?_eq_getElem hlt] at hv
          cases hv; rfl
        rw [ed] at e2
        unfold lpFor at e2
        split at e2
        · rename_i env3 et
          refine ⟨w3, env2, mu2, v, env3, S2.mono x3, O3, r3, et, fun σ3 S3 => ?_⟩
          have x13 := x2.trans x3
          split at e2
          · rename_i env4 mu4 eb
            exact ⟨w3, env3, mu2, _, S3, O3, eb, fun w4 σ4 H4 x4 S4 O4 => ⟨w4, env4, mu4, x13.trans x4, S4, O4, e2⟩⟩
          · rename_i env4 mu4 eb
            exact ⟨w3, env3, mu2, _, S3, O3, eb, fun w4 σ4 H4 x4 S4 O4 => ⟨w4, env4, mu4, x13.trans x4, S4, O4, e2⟩⟩
          · rename_i env4 mu4 eb
            cases e2
            exact ⟨w3, env3, mu2, _, S3, O3, eb, fun w4 σ4 H4 x4 S4 O4 => q w4 σ4 H4 ((x1.trans x13).trans x4) S4 O4⟩
          · rename_i v4 mu4 eb
            cases e2
            exact ⟨w3, env3, mu2, _, S3, O3, eb, fun w4 y4 H4 x4 O4 r4 => q w4 y4 H4 ((x1.trans x13).trans x4) O4 r4⟩
          · cases e2
        · cases e2
    · have hi' : i = items.length := by omega
      refine .inl ⟨it1.stop w2 mu2 H2 x2 O2 i (by omega), ?_⟩
      rw [hi', List.drop_length] at e2
      unfold lpFor at e2
      cases e2
      exact q w2 σ2 H2 (x1.trans x2) S2 O2
  · cases e
/-! ### while -/
def lpW (c : Tx) (body : Sx) : Nat → En → Mu → Option Fl
  | 0, _, _ => none
  | n + 1, env, mu => match c env mu with
    | some (true, mu1) => (match body env mu1 with
      | some (.nx env2 mu2) => lpW c body n env2 mu2
      | some (.ct env2 mu2) => lpW c body n env2 mu2
      | some (.bk env2 mu2) => some (.nx env2 mu2)
      | some (.rt v mu2) => some (.rt v mu2)
      | none => none)
    | some (false, mu1) => some (.nx env mu1)
    | none => none
theorem lpW_up {c : Tx} {body : Sx} : ∀ {n m : Nat} {env : En} {mu : Mu} {fl : Fl}, lpW c body n env mu = some fl → n ≤ m → lpW c body m env mu = some fl
  | 0, _, _, _, _, h, _ => by simp [lpW] at h
  | n + 1, 0, _, _, _, _, hl => by omega
  | n + 1, m + 1, env, mu, fl, h, hl => by
    unfold lpW at h ⊢
    split at h
    · rename_i mu1 e1
      split at h
      · rename_i env2 mu2 eb
        exact lpW_up h (by omega)
      · rename_i env2 mu2 eb
        exact lpW_up h (by omega)
      · exact h
      · exact h
      · cases h
    · exact h
    · cases h
open Classical in
noncomputable def sWhile (c : Tx) (body : Sx) : Sx := fun env mu => if h : ∃ n fl, lpW c body n env mu = some fl then some (Classical.choose (Classical.choose_spec h)) else none
theorem sWhile_of {c : Tx} {body : Sx} {n : Nat} {env : En} {mu : Mu} {fl : Fl} (h : lpW c body n env mu = some fl) : sWhile c body env mu = some fl := by
  have ex : ∃ n fl, lpW c body n env mu = some fl := ⟨n, fl, h⟩
  unfold sWhile
  rw [dif_pos ex]
  have h2 := Classical.choose_spec (Classical.choose_spec ex)
  have h3 := lpW_up h2 (Nat.le_max_right n _)
  have h4 := lpW_up h (Nat.le_max_left n (Classical.choose ex))
  rw [h4] at h3
  exact h3.symm
theorem sWhile_ex {c : Tx} {body : Sx} {env : En} {mu : Mu} {fl : Fl} (h : sWhile c body env mu = some fl) : ∃ n, lpW c body n env mu = some fl := by
  unfold sWhile at h
  split at h
  · rename_i ex
    cases h
    exact ⟨_, Classical.choose_spec (Classical.choose_spec ex)⟩
  · cases h
theorem ds_while {t : Expr} {body : List Stmt} (hp : PassesOwn (model X.prog X.w) X.A X.env X.xe) (hc : DT X t c) (hb : DSs X body b) : DS X (.While t body [] pos) (sWhile c b) := (ps_while hp hc hb).imp fun D σ H h => by
  obtain ⟨w, env, mu, fl, S, O, e, q⟩ := h
  obtain ⟨n, e⟩ := sWhile_ex e
  refine ⟨fun n σ H => ∃ w2 env2 mu2, Ext w w2 ∧ Slots X.kc w2 env2 σ ∧ Own X.kc w2 mu2 H ∧ lpW c b n env2 mu2 = some fl, ⟨n, w, env, mu, Ext.refl w, S, O, e⟩, ?_⟩
  rintro n σ2 H2 ⟨w2, env2, mu2, x2, S2, O2, e2⟩
  cases n with
  | zero => cases e2
  | succ n =>
    unfold lpW at e2
    split at e2
    · rename_i mu3 ec
      refine ⟨w2, env2, mu2, true, mu3, S2, O2, ec, fun w3 H3 x3 O3 => ?_⟩
      have x13 := x2.trans x3
      have S3 := S2.mono x3
      dsimp only
      rw [if_pos rfl]
      refine ⟨fun σ' H' => ∃ w4 env4 mu4, Ext w w4 ∧ Slots X.kc w4 env4 σ' ∧ Own X.kc w4 mu4 H' ∧ lpW c b n env4 mu4 = some fl, fun σ' H' z => ⟨n, Nat.lt_succ_self n, z⟩, ?_⟩
      split at e2
      · rename_i env4 mu4 eb
        exact ⟨w3, env2, mu3, _, S3, O3, eb, fun w4 σ4 H4 x4 S4 O4 => ⟨w4, env4, mu4, x13.trans x4, S4, O4, e2⟩⟩
      · rename_i env4 mu4 eb
        exact ⟨w3, env2, mu3, _, S3, O3, eb, fun w4 σ4 H4 x4 S4 O4 => ⟨w4, env4, mu4, x13.trans x4, S4, O4, e2⟩⟩
      · rename_i env4 mu4 eb
        cases e2
        exact ⟨w3, env2, mu3, _, S3, O3, eb, fun w4 σ4 H4 x4 S4 O4 => q w4 σ4 H4 (x13.trans x4) S4 O4⟩
      · rename_i v4 mu4 eb
        cases e2
        exact ⟨w3, env2, mu3, _, S3, O3, eb, fun w4 y4 H4 x4 O4 r4 => q w4 y4 H4 (x13.trans x4) O4 r4⟩
      · cases e2
    · rename_i mu3 ec
      cases e2
      refine ⟨w2, env2, mu2, false, _, S2, O2, ec, fun w3 H3 x3 O3 => ?_⟩
      dsimp only
      rw [if_neg Bool.false_ne_true]
      exact q w3 σ2 H3 (x2.trans x3) (S2.mono x3) O3
    · cases e2
end
end Vi

set_option Elab.async false
set_option linter.all false
set_option maxRecDepth 100000
set_option maxHeartbeats 4000000
/-! Vi4: defs of one's own: what they promise, how they are called. -/
namespace Vi
open PySem PySem.Spec PyProof.Rows L2
inductive Mode where
  | f | b | m
inductive Arg where
  | f (d : T) | b (d : T) | m (c : Cell)
inductive Ret where
  | v (d : T) | fr (c : Cell)
abbrev FnS := List Arg → Option (Ret × List Cell)
@[simp] def ofB : T → Val
  | .list ds => .bor (.list ds)
  | .dict ds => .bor (.dict ds)
  | d => .t d
@[simp] def argVals : List Arg → Nat → List Val
  | [], _ => []
  | .f d :: as, n => .t d :: argVals as n
  | .b d :: as, n => ofB d :: argVals as n
  | .m _ :: as, n => .lab n :: argVals as (n + 1)
@[simp] def argMu : List Arg → List Cell
  | [] => []
  | .m c :: as => c :: argMu as
  | .f _ :: as => argMu as
  | .b _ :: as => argMu as
def Pure (c : Cell) : Bool := (cellT c).isSome
@[simp] def endCells : Nat → Mu → Option (List Cell)
  | 0, _ => some []
  | n + 1, some c :: mu => if Pure c then (match endCells n mu with
    | some cs => some (c :: cs)
    | none => none) else none
  | _ + 1, _ => none
@[simp] def finish (n : Nat) (v : Val) (mu : Mu) : Option (Ret × List Cell) := match endCells n mu with
  | some cs => (match v with
    | .t d => some (.v d, cs)
    | .lab l => if n ≤ l then (match mu[l]? with
      | some (some c) => if Pure c then some (.fr c, cs) else none
      | _ => none) else none
    | .bor _ => none)
  | none => none
/-- a def by its body: p parameters, n names -/
@[simp] def fnS (p n : Nat) (body : Sx) : FnS := fun as => if as.length = p then
    (match body ((argVals as 0).map some ++ List.replicate (n - p) none) ((argMu as).map some) with
    | some (.rt v mu) => finish (argMu as).length v mu
    | some (.nx _ mu) => finish (argMu as).length (.t .none) mu
    | _ => none)
  else none
section
variable (K : Kc)
def RetOk (w : Wd) (mu : Mu) (H : Hp) (x : V) : Ret → Prop
  | .v d => Rep K w.F x d
  | .fr c => ∃ a, x = .ref a ∧ Pure c = true ∧ Fresh w mu a ∧ CellOk K w H a c
def spF (m : FnS) : Sp := fun vs H Q _ => ∃ w as r cs, Own K w ((argMu as).map some) H ∧ Paired (RV K w) vs (argVals as 0) ∧ vs.length = as.length ∧ m as = some (r, cs) ∧
  ∀ w' x H', Ext w w' → w'.r = w.r → Own K w' (cs.map some) H' → RetOk K w' (cs.map some) H' x r → Q x H'
end
section
variable {K : Kc} {w w' : Wd} {H H' : Hp} {x : V} {mu : Mu} {a : Addr} {c : Cell}
theorem datas_some {vs : List Val} (h : (datas vs).isSome = true) : ∃ ds : List T, vs = ds.map Val.t := by
  cases e : datas vs with
  | none => rw [e] at h; cases h
  | some ds => exact ⟨ds, datas_eq e⟩
/-- a cell of data leans on what stands for good alone -/
theorem CellOk.pure (s : Sub w.F w'.F) (hH : H' a = H a) (p : Pure c = true) (h : CellOk K w H a c) : CellOk K w' H' a c := by
  unfold Pure at p
  cases c with
  | lst vs =>
    obtain ⟨xs, h1, h2⟩ := h
    have p : ((datas vs).map PyData.list).isSome = true := p
    rw [Option.isSome_map] at p
    obtain ⟨ds, rfl⟩ := datas_some p
    exact ⟨xs, hH.trans h1, Pd.ofRep ((Pd.toRep h2).mono s)⟩
  | dct q kvs =>
    obtain ⟨xs, o, h1, h2, h3⟩ := h
    have p : (if q = .n then none else (datas (kvs.map (·.2))).map fun ds => PyData.dict ((kvs.map (·.1)).zip ds)).isSome = true := p
    split at p
    · cases p
    rw [Option.isSome_map] at p
    obtain ⟨ds, hd⟩ := datas_some p
    rw [hd] at h3
    refine ⟨xs, o, hH.trans h1, h2, ?_⟩
    rw [hd]
    exact Pd.ofRep ((Pd.toRep h3).mono s)
theorem CellOk.re {r : List Addr} {G : Hp} (h : CellOk K w H a c) (p : Pure c = true) : CellOk K ⟨w.F, G, r⟩ H a c := CellOk.pure (w := w) (w' := ⟨w.F, G, r⟩) Sub.rfl' rfl p h
theorem endCells_ok : ∀ {n : Nat} {mu : Mu} {cs : List Cell}, endCells n mu = some cs → mu.take n = cs.map some ∧ (∀ c ∈ cs, Pure c = true) ∧ cs.length = n
  | 0, mu, cs, h => by simp [endCells] at h; subst h; simp
  | n + 1, [], cs, h => by simp [endCells] at h
  | n + 1, none :: mu, cs, h => by simp [endCells] at h
  | n + 1, some c :: mu, cs, h => by
    unfold endCells at h
    split at h
    · rename_i hp
      split at h
      · rename_i cs' h'
        cases h
        obtain ⟨h1, h2, h3⟩ := endCells_ok h'
        refine ⟨by simp [h1], fun d hd => ?_, by simp [h3]⟩
        rcases List.mem_cons.mp hd with rfl | hd
        · exact hp
        · exact h2 d hd
      · cases h
    · cases h
theorem Own.take {n : Nat} {cs : List Cell} (O : Own K w mu H) (h : mu.take n = cs.map some) (hp : ∀ c ∈ cs, Pure c = true) (hn : cs.length = n) : Own K { w with r := w.r.take n } (cs.map some) H := by
  have lk : ∀ {l : Nat} {c : Cell}, (cs.map some)[l]? = some (some c) → l < n ∧ mu[l]? = some (some c) := fun {l c} e => by
    rw [← h] at e
    rw [List.getElem?_take] at e
    split at e
    · rename_i hl; exact ⟨hl, e⟩
    · cases e
  have hm : n ≤ mu.length := by
    have := congrArg List.length h
    simp only [List.length_take, List.length_map] at this
    omega
  refine ⟨O.sub, O.subG, O.dis, ?_, fun l c e => ?_, fun l l' c1 c2 b e1 e2 p1 p2 => ?_⟩
  · show _ = (w.r.take n).length
    rw [List.length_map, List.length_take, ← O.len]; omega
  · obtain ⟨hl, e'⟩ := lk e
    obtain ⟨b, h1, h2, h3, h4⟩ := O.cell l c e'
    refine ⟨b, ?_, h2, h3, CellOk.re h4 (hp c ?_)⟩
    · show (w.r.take n)[l]? = some b
      rw [List.getElem?_take, if_pos hl]; exact h1
    · have := List.mem_of_getElem? e
      simpa using this
  · obtain ⟨hl1, e1'⟩ := lk e1
    obtain ⟨hl2, e2'⟩ := lk e2
    have p1 : (w.r.take n)[l]? = some b := p1
    have p2 : (w.r.take n)[l']? = some b := p2
    rw [List.getElem?_take, if_pos hl1] at p1
    rw [List.getElem?_take, if_pos hl2] at p2
    exact O.inj l l' c1 c2 b e1' e2' p1 p2
theorem rep_of_b {d : T} (h : RepB K w x d) : RV K w x (ofB d) := by
  cases d with
  | list ds => exact h
  | dict ds => exact h
  | none => 
    rcases h with h | ⟨_, _, _, e, _⟩ | ⟨_, _, _, _, _, _, e, _⟩
    · exact h
    · cases e
    · cases e
  | bool b =>
    rcases h with h | ⟨_, _, _, e, _⟩ | ⟨_, _, _, _, _, _, e, _⟩
    · exact h
    · cases e
    · cases e
  | int b =>
    rcases h with h | ⟨_, _, _, e, _⟩ | ⟨_, _, _, _, _, _, e, _⟩
    · exact h
    · cases e
    · cases e
  | str b =>
    rcases h with h | ⟨_, _, _, e, _⟩ | ⟨_, _, _, _, _, _, e, _⟩
    · exact h
    · cases e
    · cases e
  | tuple b =>
    rcases h with h | ⟨_, _, _, e, _⟩ | ⟨_, _, _, _, _, _, e, _⟩
    · exact h
    · cases e
    · cases e
theorem argVals_len : ∀ (as : List Arg) (n : Nat), (argVals as n).length = as.length
  | [], _ => rfl
  | .f _ :: as, n => congrArg Nat.succ (argVals_len as n)
  | .b _ :: as, n => congrArg Nat.succ (argVals_len as n)
  | .m _ :: as, n => congrArg Nat.succ (argVals_len as (n + 1))
/-! ### a def keeps its promise -/
theorem slots_start {N : List Str} {p : Nat} {vs : List V} {us : List Val} (h : Paired (RV K w) vs us) (hp : us.length = p) (hN : p ≤ N.length) : Slots K w (us.map some ++ List.replicate (N.length - p) none) (L2.start N vs) := by
  have hl := Paired.length h
  refine ⟨by simp [L2.start, hl, hp], fun i v e => ?_⟩
  by_cases hi : i < us.length
  · rw [List.getElem?_append_left (by simpa using hi)] at e
    rw [List.getElem?_map] at e
    cases z : us[i]? with
    | none => rw [z] at e; cases e
    | some u =>
      rw [z] at e
      cases e
      obtain ⟨x, h1, h2⟩ := Pd.get h z
      refine ⟨x, ?_, h2⟩
      unfold L2.start
      rw [List.getElem?_append_left (by simpa [hl] using hi), List.getElem?_map, h1]
      rfl
  · rw [List.getElem?_append_right (by simpa using hi), List.getElem?_replicate] at e
    split at e
    · cases e
    · cases e
section
variable {mg : Str → Option Value} {base : Heap}
theorem finish_ok {n : Nat} {v : Val} {r : Ret} {cs : List Cell} {Q : VK} (h : finish n v mu = some (r, cs)) (O : Own K w mu H) (rv : RV K w x v)
    (q : ∀ w' y H', Ext { w with r := w.r.take n } w' → w'.r = w.r.take n → Own K w' (cs.map some) H' → RetOk K w' (cs.map some) H' y r → Q y H') : Q x H := by
  unfold finish at h
  split at h
  · rename_i cs' he
    obtain ⟨h1, h2, h3⟩ := endCells_ok he
    split at h
    · cases h
      exact q _ x H (Ext.refl _) rfl (O.take h1 h2 h3) rv
    · rename_i l
      split at h
      · rename_i hl
        split at h
        · rename_i c hc
          split at h
          · rename_i hp
            cases h
            obtain ⟨b, hb, rfl⟩ := rv
            obtain ⟨b', hb', z1, z2, z3⟩ := O.cell l c hc
            rw [hb] at hb'; cases hb'
            refine q _ _ H (Ext.refl _) rfl (O.take h1 h2 h3) ⟨b, rfl, hp, ⟨z1, z2, fun j d e z => ?_⟩, CellOk.re z3 hp⟩
            have hj : j < n := by
              have := (List.getElem?_eq_some_iff.mp e).1
              rw [List.length_map, h3] at this; exact this
            have e' : mu[j]? = some (some d) := by
              rw [← h1, List.getElem?_take, if_pos hj] at e; exact e
            have z' : (w.r.take n)[j]? = some b := z
            rw [List.getElem?_take, if_pos hj] at z'
            have := O.inj j l d c b e' hc z' hb
            omega
          · cases h
        · cases h
      · cases h
    · cases h
  · cases h
theorem fn_ok {x qual : Str} {params : Arguments} {body : List Stmt} {scope : Scope} {dvs : List V} {kws : List (Str × V)} {f : Addr} {fd : FuncData} {N ps : List Str} {k : Nat} {m : Sx}
    (F : FunD K.k x qual params body scope dvs kws f fd) (S : FnScope N ps scope)
    (hb : ∀ (cdv : Value) (A : Around) (outer : List Env) (s : Shared) (H : Hp) (E : XK), Room k (A.deeper (envOfC qual scope s.heap.objs.size f cdv)) → DSs (cxOf CX0 K.p K.w K.k mg base N qual scope f cdv A outer s H E) body m) :
    FnOk K.p K.w K.k mg base CX0 (k + 1) f fd ps (spF K (fnS ps.length N.length m)) := by
  refine F.ok S (fun vs H Q E h => ?_) (fun cdv A outer s H vs Q E hr h => ⟨_, hb cdv A outer s H E hr, ?_⟩)
  · obtain ⟨w, as, r, cs, O, hv, hl, e, q⟩ := h
    unfold fnS at e
    split at e
    · rename_i hp; rw [hl]; exact hp
    · cases e
  · obtain ⟨w, as, r, cs, O, hv, hl, e, q⟩ := h
    have hps : ps.length ≤ N.length := by
      have := congrArg List.length S.pre
      rw [List.length_take] at this; omega
    unfold fnS at e
    split at e
    · rename_i hp
      have hlen : (argVals as 0).length = ps.length := (argVals_len as 0).trans hp
      have S0 := slots_start (N := N) hv hlen hps
      have rn : w.r.take (argMu as).length = w.r := by
        have := O.len
        rw [List.length_map] at this
        rw [this, List.take_length]
      split at e
      · rename_i v mu2 eb
        refine ⟨w, _, _, _, S0, O, eb, fun w1 y H1 x1 O1 r1 => ?_⟩
        refine finish_ok e O1 r1 fun w2 z H2 x2 hr2 O2 r2 => q w2 z H2 ?_ ?_ O2 r2
        · obtain ⟨more, hm⟩ := x1.r
          have ht : w1.r.take (argMu as).length = w.r := by
            rw [hm, List.take_append_of_le_length (by rw [← O.len, List.length_map]; exact Nat.le_refl _)]
            exact rn
          exact ⟨x1.F.trans x2.F, x1.G.trans x2.G, ⟨[], by rw [hr2, ht]; simp⟩⟩
        · obtain ⟨more, hm⟩ := x1.r
          rw [hr2, hm, List.take_append_of_le_length (by rw [← O.len, List.length_map]; exact Nat.le_refl _)]
          exact rn
      · rename_i env2 mu2 eb
        refine ⟨w, _, _, _, S0, O, eb, fun w1 σ1 H1 x1 S1 O1 => ?_⟩
        refine finish_ok (x := .non) e O1 Rep.non fun w2 z H2 x2 hr2 O2 r2 => q w2 z H2 ?_ ?_ O2 r2
        · obtain ⟨more, hm⟩ := x1.r
          have ht : w1.r.take (argMu as).length = w.r := by
            rw [hm, List.take_append_of_le_length (by rw [← O.len, List.length_map]; exact Nat.le_refl _)]
            exact rn
          exact ⟨x1.F.trans x2.F, x1.G.trans x2.G, ⟨[], by rw [hr2, ht]; simp⟩⟩
        · obtain ⟨more, hm⟩ := x1.r
          rw [hr2, hm, List.take_append_of_le_length (by rw [← O.len, List.length_map]; exact Nat.le_refl _)]
          exact rn
      · cases e
    · cases e
end
end

/-! ### a call -/
@[simp] def toArg (mu : Mu) : Mode → Val → Option Arg
  | .f, .t d => some (.f d)
  | .b, .t d => some (.b d)
  | .b, .bor d => some (.b d)
  | .b, .lab l => (match mu[l]? with
    | some (some c) => (cellT c).map .b
    | _ => none)
  | .m, .lab l => (match mu[l]? with
    | some (some c) => if Pure c then some (.m c) else none
    | _ => none)
  | _, _ => none
@[simp] def toArgs (mu : Mu) : List Mode → List Val → Option (List Arg)
  | [], [] => some []
  | md :: ms, v :: vs => (match toArg mu md v with
    | some a => (match toArgs mu ms vs with
      | some as => some (a :: as)
      | none => none)
    | none => none)
  | _, _ => none
/-- the cells that are handed over; those that are lent -/
@[simp] def labsM : List Mode → List Val → List Nat
  | .m :: ms, .lab l :: vs => l :: labsM ms vs
  | _ :: ms, _ :: vs => labsM ms vs
  | _, _ => []
@[simp] def labsB : List Mode → List Val → List Nat
  | .b :: ms, .lab l :: vs => l :: labsB ms vs
  | _ :: ms, _ :: vs => labsB ms vs
  | _, _ => []
@[simp] def putCells : List Nat → List Cell → Mu → Mu
  | l :: ls, c :: cs, mu => putCells ls cs (mu.set l (some c))
  | _, _, mu => mu
abbrev Rx := En → Mu → Option (Ret × Mu)
@[simp] def rCall (m : FnS) (ms : List Mode) (args : Ax) : Rx := fun env mu => match args env mu with
  | some (vs, mu1) => (match toArgs mu1 ms vs with
    | some as => if (labsM ms vs).Nodup ∧ ∀ l ∈ labsB ms vs, l ∉ labsM ms vs then (match m as with
      | some (r, cs) => if cs.length = (labsM ms vs).length then some (r, putCells (labsM ms vs) cs mu1) else none
      | none => none) else none
    | none => none)
  | none => none
section
variable (K : Kc)
def tR (m : Rx) : TE := fun σ H Q => ∃ w env mu r mu', Slots K w env σ ∧ Own K w mu H ∧ m env mu = some (r, mu') ∧ ∀ w' x H', Ext w w' → Own K w' mu' H' → RetOk K w' mu' H' x r → Q x H'
end
section
variable {K : Kc} {w w' : Wd} {H H' : Hp} {x : V} {mu : Mu} {a : Addr} {c : Cell}
open Classical in
/-- what a callee must not touch: what is not touched here, and the cells that it is not handed -/
noncomputable def rigid (w : Wd) (mu : Mu) (ls : List Nat) (H : Hp) : Hp := fun a => match w.G a with
  | some o => some o
  | none => if ∃ l c, mu[l]? = some (some c) ∧ w.r[l]? = some a ∧ l ∉ ls then H a else none
theorem rigid_sub {ls : List Nat} (h : Sub w.G H) : Sub (rigid w mu ls H) H := fun a o e => by
  unfold rigid at e
  split at e
  · rename_i o' h'
    cases e
    exact h a _ h'
  · split at e
    · exact e
    · cases e
theorem rigid_G {ls : List Nat} : Sub w.G (rigid w mu ls H) := fun a o e => by
  unfold rigid
  rw [e]
theorem rigid_at {ls : List Nat} {l : Nat} {c : Cell} (O : Own K w mu H) (h1 : mu[l]? = some (some c)) (h2 : w.r[l]? = some a) (h3 : l ∉ ls) : rigid w mu ls H a = H a := by
  obtain ⟨b, e1, _, e2, _⟩ := O.cell l c h1
  rw [h2] at e1; cases e1
  unfold rigid
  rw [e2]
  dsimp only
  rw [if_pos ⟨l, c, h1, h2, h3⟩]
theorem rigid_none {ls : List Nat} {l : Nat} {c : Cell} (O : Own K w mu H) (h1 : mu[l]? = some (some c)) (h2 : w.r[l]? = some a) (h3 : l ∈ ls) : rigid w mu ls H a = none := by
  obtain ⟨b, e1, _, e2, _⟩ := O.cell l c h1
  rw [h2] at e1; cases e1
  unfold rigid
  rw [e2]
  dsimp only
  rw [if_neg]
  rintro ⟨l', c', z1, z2, z3⟩
  exact z3 (O.inj l l' c c' a h1 z1 h2 z2 ▸ h3)
theorem CellOk.some (h : CellOk K w H a c) : ∃ o, H a = some o := by
  cases c with
  | lst vs => obtain ⟨xs, h1, _⟩ := h; exact ⟨_, h1⟩
  | dct q kvs => obtain ⟨xs, o, h1, _⟩ := h; exact ⟨_, h1⟩
/-- the cells that are handed over, in the callee's order -/
theorem labs_live : ∀ {ms : List Mode} {vs : List Val} {as : List Arg}, toArgs mu ms vs = some as → Paired (fun l c => mu[l]? = some (some c) ∧ Pure c = true) (labsM ms vs) (argMu as)
  | [], [], as, h => by simp [toArgs] at h; subst h; exact .nil
  | [], _ :: _, as, h => by simp [toArgs] at h
  | _ :: _, [], as, h => by simp [toArgs] at h
  | md :: ms, v :: vs, as, h => by
    unfold toArgs at h
    split at h
    · rename_i a ha
      split at h
      · rename_i as' has
        cases h
        have ih := labs_live has
        unfold toArg at ha
        split at ha
        · cases ha; exact ih
        · cases ha; exact ih
        · cases ha; exact ih
        · split at ha
          · simp only [Option.map_eq_some_iff] at ha
            obtain ⟨d, _, rfl⟩ := ha
            exact ih
          · cases ha
        · split at ha
          · rename_i c hc
            split at ha
            · rename_i hp
              cases ha
              exact .cons ⟨hc, hp⟩ ih
            · cases ha
          · cases ha
        · cases ha
      · cases h
    · cases h
def adr (w : Wd) (l : Nat) : Addr := w.r.getD l 0
theorem adr_eq {l : Nat} (h : w.r[l]? = some a) : adr w l = a := by
  unfold adr
  rw [List.getD_eq_getElem?_getD, h]; rfl
/-- the callee's world -/
noncomputable def callee (w : Wd) (mu : Mu) (ls : List Nat) (H : Hp) : Wd := ⟨w.F, rigid w mu ls H, ls.map (adr w)⟩
theorem callee_own {ls : List Nat} {cs : List Cell} (O : Own K w mu H) (hl : Paired (fun l c => mu[l]? = some (some c) ∧ Pure c = true) ls cs) (nd : ls.Nodup) : Own K (callee w mu ls H) (cs.map some) H := by
  have at_ : ∀ {j : Nat} {c : Cell}, (cs.map some)[j]? = some (some c) → ∃ l b, ls[j]? = some l ∧ mu[l]? = some (some c) ∧ Pure c = true ∧ w.r[l]? = some b ∧ w.F b = none ∧ w.G b = none ∧ CellOk K w H b c := fun {j c} e => by
    rw [List.getElem?_map] at e
    cases z : cs[j]? with
    | none => rw [z] at e; cases e
    | some d =>
      rw [z] at e
      cases e
      obtain ⟨l, h1, h2, h3⟩ := Pd.get hl z
      obtain ⟨b, q1, q2, q3, q4⟩ := O.cell l _ h2
      exact ⟨l, b, h1, h2, h3, q1, q2, q3, q4⟩
  refine ⟨O.sub, rigid_sub O.subG, fun a o e => ?_, ?_, fun j c e => ?_, fun j j' c c' b e e' p p' => ?_⟩
  · have e : w.F a = some o := e
    show rigid w mu ls H a = none
    unfold rigid
    rw [O.dis a o e]
    dsimp only
    rw [if_neg]
    rintro ⟨l, c, z1, z2, _⟩
    obtain ⟨b, q1, q2, _⟩ := O.cell l c z1
    rw [z2] at q1; cases q1
    rw [e] at q2; cases q2
  · show _ = (ls.map (adr w)).length
    rw [List.length_map, List.length_map, Paired.length hl]
  · obtain ⟨l, b, h1, h2, h3, h4, h5, h6, h7⟩ := at_ e
    refine ⟨b, ?_, h5, ?_, CellOk.re h7 h3⟩
    · show (ls.map (adr w))[j]? = some b
      rw [List.getElem?_map, h1, ← adr_eq h4]; rfl
    · exact rigid_none O h2 h4 (List.mem_of_getElem? h1)
  · obtain ⟨l, b1, h1, h2, h3, h4, _⟩ := at_ e
    obtain ⟨l', b2, h1', h2', h3', h4', _⟩ := at_ e'
    have p : (ls.map (adr w))[j]? = some b := p
    have p' : (ls.map (adr w))[j']? = some b := p'
    rw [List.getElem?_map, h1] at p
    rw [List.getElem?_map, h1'] at p'
    have p : adr w l = b := Option.some.inj p
    have p' : adr w l' = b := Option.some.inj p'
    rw [adr_eq h4] at p
    rw [adr_eq h4'] at p'
    subst p
    have el : l = l' := O.inj l l' c c' _ h2 h2' h4 (by rw [h4', p'])
    subst el
    obtain ⟨q1, e1⟩ := List.getElem?_eq_some_iff.mp h1
    obtain ⟨q2, e2⟩ := List.getElem?_eq_some_iff.mp h1'
    exact (List.getElem_inj nd).mp (e1.trans e2.symm)
theorem cell_b {l : Nat} {d : T} (O : Own K w mu H) (h : mu[l]? = some (some c)) (e : cellT c = some d) (hr : w.r[l]? = some a) {ls : List Nat} (hn : l ∉ ls) : RepB K (callee w mu ls H) (.ref a) d := by
  obtain ⟨b, h1, _, _, h4⟩ := O.cell l c h
  rw [hr] at h1; cases h1
  have rg := rigid_at O h hr hn
  cases c with
  | lst vs =>
    obtain ⟨xs, q1, q2⟩ := h4
    simp only [cellT, Option.map_eq_some_iff] at e
    obtain ⟨ds, e1, rfl⟩ := e
    rw [datas_eq e1] at q2
    exact .inr (.inl ⟨a, xs, ds, rfl, rfl, .inr (rg.trans q1), show RepAll K w.F xs ds from Pd.toRep q2⟩)
  | dct q kvs =>
    obtain ⟨xs, o, q1, q2, q3⟩ := h4
    have e : (if q = .n then none else (datas (kvs.map (·.2))).map fun ds => PyData.dict ((kvs.map (·.1)).zip ds)) = some d := e
    split at e
    · cases e
    rename_i hq
    simp only [Option.map_eq_some_iff] at e
    obtain ⟨ds, e1, rfl⟩ := e
    rw [datas_eq e1] at q3
    exact .inr (.inr ⟨a, q, _, xs, o, ds, rfl, rfl, ⟨hq, q2⟩, rg.trans q1, show RepAll K w.F xs ds from Pd.toRep q3⟩)
theorem callee_args (O : Own K w mu H) {ls : List Nat} : ∀ {ms : List Mode} {vs : List Val} {as : List Arg} {xs : List V} {n : Nat}, toArgs mu ms vs = some as → Paired (RV K w) xs vs → (∀ l ∈ labsB ms vs, l ∉ ls) → (∃ pre, ls = pre ++ labsM ms vs ∧ pre.length = n) → Paired (RV K (callee w mu ls H)) xs (argVals as n)
  | [], [], as, xs, n, h, r, hb, hm => by
    simp [toArgs] at h; subst h
    cases r; exact .nil
  | [], _ :: _, as, xs, n, h, r, hb, hm => by simp [toArgs] at h
  | _ :: _, [], as, xs, n, h, r, hb, hm => by simp [toArgs] at h
  | md :: ms, v :: vs, as, xs, n, h, r, hb, hm => by
    unfold toArgs at h
    split at h
    · rename_i a ha
      split at h
      · rename_i as' has
        cases h
        cases r with
        | cons r1 r2 =>
          unfold toArg at ha
          split at ha
          · cases ha
            exact .cons r1 (callee_args O has r2 (fun l hl => hb l hl) hm)
          · cases ha
            exact .cons (rep_of_b (.inl r1)) (callee_args O has r2 (fun l hl => hb l hl) hm)
          · cases ha
            exact .cons (rep_of_b (RepB.mono (w := w) (w' := callee w mu ls H) Sub.rfl' (rigid_G (w := w) (mu := mu) (ls := ls) (H := H)) r1)) (callee_args O has r2 (fun l hl => hb l hl) hm)
          · rename_i l
            split at ha
            · rename_i c hc
              simp only [Option.map_eq_some_iff] at ha
              obtain ⟨d, hd, rfl⟩ := ha
              obtain ⟨b, hb1, rfl⟩ := r1
              exact .cons (rep_of_b (cell_b O hc hd hb1 (hb l (List.mem_cons_self ..)))) (callee_args O has r2 (fun l hl => hb l (List.mem_cons_of_mem _ hl)) hm)
            · cases ha
          · rename_i l
            split at ha
            · rename_i c hc
              split at ha
              · cases ha
                obtain ⟨b, hb1, rfl⟩ := r1
                obtain ⟨pre, e1, e2⟩ := hm
                refine .cons ⟨b, ?_, rfl⟩ (callee_args O has r2 (fun l hl => hb l hl) ⟨pre ++ [l], by rw [e1]; simp [labsM], by simp [e2]⟩)
                show (ls.map (adr w))[n]? = some b
                rw [List.getElem?_map, e1, List.getElem?_append_right (by omega), e2, Nat.sub_self]
                show some (adr w l) = some b
                rw [adr_eq hb1]
              · cases ha
            · cases ha
          · cases ha
      · cases h
    · cases h
theorem putCells_len : ∀ (ls : List Nat) (cs : List Cell) (mu : Mu), (putCells ls cs mu).length = mu.length
  | [], _, _ => rfl
  | _ :: _, [], _ => rfl
  | l :: ls, c :: cs, mu => by unfold putCells; rw [putCells_len, List.length_set]
theorem putCells_out : ∀ {ls : List Nat} {cs : List Cell} {mu : Mu} {l : Nat}, l ∉ ls → (putCells ls cs mu)[l]? = mu[l]?
  | [], _, _, _, _ => rfl
  | _ :: _, [], _, _, _ => rfl
  | i :: ls, c :: cs, mu, l, h => by
    unfold putCells
    rw [putCells_out (fun z => h (List.mem_cons_of_mem _ z)), List.getElem?_set_ne (fun z => h (by rw [z]; exact List.mem_cons_self ..))]
theorem putCells_at : ∀ {ls : List Nat} {cs : List Cell} {mu : Mu} {j l : Nat}, ls.Nodup → ls.length = cs.length → ls[j]? = some l → l < mu.length → (putCells ls cs mu)[l]? = (cs[j]?).map some
  | [], _, _, _, _, _, _, h, _ => by simp at h
  | _ :: _, [], _, _, _, _, hl, _, _ => by simp at hl
  | i :: ls, c :: cs, mu, 0, l, nd, hl, h, hm => by
    simp at h; subst h
    unfold putCells
    rw [putCells_out (List.nodup_cons.mp nd).1, List.getElem?_set_self hm]
    rfl
  | i :: ls, c :: cs, mu, j + 1, l, nd, hl, h, hm => by
    unfold putCells
    rw [putCells_at (j := j) (List.nodup_cons.mp nd).2 (by simpa using hl) (by simpa using h) (by simpa using hm)]
    rfl
theorem caller_own {ls : List Nat} {cs cs' : List Cell} (O : Own K w mu H) (hl : Paired (fun l c => mu[l]? = some (some c) ∧ Pure c = true) ls cs) (nd : ls.Nodup) (hcs : cs'.length = ls.length)
    (e : Ext (callee w mu ls H) w') (hr : w'.r = (callee w mu ls H).r) (O' : Own K w' (cs'.map some) H') (hp : ∀ c ∈ cs', Pure c = true) : Own K ⟨w'.F, w.G, w.r⟩ (putCells ls cs' mu) H' := by
  have live : ∀ {l : Nat} {c : Cell}, (putCells ls cs' mu)[l]? = some (some c) → (∃ j c0, ls[j]? = some l ∧ cs'[j]? = some c ∧ mu[l]? = some (some c0)) ∨ (l ∉ ls ∧ mu[l]? = some (some c)) := fun {l c} h => by
    by_cases q : l ∈ ls
    · obtain ⟨j, hj, ej⟩ := List.getElem_of_mem q
      have ej' : ls[j]? = some l := by rw [List.getElem?_eq_getElem hj, ej]
      have hc : j < cs.length := by rw [← Paired.length hl]; exact hj
      obtain ⟨l2, h1, h2, h3⟩ := Pd.get hl (List.getElem?_eq_getElem hc)
      rw [ej'] at h1; cases h1
      rw [putCells_at nd hcs.symm ej' (List.getElem?_eq_some_iff.mp h2).1] at h
      cases z : cs'[j]? with
      | none => rw [z] at h; cases h
      | some d => rw [z] at h; cases h; exact .inl ⟨j, _, ej', z, h2⟩
    · rw [putCells_out q] at h
      exact .inr ⟨q, h⟩
  have alive : ∀ {l : Nat} {c : Cell}, (putCells ls cs' mu)[l]? = some (some c) → ∃ c0, mu[l]? = some (some c0) := fun {l c} h => by
    rcases live h with ⟨_, c0, _, _, z⟩ | ⟨_, z⟩
    · exact ⟨c0, z⟩
    · exact ⟨c, z⟩
  refine ⟨O'.sub, (rigid_G.trans e.G).trans O'.subG, fun a o h => ?_, by rw [putCells_len]; exact O.len, fun l c h => ?_, fun l l' c c' b h h' p p' => ?_⟩
  · have := O'.dis a o h
    exact Sub.nn (rigid_G.trans e.G) this
  · rcases live h with ⟨j, c0, h1, h2, h3⟩ | ⟨hn, h3⟩
    · obtain ⟨b, q1, q2, q3, q4⟩ := O.cell l c0 h3
      obtain ⟨b', z1, z2, z3, z4⟩ := O'.cell j c (by rw [List.getElem?_map, h2]; rfl)
      have : b' = b := by
        rw [hr] at z1
        have z1 : (ls.map (adr w))[j]? = some b' := z1
        rw [List.getElem?_map, h1] at z1
        have z1 : adr w l = b' := Option.some.inj z1
        rw [adr_eq q1] at z1; exact z1.symm
      subst this
      exact ⟨b', q1, z2, q3, CellOk.re z4 (hp c (List.mem_of_getElem? h2))⟩
    · obtain ⟨b, q1, q2, q3, q4⟩ := O.cell l c h3
      obtain ⟨o, ho⟩ := q4.some
      have rg := (rigid_at O h3 q1 hn).trans ho
      have g' := e.G _ _ rg
      have hH : H' b = H b := (O'.subG _ _ g').trans ho.symm
      refine ⟨b, q1, ?_, q3, CellOk.mono (w := w) (w' := ⟨w'.F, w.G, w.r⟩) e.F ⟨[], by simp⟩ hH q4⟩
      show w'.F b = none
      cases z : w'.F b with
      | none => rfl
      | some u => have := O'.dis b u z; rw [this] at g'; cases g'
  · obtain ⟨c0, z⟩ := alive h
    obtain ⟨c0', z'⟩ := alive h'
    exact O.inj l l' c0 c0' b z z' p p'
theorem spF_call {m : FnS} {ms : List Mode} {vs : List Val} {as : List Arg} {xs : List V} {r : Ret} {cs : List Cell} {Q : VK} {E : XK} (O : Own K w mu H) (rv : Paired (RV K w) xs vs) (ha : toArgs mu ms vs = some as) (nd : (labsM ms vs).Nodup) (hb : ∀ l ∈ labsB ms vs, l ∉ labsM ms vs)
    (e : m as = some (r, cs)) (hl : cs.length = (labsM ms vs).length) (hp : ∀ c ∈ cs, Pure c = true) (q : ∀ w' x H', Ext w w' → Own K w' (putCells (labsM ms vs) cs mu) H' → RetOk K w' (putCells (labsM ms vs) cs mu) H' x r → Q x H') : spF K m xs H Q E := by
  have lv := labs_live ha
  have args := callee_args (n := 0) O ha rv hb ⟨[], rfl, rfl⟩
  refine ⟨callee w mu (labsM ms vs) H, as, r, cs, callee_own O lv nd, args, by rw [Paired.length args, argVals_len], e, fun w' x H' x1 hr O' ro => ?_⟩
  have O2 := caller_own O lv nd hl x1 hr O' hp
  refine q ⟨w'.F, w.G, w.r⟩ x H' ⟨x1.F, Sub.rfl', ⟨[], by simp⟩⟩ O2 ?_
  cases r with
  | v d => exact ro
  | fr c =>
    obtain ⟨a, rfl, pc, ⟨f1, f2, f3⟩, f4⟩ := ro
    refine ⟨a, rfl, pc, ⟨f1, Sub.nn (rigid_G.trans x1.G) f2, fun l d h z => ?_⟩, CellOk.re f4 pc⟩
    by_cases hn : l ∈ labsM ms vs
    · obtain ⟨j, hj, ej⟩ := List.getElem_of_mem hn
      have ej' : (labsM ms vs)[j]? = some l := by rw [List.getElem?_eq_getElem hj, ej]
      have hj2 : j < cs.length := by rw [hl]; exact hj
      refine f3 j cs[j] (by rw [List.getElem?_map, List.getElem?_eq_getElem hj2]; rfl) ?_
      rw [hr]
      show ((labsM ms vs).map (adr w))[j]? = some a
      rw [List.getElem?_map, ej']
      show some (adr w l) = some a
      have z : w.r[l]? = some a := z
      rw [adr_eq z]
    · rw [putCells_out hn] at h
      obtain ⟨b, q1, q2, q3, q4⟩ := O.cell l d h
      rw [z] at q1; cases q1
      obtain ⟨o, ho⟩ := q4.some
      have g' := x1.G _ _ ((rigid_at O h z hn).trans ho)
      rw [f2] at g'; cases g'
/-- a callee hands back cells of data -/
def PureF (m : FnS) : Prop := ∀ as r cs, m as = some (r, cs) → ∀ c ∈ cs, Pure c = true
theorem pureF_fnS {p n : Nat} {b : Sx} : PureF (fnS p n b) := fun as r cs h => by
  unfold fnS at h
  split at h
  · have fin : ∀ {k : Nat} {v : Val} {mu : Mu}, finish k v mu = some (r, cs) → ∀ c ∈ cs, Pure c = true := fun {k v mu} h => by
      unfold finish at h
      split at h
      · rename_i cs' he
        obtain ⟨_, h2, _⟩ := endCells_ok he
        split at h
        · cases h; exact h2
        · split at h
          · split at h
            · split at h
              · cases h; exact h2
              · cases h
            · cases h
          · cases h
        · cases h
      · cases h
    split at h
    · exact fin h
    · exact fin h
    · cases h
  · cases h
theorem tR_call {m : FnS} {ms : List Mode} {args : Ax} {t : TA} {E : XK} (pm : PureF m) {σ : L2.St} {Q : VK} (h : tR K (rCall m ms args) σ H Q) (ht : ∀ Q', tA K args σ H Q' → t σ H Q') (md : (∀ vs H, spF K m vs H Q E → spF K m vs H Q E)) : t σ H fun vs H1 => spF K m vs H1 Q E := by
  obtain ⟨w, env, mu, r, mu', S, O, e, q⟩ := h
  unfold rCall at e
  split at e
  · rename_i vs mu1 ea
    split at e
    · rename_i as has
      split at e
      · rename_i hc
        split at e
        · rename_i r' cs em
          split at e
          · rename_i hl
            cases e
            refine ht _ ⟨w, env, mu, vs, mu1, S, O, ea, fun w1 xs H1 x1 O1 r1 => ?_⟩
            exact spF_call O1 r1 has hc.1 hc.2 em hl (pm _ _ _ em) fun w2 x H2 x2 O2 ro => q w2 x H2 (x1.trans x2) O2 ro
          · cases e
        · cases e
      · cases e
    · cases e
  · cases e
/-- a result taken for good; as a new thing -/
@[simp] def eRet (m : Rx) : Ex := fun env mu => match m env mu with
  | some (.v d, mu1) => some (.t d, mu1)
  | some (.fr c, mu1) => (match cellT c with
    | some d => some (.t d, mu1)
    | none => none)
  | none => none
@[simp] def fRet (m : Rx) : Fx := fun env mu => match m env mu with
  | some (.fr c, mu1) => some (c, mu1)
  | _ => none
theorem tE_ret {m : Rx} {σ : L2.St} {Q : VK} (h : tE K (eRet m) σ H Q) : tR K m σ H Q := by
  obtain ⟨w, env, mu, v, mu', S, O, e, q⟩ := h
  unfold eRet at e
  split at e
  · rename_i d mu1 em
    cases e
    exact ⟨w, env, mu, _, _, S, O, em, fun w1 x H1 x1 O1 ro => q w1 x H1 x1 O1 ro⟩
  · rename_i c mu1 em
    split at e
    · rename_i d ed
      cases e
      refine ⟨w, env, mu, _, _, S, O, em, fun w1 x H1 x1 O1 ro => ?_⟩
      obtain ⟨a, rfl, pc, f, ck⟩ := ro
      obtain ⟨o, h1, h2⟩ := cell_rep ck ed
      exact q { w1 with F := upd w1.F a o } _ H1 (x1.trans (ext_laidF f.1)) (O1.freeze f h1) (h2 _ (Sub.new f.1) upd_same)
    · cases e
  · cases e
theorem tF_ret {m : Rx} {σ : L2.St} {Q : VK} (h : tF K (fRet m) σ H Q) : tR K m σ H Q := by
  obtain ⟨w, env, mu, v, mu', S, O, e, q⟩ := h
  unfold fRet at e
  split at e
  · rename_i c mu1 em
    cases e
    refine ⟨w, env, mu, _, _, S, O, em, fun w1 x H1 x1 O1 ro => ?_⟩
    obtain ⟨a, rfl, pc, f, ck⟩ := ro
    exact q w1 a H1 x1 O1 f ck
  · cases e
end
section
variable {X : Cx} {k : Nat} {f : Addr} {fd : FuncData} {ps ks : List Str} {m : FnS} {ms : List Mode} {x : Str} {p pos : Pos} {e : Expr} {es : List Expr} {args : Ax} {dvs : List V} {ds : List Value}
def DR (X : Cx) (e : Expr) (m : Rx) : Prop := PE X e (tR X.kc m)
theorem de_ret {m : Rx} (h : DR X e m) : DE X e (eRet m) := PE.imp h fun _ _ _ h => tE_ret h
theorem df_ret {m : Rx} (h : DR X e m) : DF X e (fRet m) := PE.imp h fun _ _ _ h => tF_ret h
theorem dr_call (F : FnOk X.prog X.w X.K X.mg X.base CX0 k f fd ps (spF X.kc m)) (pm : PureF m) (hr : Room k X.A) (hg : Gl X x) (hm : X.mg x = some (.ref f)) (hk : PySem.W.keepIn X.K (.ref f) = true) (hb : Binds X.K fd ps [])
    (ha : DA X (e :: es) args) (hdb : (x == ("__debug__" : Str)) = false := by decide) (he : starEach (e :: es) X.env = (false, eval e X.env) :: starEach es X.env := by rfl) (hpl : (backTo pos (starEach es X.env)).any (·.1) = false := by rfl) :
    DR X (.Call (.Name x p) (e :: es) [] pos) (rCall m ms args) := (pe_call F hr hg hm hk hb (dvs := []) .nil pass0 ha hdb he hpl).imp fun σ H Q h => by
  have := tR_call (E := E0) (t := tA X.kc args) pm h (fun _ z => z) (fun _ _ z => z)
  obtain ⟨w, env, mu, vs, mu', S, O, e1, q⟩ := this
  exact ⟨w, env, mu, vs, mu', S, O, e1, fun w' xs H' x1 O1 r1 => by show spF X.kc m (xs ++ []) H' Q E0; rw [List.append_nil]; exact q w' xs H' x1 O1 r1⟩
/-- some defaults fill up: data written as constants -/
theorem dr_callD {defs : List T} (F : FnOk X.prog X.w X.K X.mg X.base CX0 k f fd ps (spF X.kc m)) (pm : PureF m) (hr : Room k X.A) (hg : Gl X x) (hm : X.mg x = some (.ref f)) (hk : PySem.W.keepIn X.K (.ref f) = true) (hb : Binds X.K fd ps ds) (hd : L2.Vals dvs ds)
    (hdef : ∀ F, RepAll X.kc F dvs defs)
    (ha : DA X (e :: es) args) (hdb : (x == ("__debug__" : Str)) = false := by decide) (he : starEach (e :: es) X.env = (false, eval e X.env) :: starEach es X.env := by rfl) (hpl : (backTo pos (starEach es X.env)).any (·.1) = false := by rfl) :
    DR X (.Call (.Name x p) (e :: es) [] pos) (rCall m ms fun env mu => match args env mu with
      | some (vs, mu1) => some (vs ++ defs.map .t, mu1)
      | none => none) := (pe_call F hr hg hm hk hb hd pass0 ha hdb he hpl).imp fun σ H Q h => by
  refine tR_call (E := E0) (t := fun σ H Q => tA X.kc args σ H fun xs H1 => Q (xs ++ dvs) H1) pm h (fun Q' z => ?_) (fun _ _ z => z)
  obtain ⟨w, env, mu, vs, mu', S, O, e1, q⟩ := z
  dsimp only at e1
  split at e1
  · rename_i vs0 mu1 ea
    cases e1
    exact ⟨w, env, mu, vs0, _, S, O, ea, fun w' xs H' x1 O1 r1 => q w' _ H' x1 O1 (Pd.append r1 (Pd.rv (Pd.ofRep (hdef _))))⟩
  · cases e1
end
end Vi

set_option Elab.async false
set_option linter.all false
set_option maxRecDepth 100000
set_option maxHeartbeats 4000000
/-! Vi5: built-in functions and methods, changes of one's own cells, what else is walked. -/
namespace Vi
open PySem PySem.Spec PyProof.Rows L2
section
variable {X : Cx} {K : Kc} {e : Expr} {es : List Expr} {pos p : Pos} {m : Ex} {args : Ax}
/-! ### built-in functions, by values -/
abbrev GL := List Val → Mu → Option (Val × Mu)
abbrev GF := List Val → Mu → Option (Cell × Mu)
@[simp] def eCB (g : GL) (m : Ax) : Ex := fun env mu => match m env mu with
  | some (vs, mu1) => g vs mu1
  | none => none
@[simp] def fCB (g : GF) (m : Ax) : Fx := fun env mu => match m env mu with
  | some (vs, mu1) => g vs mu1
  | none => none
def CallV (K : Kc) (r : List V → Hp → VK → Prop) (g : GL) : Prop := ∀ (w : Wd) (mu : Mu) (H : Hp) (xs : List V) (vs : List Val) (v : Val) (mu' : Mu) (Q : VK), Own K w mu H → Paired (RV K w) xs vs → g vs mu = some (v, mu') →
  (∀ w' z H', Ext w w' → Own K w' mu' H' → RV K w' z v → Q z H') → r xs H Q
def CallF (K : Kc) (r : List V → Hp → VK → Prop) (g : GF) : Prop := ∀ (w : Wd) (mu : Mu) (H : Hp) (xs : List V) (vs : List Val) (c : Cell) (mu' : Mu) (Q : VK), Own K w mu H → Paired (RV K w) xs vs → g vs mu = some (c, mu') →
  (∀ w' a H', Ext w w' → Own K w' mu' H' → Fresh w' mu' a → CellOk K w' H' a c → Q (.ref a) H') → r xs H Q
theorem tE_cb {r : List V → Hp → VK → Prop} {g : GL} (hg : CallV K r g) {σ : L2.St} {H : Hp} {Q : VK} (h : tE K (eCB g args) σ H Q) : tCB r (tA K args) σ H Q := by
  obtain ⟨w, env, mu, v, mu', S, O, e, q⟩ := h
  unfold eCB at e
  split at e
  · rename_i vs mu1 ea
    exact ⟨w, env, mu, vs, mu1, S, O, ea, fun w1 xs H1 x1 O1 r1 => hg w1 mu1 H1 xs vs v mu' Q O1 r1 e fun w2 z H2 x2 O2 r2 => q w2 z H2 (x1.trans x2) O2 r2⟩
  · cases e
theorem tF_cb {r : List V → Hp → VK → Prop} {g : GF} (hg : CallF K r g) {σ : L2.St} {H : Hp} {Q : VK} (h : tF K (fCB g args) σ H Q) : tCB r (tA K args) σ H Q := by
  obtain ⟨w, env, mu, v, mu', S, O, e, q⟩ := h
  unfold fCB at e
  split at e
  · rename_i vs mu1 ea
    exact ⟨w, env, mu, vs, mu1, S, O, ea, fun w1 xs H1 x1 O1 r1 => hg w1 mu1 H1 xs vs v mu' Q O1 r1 e fun w2 z H2 x2 O2 r2 c2 => q w2 z H2 (x1.trans x2) O2 r2 c2⟩
  · cases e
theorem de_cb {x : Str} {id : String} {r : List V → Hp → VK → Prop} {g : GL} (hc : CallR X (.builtin id) r) (hg : CallV X.kc r g) (h1 : Gl X x) (h2 : X.mg x = none) (h3 : bootBuiltins x = some (.builtin id)) (ha : DA X (e :: es) args) (hn : x ≠ "__name__" := by decide) (hdb : (x == ("__debug__" : Str)) = false := by decide)
    (he : starEach (e :: es) X.env = (false, eval e X.env) :: starEach es X.env := by rfl) (hpl : (backTo pos (starEach es X.env)).any (·.1) = false := by rfl) : DE X (.Call (.Name x p) (e :: es) [] pos) (eCB g args) :=
  (pe_callB hc h1 h2 h3 ha hn hdb he hpl).imp fun _ _ _ h => tE_cb hg h
theorem de_ct {x : Str} {ty : String} {r : List V → Hp → VK → Prop} {g : GL} (hc : CallR X (.type ty) r) (hg : CallV X.kc r g) (h1 : Gl X x) (h2 : X.mg x = none) (h3 : bootBuiltins x = some (.type ty)) (ha : DA X (e :: es) args) (hn : x ≠ "__name__" := by decide) (hdb : (x == ("__debug__" : Str)) = false := by decide)
    (he : starEach (e :: es) X.env = (false, eval e X.env) :: starEach es X.env := by rfl) (hpl : (backTo pos (starEach es X.env)).any (·.1) = false := by rfl) : DE X (.Call (.Name x p) (e :: es) [] pos) (eCB g args) :=
  (pe_callTy hc h1 h2 h3 ha hn hdb he hpl).imp fun _ _ _ h => tE_cb hg h
theorem df_ct {x : Str} {ty : String} {r : List V → Hp → VK → Prop} {g : GF} (hc : CallR X (.type ty) r) (hg : CallF X.kc r g) (h1 : Gl X x) (h2 : X.mg x = none) (h3 : bootBuiltins x = some (.type ty)) (ha : DA X (e :: es) args) (hn : x ≠ "__name__" := by decide) (hdb : (x == ("__debug__" : Str)) = false := by decide)
    (he : starEach (e :: es) X.env = (false, eval e X.env) :: starEach es X.env := by rfl) (hpl : (backTo pos (starEach es X.env)).any (·.1) = false := by rfl) : DF X (.Call (.Name x p) (e :: es) [] pos) (fCB g args) :=
  (pe_callTy hc h1 h2 h3 ha hn hdb he hpl).imp fun _ _ _ h => tF_cb hg h
theorem df_cb {x : Str} {id : String} {r : List V → Hp → VK → Prop} {g : GF} (hc : CallR X (.builtin id) r) (hg : CallF X.kc r g) (h1 : Gl X x) (h2 : X.mg x = none) (h3 : bootBuiltins x = some (.builtin id)) (ha : DA X (e :: es) args) (hn : x ≠ "__name__" := by decide) (hdb : (x == ("__debug__" : Str)) = false := by decide)
    (he : starEach (e :: es) X.env = (false, eval e X.env) :: starEach es X.env := by rfl) (hpl : (backTo pos (starEach es X.env)).any (·.1) = false := by rfl) : DF X (.Call (.Name x p) (e :: es) [] pos) (fCB g args) :=
  (pe_callB hc h1 h2 h3 ha hn hdb he hpl).imp fun _ _ _ h => tF_cb hg h
/-! #### len -/
@[simp] def gLen : GL := fun vs mu => match vs with
  | [.t (.str z)] => if z.length ≤ textLine then some (.t (.int z.length), mu) else none
  | [.t (.tuple ds)] => some (.t (.int ds.length), mu)
  | [v] => (match lv v mu with
    | some us => some (.t (.int us.length), mu)
    | none => none)
  | _ => none
theorem cv_len : CallV K (fun xs H Q => ∃ x n, xs = [x] ∧ LenV K.k x H n ∧ Q (.int n) H) gLen := by
  intro w mu H xs vs v mu' Q O r e q
  unfold gLen at e
  split at e
  · split at e
    · rename_i z hz
      cases e
      cases r with
      | cons r1 r2 =>
        cases r1; cases r2
        exact ⟨_, _, rfl, ⟨text_line hz, rfl⟩, q w _ H (Ext.refl w) O (Rep.int _)⟩
    · cases e
  · rename_i ds
    cases e
    cases r with
    | cons r1 r2 =>
      cases r2
      cases r1 with
      | tup h1 h2 =>
        exact ⟨_, ds.length, rfl, .inr ⟨_, (.inl (.inl (O.sub _ _ h1))), h2.length.symm⟩, q w _ H (Ext.refl w) O (Rep.int _)⟩
  · split at e
    · rename_i us hu
      cases e
      cases r with
      | cons r1 r2 =>
        cases r2
        obtain ⟨a, ys, rfl, h1, h2⟩ := lv_ok O r1 hu
        exact ⟨_, us.length, rfl, .inl ⟨_, h1, (Paired.length h2).symm⟩, q w _ H (Ext.refl w) O (Rep.int _)⟩
    · cases e
  · cases e
/-! #### max, min, int, sum, all, any -/
@[simp] def gMax2 : GL := fun vs mu => match vs with
  | [.t (.int i), .t (.int j)] => some (.t (.int (max i j)), mu)
  | _ => none
@[simp] def gMin2 : GL := fun vs mu => match vs with
  | [.t (.int i), .t (.int j)] => some (.t (.int (min i j)), mu)
  | _ => none
theorem cv_max2 : CallV K (fun xs H Q => ∃ i j, xs = [.int i, .int j] ∧ Q (.int (if j > i then j else i)) H) gMax2 := by
  intro w mu H xs vs v mu' Q O r e q
  unfold gMax2 at e
  split at e
  · rename_i i j
    cases e
    cases r with
    | cons r1 r2 =>
      cases r2 with
      | cons r2 r3 =>
        cases r1; cases r2; cases r3
        refine ⟨i, j, rfl, q w _ H (Ext.refl w) O ?_⟩
        have : (if j > i then j else i) = max i j := by split <;> omega
        rw [this]
        exact Rep.int _
  · cases e
theorem cv_min2 : CallV K (fun xs H Q => ∃ i j, xs = [.int i, .int j] ∧ Q (.int (if j < i then j else i)) H) gMin2 := by
  intro w mu H xs vs v mu' Q O r e q
  unfold gMin2 at e
  split at e
  · rename_i i j
    cases e
    cases r with
    | cons r1 r2 =>
      cases r2 with
      | cons r2 r3 =>
        cases r1; cases r2; cases r3
        refine ⟨i, j, rfl, q w _ H (Ext.refl w) O ?_⟩
        have : (if j < i then j else i) = min i j := by split <;> omega
        rw [this]
        exact Rep.int _
  · cases e
@[simp] def gInt : GL := fun vs mu => match vs with
  | [.t (.int i)] => some (.t (.int i), mu)
  | [.t (.bool b)] => some (.t (.int (if b then 1 else 0)), mu)
  | _ => none
theorem cv_int : CallV K (fun xs H Q => (∃ i, xs = [.int i] ∧ Q (.int i) H) ∨ ∃ k, xs = [.bl k] ∧ Q (.int (if k then 1 else 0)) H) gInt := by
  intro w mu H xs vs v mu' Q O r e q
  unfold gInt at e
  split at e
  · cases e
    cases r with
    | cons r1 r2 => cases r1; cases r2; exact .inl ⟨_, rfl, q w _ H (Ext.refl w) O (Rep.int _)⟩
  · cases e
    cases r with
    | cons r1 r2 => cases r1; cases r2; exact .inr ⟨_, rfl, q w _ H (Ext.refl w) O (Rep.int _)⟩
  · cases e
/-- the intsV of a list, all of them intsV -/
@[simp] def intsV : List Val → Option (List Int)
  | [] => some []
  | .t (.int i) :: vs => (intsV vs).map (i :: ·)
  | _ :: _ => none
theorem ints_ok {w : Wd} : ∀ {xs : List V} {vs : List Val} {ns : List Int}, Paired (RC K w) xs vs → intsV vs = some ns → xs = ns.map V.int
  | _, _, ns, .nil, h => by simp [intsV] at h; subst h; rfl
  | _ :: xs, v :: vs, ns, .cons r1 r2, h => by
    unfold intsV at h
    split at h
    · rename_i heq; cases heq
    · rename_i i vs' heq
      cases heq
      simp only [Option.map_eq_some_iff] at h
      obtain ⟨ms, h1, rfl⟩ := h
      obtain ⟨r1, _⟩ := r1
      cases r1
      rw [ints_ok r2 h1]; rfl
    · cases h
@[simp] def bools : List Val → Option (List Bool)
  | [] => some []
  | .t (.bool i) :: vs => (bools vs).map (i :: ·)
  | _ :: _ => none
theorem bools_ok {w : Wd} : ∀ {xs : List V} {vs : List Val} {ns : List Bool}, Paired (RC K w) xs vs → bools vs = some ns → xs = ns.map V.bl
  | _, _, ns, .nil, h => by simp [bools] at h; subst h; rfl
  | _ :: xs, v :: vs, ns, .cons r1 r2, h => by
    unfold bools at h
    split at h
    · rename_i heq; cases heq
    · rename_i i vs' heq
      cases heq
      simp only [Option.map_eq_some_iff] at h
      obtain ⟨ms, h1, rfl⟩ := h
      obtain ⟨r1, _⟩ := r1
      cases r1
      rw [bools_ok r2 h1]; rfl
    · cases h
@[simp] def gB (f : List Bool → Bool) : GL := fun vs mu => match vs with
  | [v] => (match lv v mu with
    | some us => (match bools us with
      | some bs => some (.t (.bool (f bs)), mu)
      | none => none)
    | none => none)
  | _ => none
theorem cv_all : CallV K (rAll K.k) (gB fun bs => bs.all id) := by
  intro w mu H xs vs v mu' Q O r e q
  unfold gB at e
  split at e
  · split at e
    · rename_i us hu
      split at e
      · rename_i bs hb
        cases e
        cases r with
        | cons r1 r2 =>
          cases r2
          obtain ⟨a, ys, rfl, h1, h2⟩ := lv_ok O r1 hu
          rw [bools_ok h2 hb] at h1
          exact ⟨a, bs, rfl, h1, q w _ H (Ext.refl w) O (Rep.bl _)⟩
      · cases e
    · cases e
  · cases e
theorem cv_any : CallV K (rAny K.k) (gB fun bs => bs.any id) := by
  intro w mu H xs vs v mu' Q O r e q
  unfold gB at e
  split at e
  · split at e
    · rename_i us hu
      split at e
      · rename_i bs hb
        cases e
        cases r with
        | cons r1 r2 =>
          cases r2
          obtain ⟨a, ys, rfl, h1, h2⟩ := lv_ok O r1 hu
          rw [bools_ok h2 hb] at h1
          exact ⟨a, bs, rfl, h1, q w _ H (Ext.refl w) O (Rep.bl _)⟩
      · cases e
    · cases e
  · cases e
@[simp] def gSum : GL := fun vs mu => match vs with
  | [v] => (match lv v mu with
    | some us => (match intsV us with
      | some ns => some (.t (.int ns.sum), mu)
      | none => none)
    | none => none)
  | _ => none
theorem cv_sum : CallV K (rSum K.k) gSum := by
  intro w mu H xs vs v mu' Q O r e q
  unfold gSum at e
  split at e
  · split at e
    · rename_i us hu
      split at e
      · rename_i bs hb
        cases e
        cases r with
        | cons r1 r2 =>
          cases r2
          obtain ⟨a, ys, rfl, h1, h2⟩ := lv_ok O r1 hu
          rw [ints_ok h2 hb] at h1
          exact ⟨a, bs, rfl, h1, q w _ H (Ext.refl w) O (Rep.int _)⟩
      · cases e
    · cases e
  · cases e
/-- the greatest, the least of some intsV -/
def mxL : List Int → Int
  | [] => 0
  | [x] => x
  | x :: y :: r => max x (mxL (y :: r))
theorem mxL_mem : ∀ {ns : List Int}, ns ≠ [] → mxL ns ∈ ns ∧ ∀ y ∈ ns, y ≤ mxL ns
  | [], h => absurd rfl h
  | [x], _ => by simp [mxL]
  | x :: y :: r, _ => by
    obtain ⟨h1, h2⟩ := mxL_mem (ns := y :: r) (by simp)
    unfold mxL
    refine ⟨?_, fun z hz => ?_⟩
    · by_cases h : x ≤ mxL (y :: r)
      · rw [Int.max_eq_right h]; exact List.mem_cons_of_mem _ h1
      · rw [Int.max_eq_left (by omega)]; exact List.mem_cons_self ..
    · rcases List.mem_cons.mp hz with rfl | hz
      · exact Int.le_max_left ..
      · exact Int.le_trans (h2 z hz) (Int.le_max_right ..)
def mnL : List Int → Int
  | [] => 0
  | [x] => x
  | x :: y :: r => min x (mnL (y :: r))
theorem mnL_mem : ∀ {ns : List Int}, ns ≠ [] → mnL ns ∈ ns ∧ ∀ y ∈ ns, mnL ns ≤ y
  | [], h => absurd rfl h
  | [x], _ => by simp [mnL]
  | x :: y :: r, _ => by
    obtain ⟨h1, h2⟩ := mnL_mem (ns := y :: r) (by simp)
    unfold mnL
    refine ⟨?_, fun z hz => ?_⟩
    · by_cases h : x ≤ mnL (y :: r)
      · rw [Int.min_eq_left h]; exact List.mem_cons_self ..
      · rw [Int.min_eq_right (by omega)]; exact List.mem_cons_of_mem _ h1
    · rcases List.mem_cons.mp hz with rfl | hz
      · exact Int.min_le_left ..
      · exact Int.le_trans (Int.min_le_right ..) (h2 z hz)
@[simp] def gMaxL : GL := fun vs mu => match vs with
  | [v] => (match lv v mu with
    | some us => (match intsV us with
      | some ns => if ns ≠ [] then some (.t (.int (mxL ns)), mu) else none
      | none => none)
    | none => none)
  | _ => none
theorem cv_maxL : CallV K (rMax K.k) gMaxL := by
  intro w mu H xs vs v mu' Q O r e q
  unfold gMaxL at e
  split at e
  · split at e
    · rename_i us hu
      split at e
      · rename_i ns hb
        split at e
        · rename_i hne
          cases e
          cases r with
          | cons r1 r2 =>
            cases r2
            obtain ⟨a, ys, rfl, h1, h2⟩ := lv_ok O r1 hu
            rw [ints_ok h2 hb] at h1
            refine ⟨a, ns, rfl, h1, List.length_pos_iff.mpr hne, fun k hk hle => q w _ H (Ext.refl w) O ?_⟩
            obtain ⟨m1, m2⟩ := mxL_mem hne
            have : k = mxL ns := Int.le_antisymm (m2 k hk) (hle _ m1)
            rw [this]
            exact Rep.int _
        · cases e
      · cases e
    · cases e
  · cases e
@[simp] def gMinL : GL := fun vs mu => match vs with
  | [v] => (match lv v mu with
    | some us => (match intsV us with
      | some ns => if ns ≠ [] then some (.t (.int (mnL ns)), mu) else none
      | none => none)
    | none => none)
  | _ => none
theorem cv_minL : CallV K (rMin K.k) gMinL := by
  intro w mu H xs vs v mu' Q O r e q
  unfold gMinL at e
  split at e
  · split at e
    · rename_i us hu
      split at e
      · rename_i ns hb
        split at e
        · rename_i hne
          cases e
          cases r with
          | cons r1 r2 =>
            cases r2
            obtain ⟨a, ys, rfl, h1, h2⟩ := lv_ok O r1 hu
            rw [ints_ok h2 hb] at h1
            refine ⟨a, ns, rfl, h1, List.length_pos_iff.mpr hne, fun k hk hle => q w _ H (Ext.refl w) O ?_⟩
            obtain ⟨m1, m2⟩ := mnL_mem hne
            have : k = mnL ns := Int.le_antisymm (hle _ m1) (m2 k hk)
            rw [this]
            exact Rep.int _
        · cases e
      · cases e
    · cases e
  · cases e
/-! #### list(x), tuple(x) -/
@[simp] def gList : GF := fun vs mu => match vs with
  | [.t (.tuple ds)] => some (.lst (ds.map .t), mu)
  | [v] => (match lv v mu with
    | some us => some (.lst us, mu)
    | none => none)
  | _ => none
theorem cf_list : CallF K (fun xs H Q => ∃ p ys, xs = [.ref p] ∧ (SqL K.k H p ys ∨ SqT K.k H p ys) ∧ ∀ l, H l = none → Q (.ref l) (upd H l (.lst ys))) gList := by
  intro w mu H xs vs c mu' Q O r e q
  unfold gList at e
  split at e
  · cases e
    cases r with
    | cons r1 r2 =>
      cases r2
      cases r1 with
      | tup h1 h2 =>
        refine ⟨_, _, rfl, .inr ((.inl (.inl (O.sub _ _ h1)))), fun l hl => ?_⟩
        exact q w l _ (Ext.refl w) (O.laid hl) (fresh_new O hl) ⟨_, upd_same, Pd.ofRep h2⟩
  · split at e
    · rename_i us hu
      cases e
      cases r with
      | cons r1 r2 =>
        cases r2
        obtain ⟨a, ys, rfl, h1, h2⟩ := lv_ok O r1 hu
        refine ⟨_, _, rfl, .inl h1, fun l hl => ?_⟩
        exact q w l _ (Ext.refl w) (O.laid hl) (fresh_new O hl) ⟨_, upd_same, h2⟩
    · cases e
  · cases e
@[simp] def gTuple : GL := fun vs mu => match vs with
  | [.t (.tuple ds)] => some (.t (.tuple ds), mu)
  | [v] => (match lv v mu with
    | some us => (match datas us with
      | some ds => some (.t (.tuple ds), mu)
      | none => none)
    | none => none)
  | _ => none
theorem cv_tuple : CallV K (fun xs H Q => ∃ p ys, xs = [.ref p] ∧ ((SqL K.k H p ys ∧ ∀ l, H l = none → Q (.ref l) (upd H l (.tup ys))) ∨ (SqT K.k H p ys ∧ Q (.ref p) H))) gTuple := by
  intro w mu H xs vs v mu' Q O r e q
  unfold gTuple at e
  split at e
  · cases e
    cases r with
    | cons r1 r2 =>
      cases r2
      cases r1 with
      | tup h1 h2 => exact ⟨_, _, rfl, .inr ⟨(.inl (.inl (O.sub _ _ h1))), q w _ H (Ext.refl w) O (Rep.tup h1 h2)⟩⟩
  · split at e
    · rename_i us hu
      split at e
      · rename_i ds hd
        cases e
        cases r with
        | cons r1 r2 =>
          cases r2
          obtain ⟨a, ys, rfl, h1, h2⟩ := lv_ok O r1 hu
          rw [datas_eq hd] at h2
          refine ⟨_, _, rfl, .inl ⟨h1, fun l hl => ?_⟩⟩
          exact q _ _ _ (ext_laidF (O.sub.nn hl)) (O.laidF hl) (Rep.tup upd_same ((Pd.toRep h2).mono (Sub.new (O.sub.nn hl))))
      · cases e
    · cases e
  · cases e
/-! #### isinstance -/
@[simp] def tyT : T → String
  | .none => "NoneType"
  | .bool _ => "bool"
  | .int _ => "int"
  | .str _ => "str"
  | .list _ => "list"
  | .tuple _ => "tuple"
  | .dict _ => "dict"
@[simp] def tyV' : Val → Mu → Option String
  | .t d, _ => some (tyT d)
  | .bor d, _ => some (tyT d)
  | .lab l, mu => match mu[l]? with
    | some (some (.lst _)) => some "list"
    | some (some (.dct q _)) => if q = .n then none else some "dict"
    | _ => none
@[simp] def isB (a b : String) : Bool := a == b || (a == "bool" && b == "int")
theorem kit_all : (["NoneType", "bool", "int", "str", "list", "tuple", "dict"].all fun a => ["bool", "int", "str", "list", "tuple", "dict"].all fun b => decide (kitB a b = some (isB a b))) = true := by decide +kernel
theorem kit_of' {a b : String} (ha : a ∈ ["NoneType", "bool", "int", "str", "list", "tuple", "dict"]) (hb : b ∈ ["bool", "int", "str", "list", "tuple", "dict"]) : PySem.W.kitOne K.k (.type a) (.type b) = some (isB a b) :=
  kit_ty (of_decide_eq_true (List.all_eq_true.mp (List.all_eq_true.mp kit_all a ha) b hb))
theorem tyT_mem (d : T) : tyT d ∈ ["NoneType", "bool", "int", "str", "list", "tuple", "dict"] := by
  cases d <;> simp [tyT]
theorem ty_dct {H : Hp} {a : Addr} {q : DK} {keys : List T} {xs : List V} {o : HO} (hq : q ≠ .n) (h : DctO K a q keys xs o) (e : H a = some o) : TyX K.k H (.ref a) (.type "dict") := by
  cases q with
  | n => exact absurd rfl hq
  | k => obtain ⟨kvs, rfl, _⟩ := h; exact .base (.dK e)
  | p => obtain ⟨kvs, rfl, _⟩ := h; exact .base (.dT e)
theorem ty_seqL {H : Hp} {a : Addr} {xs : List V} (h : SqL K.k H a xs) : TyX K.k H (.ref a) (.type "list") := by
  rcases h with (h | ⟨o, h⟩) | ⟨o, its, n, lk, hc, _⟩
  · exact .base (.lst h)
  · exact .base (.frz h)
  · exact .kList lk hc
theorem ty_seqT {H : Hp} {a : Addr} {xs : List V} (h : SqT K.k H a xs) : TyX K.k H (.ref a) (.type "tuple") := by
  rcases h with (h | ⟨o, h⟩) | ⟨o, its, n, lk, hc, _⟩
  · exact .base (.tup h)
  · exact .fTuple h
  · exact .kTuple lk hc
theorem ty_rep {F H : Hp} {x : V} {d : T} (s : Sub F H) (r : Rep K F x d) : TyX K.k H x (.type (tyT d)) := by
  cases r with
  | non => exact .base .non
  | bl b => exact .base (.bl b)
  | int i => exact .base (.int i)
  | str z => exact .base (.str z)
  | lst h _ => exact .base (.lst (s _ _ h))
  | tup h _ => exact ty_seqT (.inl (.inl (s _ _ h)))
  | dct hq h1 h2 _ _ => exact ty_dct hq h1 (s _ _ h2)
theorem ty_ok {w : Wd} {mu : Mu} {H : Hp} {x : V} {v : Val} {t : String} (O : Own K w mu H) (r : RV K w x v) (h : tyV' v mu = some t) : TyX K.k H x (.type t) ∧ t ∈ ["NoneType", "bool", "int", "str", "list", "tuple", "dict"] := by
  unfold tyV' at h
  split at h
  · cases h; exact ⟨ty_rep O.sub r, tyT_mem _⟩
  · cases h
    refine ⟨?_, tyT_mem _⟩
    rcases r with r | ⟨a, xs, ds, rfl, rfl, h, r⟩ | ⟨a, q, keys, xs, o, ds, rfl, rfl, ⟨hq, h1⟩, h2, _⟩
    · exact ty_rep O.sub r
    · exact ty_seqL (h.elim (fun z => sqL_sub O.sub z) (fun z => .inl (.inl (O.subG _ _ z))))
    · exact ty_dct hq h1 (O.subG _ _ h2)
  · obtain ⟨a, ha, rfl⟩ := r
    split at h
    · rename_i hc
      cases h
      obtain ⟨a', ha', _, _, xs, h2, h3⟩ := O.cell _ _ hc
      rw [ha] at ha'; cases ha'
      exact ⟨.base (.lst h2), by simp⟩
    · rename_i hc
      split at h
      · cases h
      rename_i hq
      cases h
      obtain ⟨a', ha', _, _, xs, o, h2, h3, _⟩ := O.cell _ _ hc
      rw [ha] at ha'; cases ha'
      exact ⟨ty_dct hq h3 h2, by simp⟩
    · cases h
@[simp] def eIs (ts : List String) (m : Ex) : Ex := fun env mu => match m env mu with
  | some (v, mu1) => (match tyV' v mu1 with
    | some t => some (.t (.bool (ts.any (isB t))), mu1)
    | none => none)
  | none => none
theorem de_is {b : String} {x0 : Str} {p0 : Pos} (h1 : Gl X "isinstance") (h2 : X.mg "isinstance" = none) (h3 : Gl X x0) (h4 : X.mg x0 = none) (h5 : bootBuiltins x0 = some (.type b)) (hb : b ∈ ["bool", "int", "str", "list", "tuple", "dict"]) (he : DE X e m) (hn : x0 ≠ "__name__" := by decide) (hd : (x0 == ("__debug__" : Str)) = false := by decide)
    (hs : starEach [e, .Name x0 p0] X.env = (false, eval e X.env) :: starEach [.Name x0 p0] X.env := by rfl) (hpl : (backTo pos (starEach [.Name x0 p0] X.env)).any (·.1) = false := by rfl) : DE X (.Call (.Name "isinstance" p) [e, .Name x0 p0] [] pos) (eIs [b] m) := by
  have ha : PA X [e, .Name x0 p0] (tCons (tE X.kc m) (tCons (tC (.ty b)) tNil)) := pa_cons he (pa_cons (pe_bltn h3 h4 h5 rfl hn hd) pa_nil) hs
  refine (pe_callB call_isi h1 h2 boot_isinstance ha (by decide) (by decide) hs hpl).imp fun σ H Q h => ?_
  obtain ⟨w, env, mu, v, mu', S, O, e, q⟩ := h
  unfold eIs at e
  split at e
  · rename_i v1 mu1 em
    split at e
    · rename_i t ht
      cases e
      refine ⟨w, env, mu, v1, _, S, O, em, fun w1 x H1 x1 O1 r1 => ?_⟩
      obtain ⟨h6, h7⟩ := ty_ok O1 r1 ht
      exact ⟨x, .ty b, .type t, .type b, _, rfl, .ty b, h6, kit_of' (K := X.kc) h7 hb, q w1 _ H1 x1 O1 (by simp only [List.any_cons, List.any_nil, Bool.or_false]; exact Rep.bl _)⟩
    · cases e
  · cases e
theorem kitAny_of {t : String} (ht : t ∈ ["NoneType", "bool", "int", "str", "list", "tuple", "dict"]) : ∀ {ts : List String}, (∀ b ∈ ts, b ∈ ["bool", "int", "str", "list", "tuple", "dict"]) → PySem.W.kitAny K.k (.type t) (ts.map Value.type) = some (ts.any (isB t))
  | [], _ => rfl
  | b :: ts, h => by
    refine kitAny_cons (kit_of' ht (h b (List.mem_cons_self ..))) (fun hf => ?_) (fun hb => ?_)
    · rw [kitAny_of ht (fun c hc => h c (List.mem_cons_of_mem _ hc)), List.any_cons, hf]
      rfl
    · rw [List.any_cons, hb]; rfl
/-- isinstance(e, (T, U)) -/
theorem de_isT {b c : String} {x0 y0 : Str} {p0 p1 p2 : Pos} {k : Nat} (h1 : Gl X "isinstance") (h2 : X.mg "isinstance" = none) (h3 : Gl X x0) (h4 : X.mg x0 = none) (h5 : bootBuiltins x0 = some (.type b)) (h3' : Gl X y0) (h4' : X.mg y0 = none) (h5' : bootBuiltins y0 = some (.type c))
    (hb : ∀ z ∈ [b, c], z ∈ ["bool", "int", "str", "list", "tuple", "dict"]) (he : DE X e m) (hn : x0 ≠ "__name__" := by decide) (hd : (x0 == ("__debug__" : Str)) = false := by decide) (hn' : y0 ≠ "__name__" := by decide) (hd' : (y0 == ("__debug__" : Str)) = false := by decide)
    (hs : starEach [e, .Tuple [.Name x0 p0, .Name y0 p1] k p2] X.env = (false, eval e X.env) :: starEach [.Tuple [.Name x0 p0, .Name y0 p1] k p2] X.env := by rfl) (hpl : (backTo pos (starEach [.Tuple [.Name x0 p0, .Name y0 p1] k p2] X.env)).any (·.1) = false := by rfl) :
    DE X (.Call (.Name "isinstance" p) [e, .Tuple [.Name x0 p0, .Name y0 p1] k p2] [] pos) (eIs [b, c] m) := by
  have ht : PE X (.Tuple [.Name x0 p0, .Name y0 p1] k p2) (tTup (tCons (tC (.ty b)) (tCons (tC (.ty c)) tNil))) := pe_tup (pa_cons (pe_bltn h3 h4 h5 rfl hn hd) (pa_cons (pe_bltn h3' h4' h5' rfl hn' hd') pa_nil))
  have ha : PA X [e, .Tuple [.Name x0 p0, .Name y0 p1] k p2] (tCons (tE X.kc m) (tCons (tTup (tCons (tC (.ty b)) (tCons (tC (.ty c)) tNil))) tNil)) := pa_cons he (pa_cons ht pa_nil) hs
  refine (pe_callB call_isiT h1 h2 boot_isinstance ha (by decide) (by decide) hs hpl).imp fun σ H Q h => ?_
  obtain ⟨w, env, mu, v, mu', S, O, e, q⟩ := h
  unfold eIs at e
  split at e
  · rename_i v1 mu1 em
    split at e
    · rename_i t ht
      cases e
      refine ⟨w, env, mu, v1, _, S, O, em, fun w1 x H1 x1 O1 r1 => ?_⟩
      refine ⟨by show 2 ≤ sizeLine; rw [sizeLine_eq]; decide, fun p hp => ?_⟩
      have O2 := O1.laid (o := .tup [.ty b, .ty c]) hp
      obtain ⟨h6, h7⟩ := ty_ok O2 r1 ht
      exact ⟨x, p, [.ty b, .ty c], .type t, [.type b, .type c], _, rfl, upd_same, .cons (.ty b) (.cons (.ty c) .nil), h6, kitAny_of (K := X.kc) (ts := [b, c]) h7 hb, q w1 _ _ x1 O2 (Rep.bl _)⟩
    · cases e
  · cases e

/-! ### chains -/
@[simp] def eChain (g g' : G2) (a b c : Ex) : Ex := fun env mu => match a env mu with
  | some (va, mu1) => (match b env mu1 with
    | some (vb, mu2) => (match g va vb mu2 with
      | some (.t (.bool true), mu3) => (match c env mu3 with
        | some (vc, mu4) => g' vb vc mu4
        | none => none)
      | some (.t (.bool false), mu3) => some (.t (.bool false), mu3)
      | _ => none)
    | none => none)
  | none => none
theorem tE_chain {r r' : R2} {g g' : G2} {a b c : Ex} (hg : OpV K r g) (hg' : OpV K r' g') {σ : L2.St} {H : Hp} {Q : VK} (h : tE K (eChain g g' a b c) σ H Q) : tChain r r' (tE K a) (tE K b) (tE K c) σ H Q := by
  obtain ⟨w, env, mu, v, mu', S, O, e, q⟩ := h
  unfold eChain at e
  split at e
  · rename_i va mu1 ea
    split at e
    · rename_i vb mu2 eb
      refine ⟨w, env, mu, va, mu1, S, O, ea, fun w1 x H1 x1 O1 r1 => ?_⟩
      refine ⟨w1, env, mu1, vb, mu2, S.mono x1, O1, eb, fun w2 y H2 x2 O2 r2 => ?_⟩
      split at e
      · rename_i mu3 eg
        refine hg w2 mu2 H2 x y va vb _ _ _ O2 (r1.mono x2) r2 eg fun w3 z H3 x3 O3 r3 => ?_
        cases r3
        refine ⟨true, rfl, ?_⟩
        rw [if_pos rfl]
        split at e
        · rename_i vc mu4 ec
          refine ⟨w3, env, mu3, vc, mu4, ((S.mono x1).mono x2).mono x3, O3, ec, fun w4 u H4 x4 O4 r4 => ?_⟩
          exact hg' w4 mu4 H4 y u vb vc v mu' Q O4 ((r2.mono x3).mono x4) r4 e fun w5 z H5 x5 O5 r5 => q w5 z H5 ((((x1.trans x2).trans x3).trans x4).trans x5) O5 r5
        · cases e
      · rename_i mu3 eg
        cases e
        refine hg w2 mu2 H2 x y va vb _ _ _ O2 (r1.mono x2) r2 eg fun w3 z H3 x3 O3 r3 => ?_
        cases r3
        refine ⟨false, rfl, ?_⟩
        rw [if_neg Bool.false_ne_true]
        exact q w3 _ H3 ((x1.trans x2).trans x3) O3 (Rep.bl _)
      · cases e
    · cases e
  · cases e
theorem de_chain {op op' : CmpOp} {r r' : R2} {g g' : G2} {a b c : Expr} {ma mb mc : Ex} (ho : OpR X (compareOp op) r) (ho' : OpR X (compareOp op') r') (hg : OpV X.kc r g) (hg' : OpV X.kc r' g') (ha : DE X a ma) (hb : DE X b mb) (hc : DE X c mc)
    (hm : lastMarks [op, op'] [b, c] = false := by with_unfolding_all rfl) : DE X (.Compare a [op, op'] [b, c] pos) (eChain g g' ma mb mc) := (pe_chain ho ho' ha hb hc hm).imp fun _ _ _ h => tE_chain hg hg' h
/-- texts in order; intsV or texts -/
def rLeV : R2 := fun x y H Q => (rI0 fun i j => .bl (decide (i ≤ j))) x y H Q ∨ ∃ i j, x = .str i ∧ y = .str j ∧ Q (.bl (!decide (j.cps.toList < i.cps.toList))) H
theorem opr_le : OpR X (compareOp .LtE) rLeV := OpR.or op_le op_le_str
@[simp] def gLeV : G2 := fun a b mu => match a, b with
  | .t (.int i), .t (.int j) => some (.t (.bool (decide (i ≤ j))), mu)
  | .t (.str i), .t (.str j) => some (.t (.bool (!decide (j.cps.toList < i.cps.toList))), mu)
  | _, _ => none
theorem opv_leV : OpV K rLeV gLeV := by
  intro w mu H x y va vb v mu' Q O ra rb e q
  unfold gLeV at e
  split at e
  · cases e; cases ra; cases rb
    exact .inl ⟨_, _, rfl, rfl, q w _ H (Ext.refl w) O (Rep.bl _)⟩
  · cases e; cases ra; cases rb
    exact .inr ⟨_, _, rfl, rfl, q w _ H (Ext.refl w) O (Rep.bl _)⟩
  · cases e

/-! ### lists together, lists repeated -/
@[simp] def fCat (a b : Ex) : Fx := fun env mu => match a env mu with
  | some (va, mu1) => (match b env mu1 with
    | some (vb, mu2) => (match lvM va mu2, lvM vb mu2 with
      | some us, some vs => if us.length + vs.length ≤ textLine then some (.lst (us ++ vs), mu2) else none
      | _, _ => none)
    | none => none)
  | none => none
theorem df_cat {a b : Expr} {ma mb : Ex} (ha : DE X a ma) (hb : DE X b mb) : DF X (.BinOp a .Add b pos) (fCat ma mb) := (pe_op op_cat ha hb).imp fun σ H Q h => by
  obtain ⟨w, env, mu, c, mu', S, O, e, q⟩ := h
  unfold fCat at e
  split at e
  · rename_i va mu1 ea
    split at e
    · rename_i vb mu2 eb
      split at e
      · rename_i us vs h1 h2
        split at e
        · rename_i hl
          cases e
          refine ⟨w, env, mu, va, mu1, S, O, ea, fun w1 x H1 x1 O1 r1 => ?_⟩
          refine ⟨w1, env, mu1, vb, _, S.mono x1, O1, eb, fun w2 y H2 x2 O2 r2 => ?_⟩
          obtain ⟨a1, xs, rfl, h3, h4⟩ := lvM_ok O2 (r1.mono x2) h1
          obtain ⟨a2, ys, rfl, h5, h6⟩ := lvM_ok O2 r2 h2
          refine ⟨a1, a2, xs, ys, rfl, rfl, h3, h5, by rw [Paired.length h4, Paired.length h6]; exact text_line hl, fun p hp => ?_⟩
          exact q w2 p _ (x1.trans x2) (O2.laid hp) (fresh_new O2 hp) ⟨_, upd_same, Pd.append h4 h6⟩
        · cases e
      · cases e
    · cases e
  · cases e
def fRep (a b : Ex) : Fx := fun env mu => match a env mu with
  | some (va, mu1) => (match b env mu1 with
    | some (.t (.int k), mu2) => (match lvM va mu2 with
      | some us => if k ≤ textLine ∧ us.length * k.toNat ≤ textLine ∧ -(2 ^ 63) ≤ k then some (.lst (List.replicate k.toNat us).flatten, mu2) else none
      | none => none)
    | _ => none)
  | none => none
theorem df_rep {a b : Expr} {ma mb : Ex} (ha : DE X a ma) (hb : DE X b mb) : DF X (.BinOp a .Mult b pos) (fRep ma mb) := (pe_op op_rep ha hb).imp fun σ H Q h => by
  obtain ⟨w, env, mu, c, mu', S, O, e, q⟩ := h
  unfold fRep at e
  split at e
  · rename_i va mu1 ea
    split at e
    · rename_i k mu2 eb
      split at e
      · rename_i us h1
        split at e
        · rename_i hl
          cases e
          refine ⟨w, env, mu, va, mu1, S, O, ea, fun w1 x H1 x1 O1 r1 => ?_⟩
          refine ⟨w1, env, mu1, _, _, S.mono x1, O1, eb, fun w2 y H2 x2 O2 r2 => ?_⟩
          cases r2
          obtain ⟨a1, xs, rfl, h3, h4⟩ := lvM_ok O2 (r1.mono x2) h1
          refine ⟨a1, k, xs, rfl, rfl, h3, hl.2.2, ?_, by rw [Paired.length h4]; exact text_line hl.2.1, fun p hp => ?_⟩
          · have := hl.1
            unfold textLine at this
            omega
          · exact q w2 p _ (x1.trans x2) (O2.laid hp) (fresh_new O2 hp) ⟨_, upd_same, Pd.rep h4 _⟩
        · cases e
      · cases e
    · cases e
  · cases e

/-! ### a cell is changed -/
theorem Own.setCell {w : Wd} {mu : Mu} {H : Hp} {l : Nat} {a : Addr} {c c' : Cell} {o : HO} (O : Own K w mu H) (h : mu[l]? = some (some c)) (ha : w.r[l]? = some a) (hc : CellOk K w (upd H a o) a c') : Own K w (mu.set l (some c')) (upd H a o) := by
  obtain ⟨b, h1, h2, h3, h4⟩ := O.cell l c h
  rw [ha] at h1; cases h1
  have alive : ∀ {j : Nat} {d : Cell}, (mu.set l (some c'))[j]? = some (some d) → (j = l ∧ d = c') ∨ (j ≠ l ∧ mu[j]? = some (some d)) := fun {j d} e => by
    by_cases q : l = j
    · subst q
      rw [List.getElem?_set_self (List.getElem?_eq_some_iff.mp h).1] at e
      cases e; exact .inl ⟨rfl, rfl⟩
    · rw [List.getElem?_set_ne q] at e
      exact .inr ⟨fun z => q z.symm, e⟩
  refine ⟨O.sub.up h2, O.subG.up h3, O.dis, by rw [List.length_set]; exact O.len, fun j d e => ?_, fun j j' d d' b e e' p p' => ?_⟩
  · rcases alive e with ⟨rfl, rfl⟩ | ⟨hn, e⟩
    · exact ⟨a, ha, h2, h3, hc⟩
    · obtain ⟨b, q1, q2, q3, q4⟩ := O.cell j d e
      have ne : b ≠ a := by
        rintro rfl
        exact hn (O.inj j l d c b e h q1 ha)
      exact ⟨b, q1, q2, q3, CellOk.mono Sub.rfl' ⟨[], by simp⟩ (upd_ne ne) q4⟩
  · have : ∃ d0, mu[j]? = some (some d0) := by
      rcases alive e with ⟨rfl, _⟩ | ⟨_, e⟩
      · exact ⟨c, h⟩
      · exact ⟨_, e⟩
    obtain ⟨d0, z⟩ := this
    have : ∃ d0, mu[j']? = some (some d0) := by
      rcases alive e' with ⟨rfl, _⟩ | ⟨_, e⟩
      · exact ⟨c, h⟩
      · exact ⟨_, e⟩
    obtain ⟨d0', z'⟩ := this
    exact O.inj j j' d0 d0' b z z' p p'
/-- a cell comes to stand for good -/
theorem Own.thaw {w : Wd} {mu : Mu} {H : Hp} {l : Nat} {a : Addr} {c : Cell} {o : HO} (O : Own K w mu H) (h : mu[l]? = some (some c)) (ha : w.r[l]? = some a) (ho : H a = some o) : Own K { w with F := upd w.F a o } (mu.set l none) H := by
  obtain ⟨b, h1, h2, h3, h4⟩ := O.cell l c h
  rw [ha] at h1; cases h1
  have alive : ∀ {j : Nat} {d : Cell}, (mu.set l none)[j]? = some (some d) → j ≠ l ∧ mu[j]? = some (some d) := fun {j d} e => by
    by_cases q : l = j
    · subst q
      rw [List.getElem?_set_self (List.getElem?_eq_some_iff.mp h).1] at e
      cases e
    · rw [List.getElem?_set_ne q] at e
      exact ⟨fun z => q z.symm, e⟩
  refine ⟨O.sub.up2 ho, O.subG, fun b u e => ?_, by rw [List.length_set]; exact O.len, fun j d e => ?_, fun j j' d d' b e e' p p' => O.inj j j' d d' b (alive e).2 (alive e').2 p p'⟩
  · have e : upd w.F a o b = some u := e
    by_cases q : b = a
    · subst q; exact h3
    · rw [upd_ne q] at e; exact O.dis b u e
  · obtain ⟨hn, e⟩ := alive e
    obtain ⟨b, q1, q2, q3, q4⟩ := O.cell j d e
    have ne : b ≠ a := by
      rintro rfl
      exact hn (O.inj j l d c b e h q1 ha)
    exact ⟨b, q1, by show upd w.F a o b = none; rw [upd_ne ne]; exact q2, q3, CellOk.mono (Sub.new h2) ⟨[], by simp⟩ rfl q4⟩
/-- a value taken for good -/
@[simp] def eFz (m : Ex) : Ex := fun env mu => match m env mu with
  | some (.lab l, mu1) => (match mu1[l]? with
    | some (some c) => (match cellT c with
      | some d => some (.t d, mu1.set l none)
      | none => none)
    | _ => none)
  | r => r
theorem tE_fz {σ : L2.St} {H : Hp} {Q : VK} (h : tE K (eFz m) σ H Q) : tE K m σ H Q := by
  obtain ⟨w, env, mu, v, mu', S, O, e, q⟩ := h
  unfold eFz at e
  split at e
  · rename_i l mu1 em
    split at e
    · rename_i c hc
      split at e
      · rename_i d hd
        cases e
        refine ⟨w, env, mu, _, mu1, S, O, em, fun w1 x H1 x1 O1 r1 => ?_⟩
        obtain ⟨a, ha, rfl⟩ := r1
        obtain ⟨a', ha', z1, z2, z3⟩ := O1.cell l c hc
        rw [ha] at ha'; cases ha'
        obtain ⟨o, h1, h2⟩ := cell_rep z3 hd
        exact q { w1 with F := upd w1.F a o } _ H1 (x1.trans (ext_laidF z1)) (O1.thaw hc ha h1) (h2 _ (Sub.new z1) upd_same)
      · cases e
    · cases e
  · exact ⟨w, env, mu, v, mu', S, O, e, q⟩
theorem de_fz (h : DE X e m) : DE X e (eFz m) := PE.imp h fun _ _ _ h => tE_fz h
/-! #### methods of lists -/
@[simp] def notBor : Val → Bool
  | .bor _ => false
  | _ => true
def MtV (K : Kc) (r : V → List V → Hp → VK → Prop) (g : Val → List Val → Mu → Option (Val × Mu)) : Prop := ∀ (w : Wd) (mu : Mu) (H : Hp) (x : V) (xs : List V) (va : Val) (vs : List Val) (v : Val) (mu' : Mu) (Q : VK), Own K w mu H → RV K w x va → Paired (RV K w) xs vs → g va vs mu = some (v, mu') →
  (∀ w' z H', Ext w w' → Own K w' mu' H' → RV K w' z v → Q z H') → r x xs H Q
/-- o.name(args), o a list -/
@[simp] def eMt (g : Val → List Val → Mu → Option (Val × Mu)) (o : Ex) (m : Ax) : Ex := fun env mu => match o env mu with
  | some (va, mu1) => (match lv va mu1 with
    | some _ => (match m env mu1 with
      | some (vs, mu2) => g va vs mu2
      | none => none)
    | none => none)
  | none => none
theorem tE_mt {r : V → List V → Hp → VK → Prop} {g : Val → List Val → Mu → Option (Val × Mu)} {o : Ex} (hg : MtV K r g) {σ : L2.St} {H : Hp} {Q : VK} (h : tE K (eMt g o args) σ H Q) : tBM K.k "list" r (tE K o) (tA K args) σ H Q := by
  obtain ⟨w, env, mu, v, mu', S, O, e, q⟩ := h
  unfold eMt at e
  split at e
  · rename_i va mu1 ea
    split at e
    · rename_i us hu
      split at e
      · rename_i vs mu2 eb
        refine ⟨w, env, mu, va, mu1, S, O, ea, fun w1 x H1 x1 O1 r1 => ?_⟩
        obtain ⟨a, ys, rfl, h1, h2⟩ := lv_ok O1 r1 hu
        refine ⟨.inl ⟨rfl, ys, h1⟩, w1, env, mu1, vs, mu2, S.mono x1, O1, eb, fun w2 xs H2 x2 O2 r2 => ?_⟩
        exact hg w2 mu2 H2 _ xs va vs v mu' Q O2 (r1.mono x2) r2 e fun w3 z H3 x3 O3 r3 => q w3 z H3 ((x1.trans x2).trans x3) O3 r3
      · cases e
    · cases e
  · cases e
@[simp] def gApp : Val → List Val → Mu → Option (Val × Mu) := fun va vs mu => match va, vs with
  | .lab l, [v] => (match mu[l]? with
    | some (some (.lst us)) => if us.length < textLine ∧ notBor v = true then some (.t .none, mu.set l (some (.lst (us ++ [v])))) else none
    | _ => none)
  | _, _ => none
theorem rc_one {w : Wd} {x : V} {v : Val} (r : RV K w x v) (h : notBor v = true) : RC K w x v := ⟨r, fun d e => by subst e; cases h⟩
theorem mv_app : MtV K rAppend gApp := by
  intro w mu H x xs va vs v mu' Q O r rs e q
  unfold gApp at e
  split at e
  · rename_i l y
    split at e
    · rename_i us hu
      split at e
      · rename_i hl
        cases e
        obtain ⟨a, ha, rfl⟩ := r
        obtain ⟨a', ha', z1, z2, ys, h1, h2⟩ := O.cell _ _ hu
        rw [ha] at ha'; cases ha'
        cases rs with
        | cons r1 r2 =>
          cases r2
          refine ⟨a, ys, _, rfl, rfl, h1, ?_, q w _ _ (Ext.refl w) (O.setCell hu ha ⟨_, upd_same, Pd.append h2 (.cons (rc_one r1 hl.2) .nil)⟩) Rep.non⟩
          have := Paired.length h2
          rw [this]
          exact Nat.lt_of_lt_of_le hl.1 (text_line (Nat.le_refl _))
      · cases e
    · cases e
  · cases e
@[simp] def gIns : Val → List Val → Mu → Option (Val × Mu) := fun va vs mu => match va, vs with
  | .lab l, [.t (.int i), v] => (match mu[l]? with
    | some (some (.lst us)) => if us.length < textLine ∧ notBor v = true ∧ 0 ≤ i ∧ i ≤ textLine then some (.t .none, mu.set l (some (.lst (us.take i.toNat ++ [v] ++ us.drop i.toNat)))) else none
    | _ => none)
  | _, _ => none
theorem mv_ins : MtV K (fun x vs H Q => ∃ (l : Addr) (xs : List V) (i : Int) (y : V), x = .ref l ∧ vs = [.int i, y] ∧ H l = some (.lst xs) ∧ xs.length < sizeLine ∧ 0 ≤ i ∧ i < 2 ^ 63 ∧
    Q .non (upd H l (.lst (xs.take i.toNat ++ [y] ++ xs.drop i.toNat)))) gIns := by
  intro w mu H x xs va vs v mu' Q O r rs e q
  unfold gIns at e
  split at e
  · rename_i l i y
    split at e
    · rename_i us hu
      split at e
      · rename_i hl
        cases e
        obtain ⟨a, ha, rfl⟩ := r
        obtain ⟨a', ha', z1, z2, ys, h1, h2⟩ := O.cell _ _ hu
        rw [ha] at ha'; cases ha'
        cases rs with
        | cons r1 r2 =>
          cases r2 with
          | cons r2 r3 =>
            cases r1; cases r3
            refine ⟨a, ys, i, _, rfl, rfl, h1, ?_, hl.2.2.1, ?_, q w _ _ (Ext.refl w) (O.setCell hu ha ⟨_, upd_same, Pd.append (Pd.append (Pd.take _ h2) (.cons (rc_one r2 hl.2.1) .nil)) (Pd.drop _ h2)⟩) Rep.non⟩
            · have := Paired.length h2
              rw [this]
              exact Nat.lt_of_lt_of_le hl.1 (text_line (Nat.le_refl _))
            · have := hl.2.2.2
              unfold textLine at this
              omega
      · cases e
    · cases e
  · cases e
theorem de_app {o : Expr} {mo : Ex} {apos : Pos} (ho : DE X o mo) (ha : DA X (e :: es) args)
    (hbase : attributeBase o "append" X.env (eval o X.env) = eval o X.env := by rfl)
    (hfew : ((backTo pos (starEach (e :: es) X.env)).all (fun x => !x.1) && (backToKw pos (keywordEach [] X.env)).all (fun x => x.1.isSome)
      && decide ((e :: es).length + ([] : List Keyword).length + (if ([] : List Keyword).isEmpty then 0 else 1) < 30)) = true := by rfl)
    (hline : (apos.endLine == pos.line) = true := by rfl) (hs : starEach (e :: es) X.env = (false, eval e X.env) :: starEach es X.env := by rfl) (hplain : (backTo pos (starEach es X.env)).any (·.1) = false := by rfl) :
    DE X (.Call (.Attribute o "append" apos) (e :: es) [] pos) (eMt gApp mo args) := (pe_bm PySem.F.plainAttrs_list PySem.F.slot_list_append PySem.F.type_list_append mt_append ho ha hbase hfew hline hs hplain).imp fun _ _ _ h => tE_mt mv_app h
theorem de_ins {o : Expr} {mo : Ex} {apos : Pos} (ho : DE X o mo) (ha : DA X (e :: es) args)
    (hbase : attributeBase o "insert" X.env (eval o X.env) = eval o X.env := by rfl)
    (hfew : ((backTo pos (starEach (e :: es) X.env)).all (fun x => !x.1) && (backToKw pos (keywordEach [] X.env)).all (fun x => x.1.isSome)
      && decide ((e :: es).length + ([] : List Keyword).length + (if ([] : List Keyword).isEmpty then 0 else 1) < 30)) = true := by rfl)
    (hline : (apos.endLine == pos.line) = true := by rfl) (hs : starEach (e :: es) X.env = (false, eval e X.env) :: starEach es X.env := by rfl) (hplain : (backTo pos (starEach es X.env)).any (·.1) = false := by rfl) :
    DE X (.Call (.Attribute o "insert" apos) (e :: es) [] pos) (eMt gIns mo args) := (pe_bm PySem.F.plainAttrs_list PySem.F.slot_list_insert PySem.F.type_list_insert mt_insert ho ha hbase hfew hline hs hplain).imp fun _ _ _ h => tE_mt mv_ins h
/-! #### o[i] = v, o a list of one's own -/
@[simp] def sSub (mo mi mv : Ex) : Sx := fun env mu => match mv env mu with
  | some (v, mu1) => (match mo env mu1 with
    | some (.lab l, mu2) => (match mi env mu2 with
      | some (.t (.int i), mu3) => (match mu3[l]? with
        | some (some (.lst us)) => (match ixN us.length i with
          | some j => if notBor v = true then some (.nx env (mu3.set l (some (.lst (us.set j v))))) else none
          | none => none)
        | _ => none)
      | _ => none)
    | _ => none)
  | none => none
theorem ds_sub {o i v : Expr} {mo mi mv : Ex} {tpos : Pos} (ho : DE X o mo) (hi : DE X i mi) (hv : DE X v mv) (hs : swapsWithSole [.Subscript o i tpos] v pos.line X.env = pure false := by rfl) (hw : swappedStores [.Subscript o i tpos] v X.env = pure none := by rfl)
    (h1 : (assignEach [.Subscript o i tpos] X.env).map (·.2) = [assign (.Subscript o i tpos) X.env] := by rfl)
    (ha : ∀ v, assign (.Subscript o i tpos) X.env v = (do
      let ov ← holding [v] (eval o X.env)
      let iv ← holding [v, ov] (eval i X.env)
      standAt tpos
      holding [v, ov, iv] (setItem ov iv v)
      release [v, ov, iv] []) := by intro _; rfl) : DS X (.Assign [.Subscript o i tpos] v pos) (sSub mo mi mv) := (ps_asg hv (pg_sub ho hi set_list ha) hs hw h1).imp fun D σ H h => by
  obtain ⟨w, env, mu, fl, S, O, e, q⟩ := h
  unfold sSub at e
  split at e
  · rename_i v mu1 ev
    split at e
    · rename_i l mu2 eo
      split at e
      · rename_i i mu3 ei
        split at e
        · rename_i us hu
          split at e
          · rename_i j hj
            split at e
            · rename_i hb
              cases e
              refine ⟨w, env, mu, v, mu1, S, O, ev, fun w1 x H1 x1 O1 r1 => ?_⟩
              refine ⟨w1, env, mu1, _, mu2, S.mono x1, O1, eo, fun w2 y H2 x2 O2 r2 => ?_⟩
              refine ⟨w2, env, mu2, _, mu3, (S.mono x1).mono x2, O2, ei, fun w3 z H3 x3 O3 r3 => ?_⟩
              cases r3
              obtain ⟨a, ha, rfl⟩ := r2.mono x3
              obtain ⟨a', ha', z1, z2, ys, h1, h2⟩ := O3.cell _ _ hu
              rw [ha] at ha'; cases ha'
              refine ⟨a, ys, i, j, rfl, rfl, h1, by rw [Paired.length h2]; exact hj, ?_⟩
              exact q w3 _ _ ((x1.trans x2).trans x3) (((S.mono x1).mono x2).mono x3) (O3.setCell hu ha ⟨_, upd_same, Pd.set (rc_one ((r1.mono x2).mono x3) hb) j h2⟩)
            · cases e
          · cases e
        · cases e
      · cases e
    · cases e
  · cases e
/-! ### several targets at once -/
@[simp] def sPar (m : Ax) (t : Tgs) : Sx := fun env mu => match m env mu with
  | some (vs, mu1) => (match t vs env with
    | some env1 => some (.nx env1 mu1)
    | none => none)
  | none => none
theorem ds_par {i j : Nat} {x y : Str} {a b : Expr} {px py pt : Pos} {kt k2 pt2} (hc : X.calm = true) (hN : X.N.Nodup) (hi : X.N[i]? = some x) (hj : X.N[j]? = some y) (hij : i ≠ j)
    (hx : X.env.scope.names.lookup x = some .local) (hy : X.env.scope.names.lookup y = some .local) (ha : DA X [a, b] args)
    (hw : swappedStores [.Tuple [.Name x px, .Name y py] kt pt] (.Tuple [a, b] k2 pt2) X.env = pure (some [x, y]) := by rfl)
    (hs : swapsWithSole [.Tuple [.Name x px, .Name y py] kt pt] (.Tuple [a, b] k2 pt2) pos.line X.env = pure false := by rfl) :
    DS X (.Assign [.Tuple [.Name x px, .Name y py] kt pt] (.Tuple [a, b] k2 pt2) pos) (sPar args (gtCons (gtName i) (gtCons (gtName j) gtNil))) := (ps_par hc hN hi hj hij hx hy ha hw hs).imp fun D σ H h => by
  obtain ⟨w, env, mu, fl, S, O, e, q⟩ := h
  unfold sPar at e
  split at e
  · rename_i vs mu1 ea
    split at e
    · rename_i env1 et
      cases e
      refine ⟨w, env, mu, vs, _, S, O, ea, fun w1 xs H1 x1 O1 r1 => ?_⟩
      cases r1 with
      | nil => cases et
      | cons r1 r2 =>
        cases r2 with
        | nil => cases et
        | cons r2 r3 =>
          cases r3 with
          | cons _ _ => cases et
          | nil =>
            cases et
            exact ⟨_, _, rfl, q w1 _ H1 x1 (((S.mono x1).set r1).set r2) O1⟩
    · cases e
  · cases e
theorem ds_parT {tgs : List Expr} {es : List Expr} {t : Tgs} {kt k2 : Nat} {pt pt2 : Pos} {n : Nat} (hc : X.calm = true) (ha : DA X es args) (hg : DGs X tgs t) (hn : (assignEach tgs X.env).length = n) (hst : (assignEach tgs X.env).findIdx? (·.1) = none) (hl : es.length = n)
    (hs : swapsWithSole [.Tuple tgs kt pt] (.Tuple es k2 pt2) pos.line X.env = pure false) (hw : swappedStores [.Tuple tgs kt pt] (.Tuple es k2 pt2) X.env = pure none) (h1 : (assignEach [.Tuple tgs kt pt] X.env).map (·.2) = [assign (.Tuple tgs kt pt) X.env])
    (hlen : ∀ env mu vs mu', args env mu = some (vs, mu') → vs.length = n ∧ n ≤ 1000) : DS X (.Assign [.Tuple tgs kt pt] (.Tuple es k2 pt2) pos) (sPar args t) := (ps_asg (pe_tup ha) (pg_tup hc hg hn hst) hs hw h1).imp fun D σ H h => by
  obtain ⟨w, env, mu, fl, S, O, e, q⟩ := h
  unfold sPar at e
  split at e
  · rename_i vs mu1 ea
    split at e
    · rename_i env1 et
      cases e
      obtain ⟨l1, l2⟩ := hlen _ _ _ _ ea
      refine ⟨w, env, mu, vs, _, S, O, ea, fun w1 xs H1 x1 O1 r1 => ?_⟩
      have hl2 := Paired.length r1
      refine ⟨by rw [hl2, l1]; exact text_line (Nat.le_trans l2 (by decide)), fun p hp => ?_⟩
      refine ⟨p, xs, rfl, .inl (.inl upd_same), by rw [hl2, l1], ?_⟩
      exact ⟨w1, env, _, vs, env1, S.mono x1, O1.laid hp, r1, et, fun σ1 S1 => q w1 σ1 _ x1 S1 (O1.laid hp)⟩
    · cases e
  · cases e
end
end Vi

set_option Elab.async false
set_option linter.all false
set_option maxRecDepth 100000
set_option maxHeartbeats 4000000
/-! Vi6: comprehensions, enumerate, zip, ranges with a step; powers, bits. -/
namespace Vi
open PySem PySem.Spec PyProof.Rows L2
theorem CellOk.g {K : Kc} {w : Wd} {H H' G : Hp} {a : Addr} {c : Cell} (h : CellOk K w H a c) (e : H' a = H a) : CellOk K ⟨w.F, G, w.r⟩ H' a c := CellOk.mono (w := w) (w' := ⟨w.F, G, w.r⟩) Sub.rfl' ⟨[], by simp⟩ e h
/-! ### a comprehension's target: a name, a tuple of names -/
inductive Tn where
  | nm (i : Nat) | tp (is : List Nat)
@[simp] def Tn.slots : Tn → List Nat
  | .nm i => [i]
  | .tp is => is
def gNames : List Nat → TGs
  | [] => gNil
  | i :: is => gCons (gName i) (gNames is)
def tnG (K : Kc) : Tn → TG
  | .nm i => gName i
  | .tp is => gTup K.k is.length (gNames is)
@[simp] def setAll : List Nat → List Val → En → Option En
  | [], [], env => some env
  | i :: is, v :: vs, env => setAll is vs (env.set i (some v))
  | _, _, _ => none
@[simp] def tnE (t : Tn) (v : Val) (env : En) : Option En := match t with
  | .nm i => some (env.set i (some v))
  | .tp is => (match v with
    | .t (.tuple ds) => setAll is (ds.map .t) env
    | _ => none)
@[simp] def wipeE (env : En) : List Nat → En
  | [] => env
  | v :: vs => (wipeE env vs).set v none
def lpC (t : Tn) (c : Tx) (m : Ex) (env0 : En) : List Val → List Val → Mu → Option (List Val × Mu)
  | [], acc, mu => some (acc, mu)
  | v :: vs, acc, mu => match tnE t v env0 with
    | some env1 => (match c env1 mu with
      | some (true, mu1) => (match m env1 mu1 with
        | some (y, mu2) => if acc.length < textLine ∧ notBor y = true then lpC t c m env0 vs (acc ++ [y]) mu2 else none
        | none => none)
      | some (false, mu1) => lpC t c m env0 vs acc mu1
      | none => none)
    | none => none
@[simp] def cYes : Tx := fun _ mu => some (true, mu)
/-- [m for t in it if c]; vs: the names of its own -/
def fComp (it : Ix) (t : Tn) (vs : List Nat) (c : Tx) (m : Ex) : Fx := fun env mu => match it env mu with
  | some (items, mu1) => (match lpC t c m (wipeE env vs) items [] mu1 with
    | some (res, mu2) => if t.slots.all (fun i => vs.contains i) = true then some (.lst res, mu2) else none
    | none => none)
  | none => none
section
variable {X : Cx} {K : Kc}
theorem wipe_in {σ : L2.St} {i : Nat} : ∀ {vs : List Nat}, i ∈ vs → (wipe σ vs)[i]? = (σ[i]?).map fun _ => none
  | v :: vs, h => by
    show ((wipe σ vs).set v none)[i]? = _
    by_cases q : v = i
    · subst q
      by_cases hv : v < σ.length
      · rw [List.getElem?_set_self (by rw [wipe_length]; exact hv), List.getElem?_eq_getElem hv]; rfl
      · rw [List.getElem?_eq_none (by rw [List.length_set, wipe_length]; omega), List.getElem?_eq_none (by omega)]; rfl
    · rw [List.getElem?_set_ne q]
      rcases List.mem_cons.mp h with z | z
      · exact absurd z.symm q
      · exact wipe_in z
theorem wipe_ext {σ τ : L2.St} {vs : List Nat} (hl : σ.length = τ.length) (h : ∀ j, j ∉ vs → σ[j]? = τ[j]?) : wipe σ vs = wipe τ vs := by
  apply List.ext_getElem?
  intro j
  by_cases q : j ∈ vs
  · rw [wipe_in q, wipe_in q]
    by_cases hj : j < σ.length
    · rw [List.getElem?_eq_getElem hj, List.getElem?_eq_getElem (by omega)]; rfl
    · rw [List.getElem?_eq_none (by omega), List.getElem?_eq_none (by omega)]
  · rw [wipe_out q, wipe_out q]; exact h j q
theorem wipe_wipe {σ : L2.St} {vs : List Nat} : wipe (wipe σ vs) vs = wipe σ vs := wipe_ext (wipe_length σ vs) fun j q => wipe_out q
theorem wipe_set {σ : L2.St} {vs : List Nat} {i : Nat} {x : Option V} (h : i ∈ vs) : wipe (σ.set i x) vs = wipe σ vs := wipe_ext (by simp) fun j q => by
  rw [List.getElem?_set_ne]
  rintro rfl
  exact q h
theorem slots_wipe {w : Wd} {env : En} {σ : L2.St} (S : Slots K w env σ) : ∀ vs : List Nat, Slots K w (wipeE env vs) (wipe σ vs)
  | [] => S
  | v :: vs => (slots_wipe S vs).clear
theorem gNames_ok {w : Wd} : ∀ {is : List Nat} {xs : List V} {us : List Val} {env env' : En} {σ : L2.St} {H : Hp} {vs : List Nat} {Q : L2.St → Hp → Prop}, Paired (RV K w) xs us → setAll is us env = some env' → Slots K w env σ → (∀ i ∈ is, i ∈ vs) →
    (∀ σ', Slots K w env' σ' → wipe σ' vs = wipe σ vs → Q σ' H) → gNames is xs σ H Q
  | [], _, [], env, env', σ, H, vs, Q, .nil, e, S, hi, q => by
    cases e
    exact ⟨rfl, q σ S rfl⟩
  | [], _, _ :: _, env, env', σ, H, vs, Q, _, e, S, hi, q => by simp [setAll] at e
  | _ :: _, _, [], env, env', σ, H, vs, Q, _, e, S, hi, q => by simp [setAll] at e
  | i :: is, _, u :: us, env, env', σ, H, vs, Q, .cons r1 r2, e, S, hi, q => by
    refine ⟨_, _, rfl, ?_⟩
    show gNames is _ _ H Q
    exact gNames_ok r2 (by simpa [setAll] using e) (S.set r1) (fun j hj => hi j (List.mem_cons_of_mem _ hj)) fun σ' S' hw => q σ' S' (hw.trans (wipe_set (hi i (List.mem_cons_self ..))))
theorem tnG_ok {w : Wd} {mu : Mu} {H : Hp} {t : Tn} {x : V} {v : Val} {env env' : En} {σ : L2.St} {vs : List Nat} {Q : L2.St → Hp → Prop} (O : Own K w mu H) (r : RV K w x v) (e : tnE t v env = some env') (S : Slots K w env σ) (hi : ∀ i ∈ t.slots, i ∈ vs)
    (q : ∀ σ', Slots K w env' σ' → wipe σ' vs = wipe σ vs → Q σ' H) : tnG K t x σ H Q := by
  cases t with
  | nm i =>
    cases e
    exact q _ (S.set r) (wipe_set (hi i (by simp [Tn.slots])))
  | tp is =>
    unfold tnE at e
    dsimp only at e
    split at e
    · rename_i ds
      cases r with
      | tup h1 h2 =>
        refine ⟨_, _, rfl, (.inl (.inl (O.sub _ _ h1))), ?_, gNames_ok (Pd.rv (Pd.ofRep h2)) e S hi q⟩
        have : ∀ {is : List Nat} {us : List Val} {env env' : En}, setAll is us env = some env' → us.length = is.length := by
          intro is
          induction is with
          | nil => intro us env env' h; cases us with
            | nil => rfl
            | cons _ _ => simp [setAll] at h
          | cons i is ih => intro us env env' h; cases us with
            | nil => simp [setAll] at h
            | cons u us => simp only [setAll] at h; simp [ih h]
        have l := this e
        rw [h2.length]; simpa using l
    · cases e
theorem comp_tLc {it : Ix} {t : Tn} {vs : List Nat} {c : Tx} {m : Ex} {σ : L2.St} {H : Hp} {Q : VK} (h : tF K (fComp it t vs c m) σ H Q) : tLc (tI K it) (tnG K t) (tT K c) (tE K m) vs σ H Q := by
  obtain ⟨w, env, mu, cc, mu', S, O, e, q⟩ := h
  unfold fComp at e
  split at e
  · rename_i items mu1 ei
    split at e
    · rename_i res mu2 el
      split at e
      · rename_i hsl
        cases e
        have hin : ∀ i ∈ t.slots, i ∈ vs := fun i hi => by
          have := List.all_eq_true.mp hsl i hi
          simpa using this
        refine ⟨w, env, mu, items, mu1, S, O, ei, fun w1 H1 J x1 O1 it1 D hD => ?_⟩
        refine ⟨fun i n H2 => n = items.length - i ∧ i ≤ items.length ∧ ∃ w2 acc xs mu3, Ext w1 w2 ∧ Own K w2 mu3 H2 ∧ Fresh w2 mu3 D ∧ H2 D = some (.lst xs) ∧ Paired (RC K w2) xs acc ∧ lpC t c m (wipeE env vs) (items.drop i) acc mu3 = some (res, mu'),
          ⟨_, rfl, Nat.zero_le _, w1, [], [], mu1, Ext.refl w1, O1.laid hD, fresh_new O1 hD, upd_same, .nil, by simpa using el⟩, ?_⟩
        rintro i n H2 ⟨rfl, hi, w2, acc, xs, mu3, x2, O2, f2, hD2, pa, el2⟩
        -- the new list stands among what is not touched
        have Oi : Own K ⟨w2.F, upd w2.G D (.lst xs), w2.r⟩ mu3 H2 := by
          obtain ⟨f21, f22, f23⟩ := f2
          refine ⟨O2.sub, fun a o e => ?_, fun a o e => ?_, O2.len, fun l c e => ?_, O2.inj⟩
          · have e : upd w2.G D (.lst xs) a = some o := e
            by_cases z : a = D
            · subst z; rw [upd_same] at e; cases e; exact hD2
            · rw [upd_ne z] at e; exact O2.subG a o e
          · show upd w2.G D (.lst xs) a = none
            have e : w2.F a = some o := e
            have z : a ≠ D := by rintro rfl; rw [f21] at e; cases e
            rw [upd_ne z]; exact O2.dis a o e
          · obtain ⟨a, h1, h2, h3, h4⟩ := O2.cell l c e
            have z : a ≠ D := by rintro rfl; exact f23 l c e h1
            exact ⟨a, h1, h2, by show upd w2.G D (.lst xs) a = none; rw [upd_ne z]; exact h3, CellOk.g h4 rfl⟩
        have xi : Ext w1 ⟨w2.F, upd w2.G D (.lst xs), w2.r⟩ := by
          refine ⟨x2.F, fun a o e => ?_, x2.r⟩
          have e2 := x2.G a o e
          have z : a ≠ D := by
            rintro rfl
            rw [f2.2.1] at e2; cases e2
          show upd w2.G D (.lst xs) a = some o
          rw [upd_ne z]; exact e2
        by_cases hlt : i < items.length
        · refine .inr ⟨it1.go _ mu3 H2 xi Oi i hlt, ?_⟩
          refine ⟨fun H' => i + 1 ≤ items.length ∧ ∃ w2 acc xs mu3, Ext w1 w2 ∧ Own K w2 mu3 H' ∧ Fresh w2 mu3 D ∧ H' D = some (.lst xs) ∧ Paired (RC K w2) xs acc ∧ lpC t c m (wipeE env vs) (items.drop (i + 1)) acc mu3 = some (res, mu'), ?_, ?_⟩
          · rintro H' ⟨h0, hh⟩
            exact ⟨items.length - (i + 1), by omega, rfl, h0, hh⟩
          · intro x H3 hy
            obtain ⟨v, w3, hv, x3, O3, r3⟩ := it1.yld _ mu3 H2 xi Oi i x H3 hlt hy
            have ed : items.drop i = v :: items.drop (i + 1) := by
              rw [List.drop_eq_getElem_cons hlt]
              rw [List.getElem?_eq_getElem hlt] at hv
              cases hv; rfl
            rw [ed] at el2
            unfold lpC at el2
            split at el2
            · rename_i env1 et
              have S3 : Slots K w3 (wipeE env vs) (wipe σ vs) := slots_wipe ((S.mono x1).mono (xi.trans x3)) vs
              refine tnG_ok O3 r3 et S3 hin fun σ2 S2 hw => ?_
              refine ⟨hw.trans wipe_wipe, ?_⟩
              -- back to the world without the list
              have back : ∀ {w5 : Wd} {mu5 : Mu} {H5 : Hp} {ys : List V} {acc' : List Val}, Ext w3 w5 → Own K w5 mu5 H5 → Paired (RC K ⟨w5.F, w2.G, w5.r⟩) ys acc' → Own K ⟨w5.F, w2.G, w5.r⟩ mu5 (upd H5 D (.lst ys)) ∧ Fresh ⟨w5.F, w2.G, w5.r⟩ mu5 D ∧ Ext w1 ⟨w5.F, w2.G, w5.r⟩ ∧ H5 D = some (.lst xs) := by
                intro w5 mu5 H5 ys acc' x5 O5 p5
                have g5 : w5.G D = some (.lst xs) := (x3.trans x5).G D _ upd_same
                have F5 : w5.F D = none := by
                  cases z : w5.F D with
                  | none => rfl
                  | some u => have := O5.dis D u z; rw [this] at g5; cases g5
                have sG : Sub w2.G w5.G := fun a o e => by
                  refine (x3.trans x5).G a o ?_
                  have z : a ≠ D := by rintro rfl; rw [f2.2.1] at e; cases e
                  show upd w2.G D (.lst xs) a = some o
                  rw [upd_ne z]; exact e
                have neD : ∀ {l : Nat} {cc : Cell} {a : Addr}, mu5[l]? = some (some cc) → w5.r[l]? = some a → a ≠ D := by
                  intro l cc a h1 h2 z
                  obtain ⟨b, q1, _, q3, _⟩ := O5.cell l cc h1
                  rw [h2] at q1; cases q1
                  subst z
                  rw [g5] at q3; cases q3
                refine ⟨⟨O5.sub.up F5, (sG.trans O5.subG).up f2.2.1, fun a o e => Sub.nn sG (O5.dis a o e), O5.len, fun l cc e => ?_, O5.inj⟩, ⟨F5, f2.2.1, fun l cc e z => neD e z rfl⟩, ⟨xi.F.trans ((x3.trans x5).F), x2.G, ?_⟩, O5.subG D _ g5⟩
                · obtain ⟨a, q1, q2, q3, q4⟩ := O5.cell l cc e
                  exact ⟨a, q1, q2, Sub.nn sG q3, CellOk.g q4 (upd_ne (neD e q1))⟩
                · obtain ⟨m1, e1⟩ := xi.r
                  obtain ⟨m2, e2⟩ := (x3.trans x5).r
                  exact ⟨m1 ++ m2, by show w5.r = _; rw [e2, e1, List.append_assoc]⟩
              have rcs : ∀ {w5 : Wd}, Ext w3 w5 → Paired (RC K ⟨w5.F, w2.G, w5.r⟩) xs acc := fun {w5} x5 =>
                Paired.mapP pa fun _ _ z => RC.mono (w := w2) (w' := ⟨w5.F, w2.G, w5.r⟩) (x3.trans x5).F (x3.trans x5).r z
              split at el2
              · rename_i mu4 ec
                split at el2
                · rename_i y mu5 em
                  split at el2
                  · rename_i hl
                    refine ⟨w3, env1, mu3, true, mu4, S2, O3, ec, fun w4 H4 x4 O4 => ?_⟩
                    dsimp only
                    rw [if_pos rfl]
                    refine ⟨w4, env1, mu4, y, mu5, S2.mono x4, O4, em, fun w5 z H5 x5 O5 r5 => ?_⟩
                    have x35 := x4.trans x5
                    have py : Paired (RC K ⟨w5.F, w2.G, w5.r⟩) (xs ++ [z]) (acc ++ [y]) := Pd.append (rcs x35) (.cons (RC.mono (w := w5) (w' := ⟨w5.F, w2.G, w5.r⟩) Sub.rfl' ⟨[], by simp⟩ (rc_one r5 hl.2)) .nil)
                    obtain ⟨b1, b2, b3, b4⟩ := back x35 O5 py
                    refine ⟨xs, b4, by rw [Paired.length pa]; exact Nat.lt_of_lt_of_le hl.1 (text_line (Nat.le_refl _)), hlt, _, _, _, _, b3, b1, b2, upd_same, py, el2⟩
                  · cases el2
                · cases el2
              · rename_i mu4 ec
                refine ⟨w3, env1, mu3, false, mu4, S2, O3, ec, fun w4 H4 x4 O4 => ?_⟩
                dsimp only
                rw [if_neg Bool.false_ne_true]
                obtain ⟨b1, b2, b3, b4⟩ := back x4 O4 (rcs x4)
                have eu : upd H4 D (.lst xs) = H4 := by
                  funext a
                  by_cases z : a = D
                  · subst z; rw [upd_same, b4]
                  · rw [upd_ne z]
                rw [eu] at b1
                exact ⟨hlt, _, _, _, _, b3, b1, b2, b4, rcs x4, el2⟩
              · cases el2
            · cases el2
        · have hi' : i = items.length := by omega
          refine .inl ⟨it1.stop _ mu3 H2 xi Oi i (by omega), ?_⟩
          rw [hi', List.drop_length] at el2
          unfold lpC at el2
          cases el2
          exact q w2 D H2 (x1.trans x2) O2 f2 ⟨xs, hD2, pa⟩
      · cases e
    · cases e
  · cases e
theorem dts_nil {X : Cx} : PTs X [] (tT X.kc cYes) := ⟨fun pins s σ H Q I h => pts_nil.run pins s σ H Q I (by
  obtain ⟨w, env, mu, b, mu', S, O, e, q⟩ := h
  cases e
  exact q w H (Ext.refl w) O)⟩
theorem dts_one {X : Cx} {c : Expr} {m : Tx} (h : DT X c m) : PTs X [c] (tT X.kc m) := pts_one h
theorem dn_name {X : Cx} {i : Nat} {x : Str} {pos : Pos} (hN : X.N.Nodup) (hi : X.N[i]? = some x) (hx : Loc X.env.scope x) (hf : X.fn x = true ∨ X.env.scope.names.lookup x = some .local := by first | exact .inl rfl | exact .inr rfl | assumption) : PG X (.Name x pos) (tnG X.kc (.nm i)) := pg_name hN hi hx hf
theorem dns_nil {X : Cx} : PGs X [] (gNames []) := pgs_nil
theorem dns_cons {X : Cx} {i : Nat} {x : Str} {pos : Pos} {es : List Expr} {is : List Nat} (hN : X.N.Nodup) (hi : X.N[i]? = some x) (hx : Loc X.env.scope x) (h : PGs X es (gNames is)) (hs : (assignEach (.Name x pos :: es) X.env).map (·.2) = assign (.Name x pos) X.env :: (assignEach es X.env).map (·.2) := by rfl)
    (hf : X.fn x = true ∨ X.env.scope.names.lookup x = some .local := by first | exact .inl rfl | exact .inr rfl | assumption) : PGs X (.Name x pos :: es) (gNames (i :: is)) := pgs_cons (pg_name hN hi hx hf) h hs
theorem dn_tup {X : Cx} {es : List Expr} {k : Nat} {is : List Nat} {pos : Pos} (hc : X.calm = true) (h : PGs X es (gNames is)) (hn : (assignEach es X.env).length = is.length := by rfl) (hst : (assignEach es X.env).findIdx? (·.1) = none := by rfl) : PG X (.Tuple es k pos) (tnG X.kc (.tp is)) := pg_tup hc h hn hst
theorem df_lc {elt tg iter : Expr} {ifs : List Expr} {scope : Scope} {own : List (Str × Nat)} {pos : Pos} {it : Ix} {t : Tn} {c : Tx} {m : Ex} (hc : X.calm = true) (hN : X.N.Nodup) (hi : DI X tg iter it) (ok : BlkOk X.N X.env.scope scope own)
    (hg : ∀ (s : Shared) (H : Hp) (C : Addr) (cl : List (Str × Addr)) (fp : List Addr), PG (X.blk s H scope (compEnvC scope cl C X.env) fp) tg (tnG X.kc t)) (ht : ∀ (s : Shared) (H : Hp) (C : Addr) (cl : List (Str × Addr)) (fp : List Addr), PTs (X.blk s H scope (compEnvC scope cl C X.env) fp) ifs (tT X.kc c))
    (he : ∀ (s : Shared) (H : Hp) (C : Addr) (cl : List (Str × Addr)) (fp : List Addr), DE (X.blk s H scope (compEnvC scope cl C X.env) fp) elt m) (hs : ∀ x, foldedSetIterable iter X.env x = pure x := by intro _; rfl) :
    DF X (.ListComp elt [⟨tg, iter, ifs, 0⟩] scope pos) (fComp it t (own.map (·.2)) c m) := (pe_lc (te := tE X.kc m) hc hN hi ok hg ht he hs).imp fun _ _ _ h => comp_tLc h
theorem tS_set {i : Nat} {m : Ex} {te : TE} {D : Ends} {σ : L2.St} {H : Hp} (hm : ∀ σ H Q, tE K m σ H Q → te σ H Q) (h : tS K (sSet i m) D σ H) : tAsg te (gName i) D σ H := by
  obtain ⟨w, env, mu, fl, S, O, e, q⟩ := h
  unfold sSet at e
  split at e
  · rename_i v mu1 em
    cases e
    exact hm _ _ _ ⟨w, env, mu, v, mu1, S, O, em, fun w1 x H1 x1 O1 r1 => q w1 _ H1 x1 ((S.mono x1).set r1) O1⟩
  · cases e
/-- name = [..]: k true: kept as a cell of one's own -/
@[simp] def eKeep (k : Bool) (f : Fx) : Ex := if k then eOwn f else eFr f
theorem ds_setLc {i : Nat} {y : Str} {py : Pos} {elt tg iter : Expr} {ifs : List Expr} {scope : Scope} {own : List (Str × Nat)} {pos spos : Pos} {it : Ix} {t : Tn} {c : Tx} {m : Ex} {k : Bool} (hc : X.calm = true) (hN : X.N.Nodup) (hy : X.N[i]? = some y) (hyl : X.env.scope.names.lookup y = some .local)
    (hsw : swapsWith (.ListComp elt [⟨tg, iter, ifs, 0⟩] scope pos) (some (.Name y py)) spos.line X.env = pure true) (hi : DI X tg iter it) (ok : BlkOk X.N X.env.scope scope own)
    (hg : ∀ (s : Shared) (H : Hp) (C : Addr) (cl : List (Str × Addr)) (fp : List Addr), PG (X.blk s H scope (compEnvC scope cl C X.env) fp) tg (tnG X.kc t)) (ht : ∀ (s : Shared) (H : Hp) (C : Addr) (cl : List (Str × Addr)) (fp : List Addr), PTs (X.blk s H scope (compEnvC scope cl C X.env) fp) ifs (tT X.kc c))
    (he : ∀ (s : Shared) (H : Hp) (C : Addr) (cl : List (Str × Addr)) (fp : List Addr), DE (X.blk s H scope (compEnvC scope cl C X.env) fp) elt m) (hs : ∀ x, foldedSetIterable iter X.env x = pure x := by intro _; rfl) :
    DS X (.Assign [.Name y py] (.ListComp elt [⟨tg, iter, ifs, 0⟩] scope pos) spos) (sSet i (eKeep k (fComp it t (own.map (·.2)) c m))) := (ps_setLc (te := tE X.kc m) hc hN hy hyl hsw hi ok hg ht he hs).imp fun D σ H h => tS_set (fun σ H Q z => by
  refine comp_tLc ?_
  cases k with
  | true => exact tE_own z
  | false => exact tE_fr z) h

/-! ### enumerate, zip, ranges with a step -/
def enumL (ds : List T) : List Val := ds.zipIdx.map fun p => .t (.tuple [.int (p.2 : Nat), p.1])
@[simp] def iEnm (m : Ex) : Ix := fun env mu => match m env mu with
  | some (v, mu1) => (match lvS v with
    | some ds => some (enumL ds, mu1)
    | none => none)
  | none => none
theorem yield_tup {w1 : Wd} {mu1 : Mu} {H1 : Hp} {p : Addr} {xs : List V} {ds : List T} (O : Own K w1 mu1 H1) (hp : H1 p = none) (r : RepAll K w1.F xs ds) : ∃ w2, Ext w1 w2 ∧ Own K w2 mu1 (upd H1 p (.tup xs)) ∧ RV K w2 (.ref p) (.t (.tuple ds)) :=
  ⟨{ w1 with F := upd w1.F p (.tup xs) }, ext_laidF (O.sub.nn hp), O.laidF hp, Rep.tup upd_same (r.mono (Sub.new (O.sub.nn hp)))⟩
theorem di_enum {e : Expr} {m : Ex} {p pos tpos : Pos} {elts : List Expr} {kk : Nat} (hg : Gl X "enumerate") (hm : X.mg "enumerate" = none) (he : DE X e m) (hs : starEach [e] X.env = [(false, eval e X.env)] := by rfl) : DI X (.Tuple elts kk tpos) (.Call (.Name "enumerate" p) [e] [] pos) (iEnm m) :=
  (pi_enum hg hm (pa_cons he pa_nil hs) hs).imp fun σ H Q h => by
  obtain ⟨w, env, mu, items, mu', S, O, e, q⟩ := h
  unfold iEnm at e
  split at e
  · rename_i v mu1 em
    split at e
    · rename_i ds hd
      cases e
      refine ⟨w, env, mu, v, _, S, O, em, fun w1 x H1 x1 O1 r1 => ?_⟩
      obtain ⟨a, xs, rfl, h1, h2⟩ := lvS_ok O1 r1 hd
      refine ⟨a, xs, rfl, stays h1 (Ext.refl w1) O1, q w1 H1 _ x1 O1 ?_⟩
      refine ⟨fun w2 mu2 H2 x O i hi => ?_, fun w2 mu2 H2 x O i hi => ?_, fun w2 mu2 H2 x O i y H3 hi hy => ?_⟩
      · have hi : i < xs.length := by rw [h2.length]; simpa [enumL] using hi
        exact ⟨xs, xs[i], stays h1 x O, by simp [hi]⟩
      · exact ⟨xs, stays h1 x O, by rw [h2.length]; simpa [enumL] using hi⟩
      · obtain ⟨p, z, rfl, hp, rfl, hz⟩ := hy
        obtain ⟨d, h3, h4⟩ := h2.get' (hz xs (stays h1 x O))
        obtain ⟨w3, y1, y2, y3⟩ := yield_tup (xs := [.int (i : Nat), z]) (ds := [.int (i : Nat), d]) O hp (.cons (.int _) (.cons (h4.mono x.F) .nil))
        exact ⟨_, w3, by simp [enumL, h3], y1, y2, y3⟩
    · cases e
  · cases e
def zipL (ds es : List T) : List Val := (ds.zip es).map fun p => .t (.tuple [p.1, p.2])
@[simp] def iZp (m : Ax) : Ix := fun env mu => match m env mu with
  | some ([va, vb], mu1) => (match lvS va, lvS vb with
    | some ds, some es => some (zipL ds es, mu1)
    | _, _ => none)
  | _ => none
theorem di_zip {e e2 : Expr} {m : Ax} {p pos tpos : Pos} {elts : List Expr} {kk : Nat} (hg : Gl X "zip") (hm : X.mg "zip" = none) (ha : DA X [e, e2] m)
    (hs : starEach [e, e2] X.env = (false, eval e X.env) :: starEach [e2] X.env := by rfl) (hpl : (backTo pos (starEach [e2] X.env)).any (·.1) = false := by rfl) : DI X (.Tuple elts kk tpos) (.Call (.Name "zip" p) [e, e2] [] pos) (iZp m) :=
  (pi_zip hg hm ha hs hpl).imp fun σ H Q h => by
  obtain ⟨w, env, mu, items, mu', S, O, e, q⟩ := h
  unfold iZp at e
  split at e
  · rename_i va vb mu1 em
    split at e
    · rename_i ds es hd he
      cases e
      refine ⟨w, env, mu, _, _, S, O, em, fun w1 xs H1 x1 O1 r1 => ?_⟩
      cases r1 with
      | cons r1 r2 =>
        cases r2 with
        | cons r2 r3 =>
          cases r3
          obtain ⟨a, xs, rfl, h1, h2⟩ := lvS_ok O1 r1 hd
          obtain ⟨b, ys, rfl, h3, h4⟩ := lvS_ok O1 r2 he
          refine ⟨a, b, xs, ys, rfl, stays h1 (Ext.refl w1) O1, stays h3 (Ext.refl w1) O1, q w1 H1 _ x1 O1 ?_⟩
          have hl : (zipL ds es).length = min xs.length ys.length := by simp [zipL, h2.length, h4.length]
          refine ⟨fun w2 mu2 H2 x O i hi => ?_, fun w2 mu2 H2 x O i hi => ?_, fun w2 mu2 H2 x O i y H3 hi hy => ?_⟩
          · rw [hl] at hi
            exact ⟨xs, ys, xs[i]'(by omega), ys[i]'(by omega), stays h1 x O, stays h3 x O, by simp, by simp⟩
          · rw [hl] at hi
            exact ⟨xs, ys, stays h1 x O, stays h3 x O, by omega⟩
          · obtain ⟨p, z, z', rfl, hp, rfl, hz, hz'⟩ := hy
            obtain ⟨d, h5, h6⟩ := h2.get' (hz xs (stays h1 x O))
            obtain ⟨d', h7, h8⟩ := h4.get' (hz' ys (stays h3 x O))
            obtain ⟨w3, y1, y2, y3⟩ := yield_tup (xs := [z, z']) (ds := [d, d']) O hp (.cons (h6.mono x.F) (.cons (h8.mono x.F) .nil))
            refine ⟨_, w3, ?_, y1, y2, y3⟩
            have hz2 : (ds.zip es)[i]? = some (d, d') := List.getElem?_zip_eq_some.mpr ⟨h5, h7⟩
            simp only [zipL, List.getElem?_map, hz2, Option.map_some]
    · cases e
  · cases e
theorem it_rngC {w : Wd} {lo c : Int} {n : Nat} : ItOk K w (Itc lo c n) ((rangeL lo c n).map .t) := by
  refine ⟨fun w2 mu2 H2 x O i hi => ?_, fun w2 mu2 H2 x O i hi => ?_, fun w2 mu2 H2 x O i y H3 hi hy => ?_⟩
  · show i < n
    simpa [rangeL] using hi
  · show n ≤ i
    simpa [rangeL] using hi
  · have hi : i < n := by simpa [rangeL] using hi
    obtain ⟨rfl, rfl⟩ := hy
    exact ⟨.t (.int (lo + (i : Int) * c)), w2, by simp [rangeL, hi], Ext.refl w2, O, Rep.int _⟩
/-- range(i, j, -1) -/
def iRngD (m : Ax) : Ix := fun env mu => match m env mu with
  | some ([.t (.int i), .t (.int j), .t (.int c)], mu1) => if c = -1 ∧ -(2 ^ 62) ≤ i ∧ i < 2 ^ 62 ∧ -(2 ^ 62) ≤ j ∧ j < 2 ^ 62 then some ((rangeL i (-1) (i - j).toNat).map .t, mu1) else none
  | _ => none
theorem di_rngD {tg a b c : Expr} {ma : Ax} {p pos : Pos} (hg : Gl X "range") (hm : X.mg "range" = none) (ha : DA X [a, b, c] ma)
    (hs : starEach [a, b, c] X.env = (false, eval a X.env) :: starEach [b, c] X.env := by rfl) (hpl : (backTo pos (starEach [b, c] X.env)).any (·.1) = false := by rfl) : DI X tg (.Call (.Name "range" p) [a, b, c] [] pos) (iRngD ma) :=
  (pi_range3 hg hm ha hs hpl).imp fun σ H Q h => by
  obtain ⟨w, env, mu, items, mu', S, O, e, q⟩ := h
  unfold iRngD at e
  split at e
  · rename_i i j c mu1 em
    split at e
    · rename_i hj
      cases e
      obtain ⟨rfl, hj⟩ := hj
      refine ⟨w, env, mu, _, _, S, O, em, fun w1 xs H1 x1 O1 r1 => ?_⟩
      cases r1 with
      | cons r1 r2 =>
        cases r2 with
        | cons r2 r3 =>
          cases r3 with
          | cons r3 r4 =>
            cases r1; cases r2; cases r3; cases r4
            exact ⟨i, j, -1, (i - j).toNat, rfl, RgC.neg hj.1 hj.2.1 hj.2.2.1 hj.2.2.2, q w1 H1 _ x1 O1 it_rngC⟩
    · cases e
  · cases e
/-! ### minus, powers, bits, text times int -/
@[simp] def eNeg (m : Ex) : Ex := fun env mu => match m env mu with
  | some (.t (.int i), mu1) => some (.t (.int (-i)), mu1)
  | _ => none
theorem de_neg {e : Expr} {m : Ex} {pos : Pos} (he : DE X e m) : DE X (.UnaryOp .USub e pos) (eNeg m) := (pe_un un_neg he).imp fun σ H Q h => by
  obtain ⟨w, env, mu, v, mu', S, O, e, q⟩ := h
  unfold eNeg at e
  split at e
  · cases e
    rename_i i em
    refine ⟨w, env, mu, _, _, S, O, em, fun w1 x H1 x1 O1 r1 => ?_⟩
    cases r1
    exact ⟨_, rfl, q w1 _ H1 x1 O1 (Rep.int _)⟩
  · cases e
def CPowW (i j : Int) : Prop := 0 ≤ j ∧ (Builtin.Int.intBits i : Int) * j ≤ 2 ^ 27
theorem op_powW : OpR X (binaryOp .Pow) (rI CPowW fun i j => .int (i ^ j.toNat)) := opI fun _ _ _ _ _ _ _ hc q => pow_int hc.1 hc.2 q
def gPowW : G2 := gI (fun i j => decide (0 ≤ j ∧ (Builtin.Int.intBits i : Int) * j ≤ 2 ^ 27)) fun i j => i ^ j.toNat
theorem opv_powW : OpV K (rI CPowW fun i j => .int (i ^ j.toNat)) gPowW := opv_I fun i j h => by
  exact (of_decide_eq_true h : 0 ≤ j ∧ (Builtin.Int.intBits i : Int) * j ≤ 2 ^ 27)
@[simp] def eBits (m : Ex) : Ex := fun env mu => match m env mu with
  | some (.t (.int i), mu1) => some (.t (.int (Builtin.Int.intBits i : Nat)), mu1)
  | _ => none
theorem de_bits {o : Expr} {m : Ex} {apos pos : Pos} (ho : DE X o m) (hbase : attributeBase o "bit_length" X.env (eval o X.env) = eval o X.env := by rfl) (hline : (apos.endLine == pos.line) = true := by rfl) : DE X (.Call (.Attribute o "bit_length" apos) [] [] pos) (eBits m) := (pe_bits ho hbase hline).imp fun σ H Q h => by
  obtain ⟨w, env, mu, v, mu', S, O, e, q⟩ := h
  unfold eBits at e
  split at e
  · cases e
    rename_i i em
    refine ⟨w, env, mu, _, _, S, O, em, fun w1 x H1 x1 O1 r1 => ?_⟩
    cases r1
    exact ⟨_, rfl, q w1 _ H1 x1 O1 (Rep.int _)⟩
  · cases e
end
end Vi

set_option Elab.async false
set_option linter.all false
set_option maxRecDepth 100000
set_option maxHeartbeats 4000000
/-! Vi7: dicts. -/
namespace Vi
open PySem PySem.Spec PyProof.Rows L2
/-! ### keys as data -/
mutual
def teq : T → T → Bool
  | .none, .none => true
  | .int i, .int j => decide (i = j)
  | .str x, .str y => decide (x = y)
  | .tuple xs, .tuple ys => teqs xs ys
  | _, _ => false
def teqs : List T → List T → Bool
  | [], [] => true
  | x :: xs, y :: ys => teq x y && teqs xs ys
  | _, _ => false
end
def findT {β : Type} (kvs : List (T × β)) (k : T) : Option β := (kvs.find? fun p => teq p.1 k).map (·.2)
def putT {β : Type} (kvs : List (T × β)) (k : T) (v : β) : List (T × β) := if kvs.any (fun p => teq p.1 k) then kvs.map (fun p => if teq p.1 k then (p.1, v) else p) else kvs ++ [(k, v)]
theorem teq_key (a b : Key) : teq (keyT a) (keyT b) = decide (a = b) := by
  cases a <;> cases b <;> simp [keyT, teq]
theorem teqs_keys : ∀ a b : List Key, teqs (a.map keyT) (b.map keyT) = decide (a = b)
  | [], [] => by simp [teqs]
  | [], _ :: _ => by simp [teqs]
  | _ :: _, [] => by simp [teqs]
  | x :: xs, y :: ys => by
    simp only [List.map_cons, teqs, teq_key, teqs_keys xs ys, List.cons.injEq]
    by_cases h1 : x = y <;> by_cases h2 : xs = ys <;> simp [h1, h2]
theorem teq_keyP (a b : List Key) : teq (keyP a) (keyP b) = decide (a = b) := by
  simp only [keyP, teq]; exact teqs_keys a b
theorem teq_keyN (a b : Leaf) : teq (keyN a) (keyN b) = decide (a = b) := by
  cases a <;> cases b <;> simp [keyN, teq]
def keyK? : T → Option Key
  | .int i => some (.inl i)
  | .str s => some (.inr s)
  | _ => none
theorem keyK?_eq {d : T} {k : Key} (h : keyK? d = some k) : d = keyT k := by
  cases d <;> simp [keyK?] at h <;> subst h <;> rfl
def keyKs? : List T → Option (List Key)
  | [] => some []
  | d :: ds => match keyK? d, keyKs? ds with
    | some k, some ks => some (k :: ks)
    | _, _ => none
theorem keyKs?_eq : ∀ {ds : List T} {ks : List Key}, keyKs? ds = some ks → ds = ks.map keyT
  | [], _, h => by simp [keyKs?] at h; subst h; rfl
  | d :: ds, ks, h => by
    unfold keyKs? at h
    split at h
    · rename_i k ks' h1 h2
      cases h
      rw [keyK?_eq h1, keyKs?_eq h2]; rfl
    · cases h
def keyP? : T → Option (List Key)
  | .tuple ds => keyKs? ds
  | _ => none
theorem keyP?_eq {d : T} {k : List Key} (h : keyP? d = some k) : d = keyP k := by
  cases d <;> simp [keyP?] at h
  rw [keyKs?_eq h]; rfl
def keyN? : T → Option Leaf
  | .none => some .none
  | .int i => some (.num i)
  | .str s => some (.text s)
  | _ => none
theorem keyN?_eq {d : T} {k : Leaf} (h : keyN? d = some k) : d = keyN k := by
  cases d <;> simp [keyN?] at h <;> subst h <;> rfl
@[simp] def keyOk : DK → T → Bool
  | .k, d => (keyK? d).isSome
  | .p, d => (keyP? d).isSome
  | .n, d => (keyN? d).isSome
def leafV : Leaf → V
  | .none => .non
  | .num i => .int i
  | .text s => .str s
section
variable {X : Cx} {K : Kc}
/-! ### the pairs of a dict and its cell's -/
section
variable {κ : Type} [DecidableEq κ] {inj : κ → T} {w : Wd}
/-- a dict's pairs, side by side -/
def DP (K : Kc) (w : Wd) (inj : κ → T) : List (κ × V) → List (T × Val) → Prop := Paired fun p c => c.1 = inj p.1 ∧ RC K w p.2 c.2
theorem dp_of : ∀ {ks : List (κ × V)} {kvs : List (T × Val)}, kvs.map (·.1) = ks.map (fun p => inj p.1) → Paired (RC K w) (ks.map (·.2)) (kvs.map (·.2)) → DP K w inj ks kvs
  | [], [], _, _ => .nil
  | [], _ :: _, h, _ => by simp at h
  | _ :: _, [], h, _ => by simp at h
  | p :: ks, c :: kvs, h, r => by
    simp only [List.map_cons, List.cons.injEq] at h r
    cases r with
    | cons r1 r2 => exact .cons ⟨h.1, r1⟩ (dp_of h.2 r2)
theorem dp_keys {ks : List (κ × V)} {kvs : List (T × Val)} (h : DP K w inj ks kvs) : kvs.map (·.1) = ks.map (fun p => inj p.1) ∧ Paired (RC K w) (ks.map (·.2)) (kvs.map (·.2)) := by
  unfold DP at h
  induction h with
  | nil => exact ⟨rfl, .nil⟩
  | cons h _ ih => exact ⟨by simp only [List.map_cons, h.1, ih.1], .cons h.2 ih.2⟩
theorem dp_find (hi : ∀ a b, teq (inj a) (inj b) = decide (a = b)) {ks : List (κ × V)} {kvs : List (T × Val)} (h : DP K w inj ks kvs) (k : κ) :
    (∃ x v, valV ks k = some x ∧ findT kvs (inj k) = some v ∧ RC K w x v) ∨ (valV ks k = none ∧ findT kvs (inj k) = none) := by
  unfold DP at h
  induction h with
  | nil => exact .inr ⟨rfl, rfl⟩
  | @cons p c ks kvs h _ ih =>
    obtain ⟨h1, h2⟩ := h
    unfold findT at ih ⊢
    rw [List.find?_cons, h1, hi]
    by_cases q : p.1 = k
    · rw [valV_pos q, decide_eq_true q]
      exact .inl ⟨_, _, rfl, rfl, h2⟩
    · rw [valV_neg q, decide_eq_false q]
      exact ih
theorem dp_any (hi : ∀ a b, teq (inj a) (inj b) = decide (a = b)) {ks : List (κ × V)} {kvs : List (T × Val)} (h : DP K w inj ks kvs) (k : κ) : (kvs.any fun p => teq p.1 (inj k)) = ks.any fun p => decide (p.1 = k) := by
  unfold DP at h
  induction h with
  | nil => rfl
  | @cons p c ks kvs h _ ih => rw [List.any_cons, List.any_cons, h.1, hi, ih]
theorem dp_put (hi : ∀ a b, teq (inj a) (inj b) = decide (a = b)) {ks : List (κ × V)} {kvs : List (T × Val)} (h : DP K w inj ks kvs) (k : κ) {x : V} {v : Val} (r : RC K w x v) : DP K w inj (putK ks k x) (putT kvs (inj k) v) := by
  unfold putK putT
  rw [dp_any hi h k]
  by_cases q : (ks.any fun p => decide (p.1 = k)) = true
  · rw [if_pos q, if_pos q]
    clear q
    unfold DP at h ⊢
    induction h with
    | nil => exact .nil
    | @cons p c ks kvs h _ ih =>
      rw [List.map_cons, List.map_cons, h.1, hi]
      refine .cons ?_ ih
      by_cases z : p.1 = k
      · rw [if_pos z, decide_eq_true z, if_pos rfl]; exact ⟨rfl, r⟩
      · rw [if_neg z, decide_eq_false z, if_neg Bool.false_ne_true]; exact h
  · rw [if_neg q, if_neg q]
    exact Pd.append h (.cons ⟨rfl, r⟩ .nil)
theorem putT_len {β : Type} (kvs : List (T × β)) (k : T) (v : β) : (putT kvs k v).length ≤ kvs.length + 1 := by
  unfold putT
  split
  · rw [List.length_map]; omega
  · rw [List.length_append]; simp
end
/-! ### the machine's side: dicts with None among the keys -/
section
variable {pins : List (Addr × Obj)} {σ : L2.St} {H : Hp} {s : Shared} {a : Addr} {y v : V} {u r : Value} {A : Around} {E : Value → Shared → Prop} {kvs : List (Leaf × V)} {k : Leaf}
theorem hon_of (I : Inv X pins σ H s) (e : H a = some (HON X.kc a kvs)) : kvs.length ≤ sizeLine ∧ (a == sysModules) = false ∧ ∃ vs, KV kvs vs ∧ s.heap.DictOf (leafKind X.prog X.w) a vs := (I.hok a _ e).1
theorem leaf_is {u : Value} (r : RelV (leafV k) u) : (leafKind X.prog X.w).is k u = true := by
  cases k with
  | none => cases (show u = Value.none from r); rfl
  | num i => obtain ⟨t, rfl⟩ := (show ∃ t, u = Value.int i t from r); exact decide_eq_true rfl
  | text z => obtain ⟨t, rfl⟩ := (show ∃ t, u = Value.str z t from r); show Value.isStrOf z (.str z t) = true; simp [Value.isStrOf]
/-- what a dict holds at a key -/
def NGet (X : Cx) (H : Hp) (a : Addr) (y : V) (o : Option V) : Prop := ∃ kvs k, H a = some (HON X.kc a kvs) ∧ y = leafV k ∧ o = valV kvs k
def NPut (X : Cx) (H : Hp) (a : Addr) (y v : V) (H' : Hp) : Prop := ∃ kvs k, H a = some (HON X.kc a kvs) ∧ y = leafV k ∧ kvs.length < sizeLine ∧ H' = upd H a (HON X.kc a (putK kvs k v))
theorem n_getItem {Q : Value → Shared → Prop} (I : Inv X pins σ H s) (g : NGet X H a y (some v)) (ry : RelV y u) (h : ∀ w' s', Inv X pins σ H s' → RelV v w' → Q w' s') : wpAny (model X.prog X.w) A (getItem (.ref a) u) Q E s := by
  obtain ⟨kvs, k, e, ey, l⟩ := g
  subst ey
  obtain ⟨z, hd, vs, rel, dd⟩ := hon_of I e
  obtain ⟨w', hw, rw'⟩ := RelO.some_of (v := v) (o := valueAt vs k) (by rw [l]; exact rel.val k)
  exact wpAny_getItem_of (leaf_is ry) dd.mapOf hw (h w' _ (I.tok _) rw')
theorem n_in {o : Option V} {Q : Value → Shared → Prop} (I : Inv X pins σ H s) (g : NGet X H a y o) (ry : RelV y u) (h : ∀ s', Inv X pins σ H s' → Q (.bool o.isSome) s') : wpAny (model X.prog X.w) A (compareOp .In u (.ref a)) Q E s := by
  obtain ⟨kvs, k, e, ey, l⟩ := g
  subst ey
  obtain ⟨z, hd, vs, rel, dd⟩ := hon_of I e
  refine wpAny_in_of (leaf_is ry) hd dd.mapOf ?_
  rw [← (rel.val k).isSome_eq, ← l]
  exact h _ (I.tok _)
theorem n_notIn {o : Option V} {Q : Value → Shared → Prop} (I : Inv X pins σ H s) (g : NGet X H a y o) (ry : RelV y u) (h : ∀ s', Inv X pins σ H s' → Q (.bool (!o.isSome)) s') : wpAny (model X.prog X.w) A (compareOp .NotIn u (.ref a)) Q E s := by
  obtain ⟨kvs, k, e, ey, l⟩ := g
  subst ey
  obtain ⟨z, hd, vs, rel, dd⟩ := hon_of I e
  refine wpAny_notIn_of (leaf_is ry) hd dd.mapOf ?_
  rw [← (rel.val k).isSome_eq, ← l]
  exact h _ (I.tok _)
theorem hon_ok {P : Program} {wd : World} {H' : Hp} {h' : Heap} {kvs : List (Leaf × V)} {vs : List (Leaf × Value)} (hp : P = X.prog) (hw : wd = X.w) (z : kvs.length ≤ sizeLine) (hd : (a == sysModules) = false) (rel : KV kvs vs) (dd : h'.DictOf (leafKind X.prog X.w) a vs) : ObjOk P wd H' h' a (HON X.kc a kvs) := by
  refine ⟨⟨z, hd, vs, rel, dd⟩, ?_, fun h1 h2 h3 k => ?_⟩
  · obtain ⟨o, _, _, ho, _⟩ := dd; exact ⟨o, ho⟩
  · obtain ⟨z, hd, vs, rel, ob, es, ep, e, c⟩ := h3
    exact ⟨z, hd, vs, rel, ob, es, ep, k _ e, c⟩
theorem n_setItem {H' : Hp} {Q : Unit → Shared → Prop} (I : Inv X pins σ H s) (g : NPut X H a y v H') (ry : RelV y u) (rv : RelV v r) (h : ∀ s', Inv X pins σ H' s' → Q () s') : wpAny (model X.prog X.w) A (setItem (.ref a) u r) Q E s := by
  obtain ⟨kvs, k, e, ey, l, eH⟩ := g
  subst ey eH
  obtain ⟨z, hd, vs, rel, dd⟩ := hon_of I e
  have hz : vs.length ≤ sizeLine := by rw [← rel.length]; exact z
  have hl : (putK kvs k v).length ≤ sizeLine := by have := length_putK kvs k v; omega
  refine wpAny_setItem_pairs (hsz := hz) (leaf_is ry) dd fun h' dd' hs => h _ ?_
  have he : ∃ q, h'.get? a = some q := let ⟨q, _, _, hq, _⟩ := dd'; ⟨q, hq⟩
  exact d_write I (by rw [e]; exact True.intro) hs he (hon_ok rfl rfl hl hd (rel.put k rv) dd')
theorem n_get2 {d : V} {o : Option V} {Q : Value → Shared → Prop} (I : Inv X pins σ H s) (g : NGet X H a y o) (ry : RelV y u) (rd : RelV d r) (h : ∀ w' s', Inv X pins σ H s' → RelV (o.getD d) w' → Q w' s') : wpAny (model X.prog X.w) A (call (.builtin "dict.get") [.ref a, u, r]) Q E s := by
  obtain ⟨kvs, k, e, ey, l⟩ := g
  subst ey
  obtain ⟨z, hd, vs, rel, dd⟩ := hon_of I e
  refine call_meetsIn PySem.F.slot_dict_get dd.typeIs PySem.F.entry_dict_get (PySem.F.args_dict_get_3 _ _ _) (meets_dict_get_default (leafKind X.prog X.w) a (leaf_is ry) hd r) ⟨_, dd.mapOf, h _ _ (I.tok _) ?_⟩
  rw [l]
  exact (rel.val k).getD rd
theorem n_typeIs (I : Inv X pins σ H s) (e : H a = some (HON X.kc a kvs)) : s.TypeIs (.ref a) "dict" ∧ (∀ b, Value.ref a = .ref b → ∃ ob, s.heap.get? b = some ob ∧ ob.dict = none) := by
  obtain ⟨_, hd, vs, _, dd⟩ := hon_of I e
  refine ⟨dd.typeIs, fun b q => ?_⟩
  cases q
  obtain ⟨ob, _, _, h1, h2, _⟩ := dd
  exact ⟨ob, h1, h2.2.1⟩
end
/-! ### a dict to be read -/
@[simp] def dvw : Val → Mu → Option (List (T × Val))
  | .t (.dict kvs), _ => some (kvs.map fun p => (p.1, .t p.2))
  | .bor (.dict kvs), _ => some (kvs.map fun p => (p.1, .t p.2))
  | .lab l, mu => match mu[l]? with
    | some (some (.dct _ kvs)) => some kvs
    | _ => none
  | _, _ => none
theorem dct_len {a : Addr} {q : DK} {keys : List T} {xs : List V} {o : HO} (h : DctO K a q keys xs o) : keys.length = xs.length := by
  cases q with
  | k => obtain ⟨kvs, _, rfl, rfl⟩ := h; simp
  | p => obtain ⟨kvs, _, rfl, rfl⟩ := h; simp
  | n => obtain ⟨kvs, _, rfl, rfl⟩ := h; simp
theorem zip_fst_snd {keys : List T} {ds : List T} (h : keys.length = ds.length) : ((keys.zip ds).map fun p => (p.1, Val.t p.2)).map (·.1) = keys ∧ ((keys.zip ds).map fun p => (p.1, Val.t p.2)).map (·.2) = ds.map Val.t := by
  refine ⟨?_, ?_⟩
  · rw [List.map_map]
    show (keys.zip ds).map (fun p => p.1) = keys
    exact List.map_fst_zip (Nat.le_of_eq h)
  · rw [List.map_map]
    show (keys.zip ds).map (fun p => Val.t p.2) = ds.map Val.t
    have := List.map_snd_zip (l₁ := keys) (l₂ := ds) (Nat.le_of_eq h.symm)
    rw [show (fun p : T × T => Val.t p.2) = Val.t ∘ (fun p => p.2) from rfl, ← List.map_map]
    exact congrArg _ this
theorem dvw_ok {w : Wd} {mu : Mu} {H : Hp} {x : V} {v : Val} {kvs : List (T × Val)} (O : Own K w mu H) (r : RV K w x v) (h : dvw v mu = some kvs) : ∃ a q xs o, x = .ref a ∧ H a = some o ∧ DctO K a q (kvs.map (·.1)) xs o ∧ Paired (RC K w) xs (kvs.map (·.2)) := by
  unfold dvw at h
  split at h
  · cases h
    cases r with
    | @dct a q keys xs o ds _ hq h1 h2 h3 h4 =>
      subst h4
      have hl : keys.length = ds.length := (dct_len h1).trans h3.length
      obtain ⟨z1, z2⟩ := zip_fst_snd hl
      exact ⟨a, q, xs, o, rfl, O.sub _ _ h2, by rw [z1]; exact h1, by rw [z2]; exact Pd.ofRep h3⟩
  · cases h
    rcases r with r | ⟨a, xs, ds, e, _⟩ | ⟨a, q, keys, xs, o, ds, e, rfl, ⟨hq, h1⟩, h2, h3⟩
    · cases r with
      | @dct a q keys xs o ds _ hq h1 h2 h3 h4 =>
        subst h4
        have hl : keys.length = ds.length := (dct_len h1).trans h3.length
        obtain ⟨z1, z2⟩ := zip_fst_snd hl
        exact ⟨a, q, xs, o, rfl, O.sub _ _ h2, by rw [z1]; exact h1, by rw [z2]; exact Pd.ofRep h3⟩
    · cases e
    · cases e
      have hl : keys.length = ds.length := (dct_len h1).trans h3.length
      obtain ⟨z1, z2⟩ := zip_fst_snd hl
      exact ⟨a, q, xs, o, rfl, O.subG _ _ h2, by rw [z1]; exact h1, by rw [z2]; exact Pd.ofRep h3⟩
  · obtain ⟨a, ha, rfl⟩ := r
    split at h
    · rename_i q us hc
      cases h
      obtain ⟨a', ha', _, _, xs, o, h1, h2, h3⟩ := O.cell _ _ hc
      rw [ha] at ha'; cases ha'
      exact ⟨a, q, xs, o, rfl, h1, h2, h3⟩
    · cases h
  · cases h
/-- a key that any kind could take -/
def keyAny (d : T) : Bool := (keyN? d).isSome || (keyP? d).isSome
def AGet (X : Cx) (H : Hp) (a : Addr) (y : V) (o : Option V) : Prop := DGet H a y o ∨ NGet X H a y o
theorem key_tup {w : Wd} {mu : Mu} {H : Hp} {y : V} {k : List Key} (O : Own K w mu H) (r : Rep K w.F y (keyP k)) : ∃ b, y = .ref b ∧ H b = some (.tup (k.map kV)) := by
  cases r with
  | @tup b xs _ h1 h2 =>
    refine ⟨b, rfl, ?_⟩
    have : ∀ {k : List Key} {xs : List V}, RepAll K w.F xs (k.map keyT) → xs = k.map kV := by
      intro k
      induction k with
      | nil => intro xs r; cases r; rfl
      | cons a k ih => intro xs r; cases r with
        | cons r1 r2 =>
          rw [ih r2]
          cases a <;> (cases r1; rfl)
    rw [← this h2]
    exact O.sub _ _ h1
theorem key_k {F : Hp} {y : V} {k : Key} (r : Rep K F y (keyT k)) : y = kV k := by
  cases k <;> (cases r; rfl)
theorem key_n {F : Hp} {y : V} {k : Leaf} (r : Rep K F y (keyN k)) : y = leafV k := by
  cases k <;> (cases r; rfl)
theorem find_diff {inj : List Key → T} {kd : T} (h : ∀ k, teq (inj k) kd = false) : ∀ {ks : List (List Key × V)} {kvs : List (T × Val)} {w : Wd}, DP K w inj ks kvs → findT kvs kd = none
  | [], [], _, _ => rfl
  | _ :: _, _ :: _, _, .cons h1 h2 => by
    have ih := find_diff h h2
    unfold findT at ih ⊢
    rw [List.find?_cons, h1.1, h]
    exact ih
/-- the look at a key: its kind must be the dict's -/
def kOk (kvs : List (T × Val)) (d : T) : Bool := match keyN? d with
  | some _ => true
  | none => (keyP? d).isSome
theorem agree {w : Wd} {mu : Mu} {H : Hp} {a : Addr} {q : DK} {xs : List V} {o : HO} {kvs : List (T × Val)} {y : V} {kd : T} (O : Own X.kc w mu H) (h1 : H a = some o) (h2 : DctO X.kc a q (kvs.map (·.1)) xs o) (h3 : Paired (RC X.kc w) xs (kvs.map (·.2))) (r : Rep X.kc w.F y kd) (hk : keyOk q kd = true) :
    ∃ ov, AGet X H a y ov ∧ ((∃ x v, ov = some x ∧ findT kvs kd = some v ∧ RC X.kc w x v) ∨ (ov = none ∧ findT kvs kd = none)) := by
  cases q with
  | k =>
    obtain ⟨ks, rfl, e2, rfl⟩ := h2
    have hk : (keyK? kd).isSome = true := hk
    obtain ⟨k, hk⟩ := Option.isSome_iff_exists.mp hk
    rw [keyK?_eq hk] at r ⊢
    have dp := dp_of e2 h3
    refine ⟨valV ks k, .inl (.inl ⟨ks, k, .inl h1, key_k r, rfl⟩), ?_⟩
    rcases dp_find teq_key dp k with ⟨x, v, q1, q2, q3⟩ | ⟨q1, q2⟩
    · exact .inl ⟨x, v, q1, q2, q3⟩
    · exact .inr ⟨q1, q2⟩
  | p =>
    obtain ⟨ks, rfl, e2, rfl⟩ := h2
    have hk : (keyP? kd).isSome = true := hk
    obtain ⟨k, hk⟩ := Option.isSome_iff_exists.mp hk
    rw [keyP?_eq hk] at r ⊢
    have dp := dp_of e2 h3
    obtain ⟨b, rfl, hb⟩ := key_tup O r
    refine ⟨valV ks k, .inl (.inr ⟨ks, k, b, .inl h1, rfl, hb, rfl⟩), ?_⟩
    rcases dp_find teq_keyP dp k with ⟨x, v, q1, q2, q3⟩ | ⟨q1, q2⟩
    · exact .inl ⟨x, v, q1, q2, q3⟩
    · exact .inr ⟨q1, q2⟩
  | n =>
    obtain ⟨ks, rfl, e2, rfl⟩ := h2
    have hk : (keyN? kd).isSome = true := hk
    obtain ⟨k, hk⟩ := Option.isSome_iff_exists.mp hk
    rw [keyN?_eq hk] at r ⊢
    have dp := dp_of e2 h3
    refine ⟨valV ks k, .inr ⟨ks, k, h1, key_n r, rfl⟩, ?_⟩
    rcases dp_find teq_keyN dp k with ⟨x, v, q1, q2, q3⟩ | ⟨q1, q2⟩
    · exact .inl ⟨x, v, q1, q2, q3⟩
    · exact .inr ⟨q1, q2⟩
/-- what kind a dict's keys are of: told by a cell, or by the key itself where the dict is data -/
@[simp] def kindOk (v : Val) (mu : Mu) (kd : T) : Bool := match v with
  | .lab l => (match mu[l]? with
    | some (some (.dct q _)) => keyOk q kd
    | _ => false)
  | .t (.dict kvs) => kvs.all (fun p => ((keyK? p.1).isSome == (keyK? kd).isSome) && ((keyP? p.1).isSome == (keyP? kd).isSome)) && ((keyK? kd).isSome || (keyP? kd).isSome) && !kvs.isEmpty
  | .bor (.dict kvs) => kvs.all (fun p => ((keyK? p.1).isSome == (keyK? kd).isSome) && ((keyP? p.1).isSome == (keyP? kd).isSome)) && ((keyK? kd).isSome || (keyP? kd).isSome) && !kvs.isEmpty
  | _ => false
theorem kind_of {a : Addr} {q : DK} {keys : List T} {xs : List V} {o : HO} {kd : T} (h : DctO K a q keys xs o) (hn : keys ≠ []) (ha : keys.all (fun p => ((keyK? p).isSome == (keyK? kd).isSome) && ((keyP? p).isSome == (keyP? kd).isSome)) = true) (hq : q ≠ .n) : keyOk q kd = true := by
  cases keys with
  | nil => exact absurd rfl hn
  | cons k0 r =>
    rw [List.all_cons, Bool.and_eq_true, Bool.and_eq_true] at ha
    obtain ⟨⟨e1, e2⟩, _⟩ := ha
    have e1 := eq_of_beq e1
    have e2 := eq_of_beq e2
    cases q with
    | k =>
      obtain ⟨ks, _, e, _⟩ := h
      cases ks with
      | nil => cases e
      | cons p ks =>
        simp only [List.map_cons, List.cons.injEq] at e
        show (keyK? kd).isSome = true
        rw [← e1, e.1]
        cases p.1 <;> rfl
    | p =>
      obtain ⟨ks, _, e, _⟩ := h
      cases ks with
      | nil => cases e
      | cons p ks =>
        simp only [List.map_cons, List.cons.injEq] at e
        show (keyP? kd).isSome = true
        rw [← e2, e.1]
        have : ∀ l : List Key, (keyKs? (l.map keyT)).isSome = true := by
          intro l
          induction l with
          | nil => rfl
          | cons a l ih =>
            obtain ⟨z, hz⟩ := Option.isSome_iff_exists.mp ih
            cases a <;> simp [keyKs?, keyT, keyK?, hz]
        exact this p.1
    | n => exact absurd rfl hq
theorem look {w : Wd} {mu : Mu} {H : Hp} {x y : V} {v : Val} {kvs : List (T × Val)} {kd : T} (O : Own X.kc w mu H) (rx : RV X.kc w x v) (hd : dvw v mu = some kvs) (r : Rep X.kc w.F y kd) (hk : kindOk v mu kd = true) :
    ∃ a ov, x = .ref a ∧ AGet X H a y ov ∧ ((∃ x v, ov = some x ∧ findT kvs kd = some v ∧ RC X.kc w x v) ∨ (ov = none ∧ findT kvs kd = none)) := by
  obtain ⟨a, q, xs, o, rfl, h1, h2, h3⟩ := dvw_ok O rx hd
  have hq : keyOk q kd = true := by
    cases v with
    | lab l =>
      obtain ⟨a', ha, e⟩ := rx
      cases e
      unfold kindOk at hk
      dsimp only at hk
      split at hk
      · rename_i q' kvs' hc
        obtain ⟨a2, ha2, _, _, xs', o', z1, z2, _⟩ := O.cell _ _ hc
        rw [ha] at ha2; cases ha2
        rw [h1] at z1; cases z1
        unfold dvw at hd
        dsimp only at hd
        rw [hc] at hd
        cases hd
        cases q' with
        | k =>
          obtain ⟨ks, e1, _⟩ := z2
          cases q with
          | k => exact hk
          | p => obtain ⟨ks', e2, _⟩ := h2; rw [e1] at e2; cases e2
          | n => obtain ⟨ks', e2, _⟩ := h2; rw [e1] at e2; cases e2
        | p =>
          obtain ⟨ks, e1, _⟩ := z2
          cases q with
          | p => exact hk
          | k => obtain ⟨ks', e2, _⟩ := h2; rw [e1] at e2; cases e2
          | n => obtain ⟨ks', e2, _⟩ := h2; rw [e1] at e2; cases e2
        | n =>
          obtain ⟨ks, e1, _⟩ := z2
          cases q with
          | n => exact hk
          | k => obtain ⟨ks', e2, _⟩ := h2; rw [e1] at e2; cases e2
          | p => obtain ⟨ks', e2, _⟩ := h2; rw [e1] at e2; cases e2
      · cases hk
    | t d =>
      cases d with
      | dict kv =>
        simp only [kindOk, Bool.and_eq_true] at hk
        unfold dvw at hd
        cases hd
        have e : (kv.map fun p => (p.1, Val.t p.2)).map (·.1) = kv.map (·.1) := by rw [List.map_map]; rfl
        rw [e] at h2
        have hn : q ≠ .n := by
          rintro rfl
          cases rx with
          | @dct a' q' keys xs' o' ds _ hq' g1 g2 g3 g4 =>
            obtain ⟨ks, e1, _⟩ := h2
            have := O.sub _ _ g2
            rw [h1] at this; cases this
            cases q' with
            | k => obtain ⟨_, e2, _⟩ := g1; rw [e1] at e2; cases e2
            | p => obtain ⟨_, e2, _⟩ := g1; rw [e1] at e2; cases e2
            | n => exact hq' rfl
        refine kind_of h2 (fun z => ?_) ?_ hn
        · have : kv = [] := by simpa using z
          subst this; simp at hk
        · rw [List.all_map]; exact hk.1.1
      | _ => simp [kindOk] at hk
    | bor d =>
      cases d with
      | dict kv =>
        simp only [kindOk, Bool.and_eq_true] at hk
        unfold dvw at hd
        cases hd
        have e : (kv.map fun p => (p.1, Val.t p.2)).map (·.1) = kv.map (·.1) := by rw [List.map_map]; rfl
        rw [e] at h2
        have hn : q ≠ .n := by
          rintro rfl
          obtain ⟨ks, e1, _⟩ := h2
          rcases rx with rx | ⟨_, _, _, e0, _⟩ | ⟨a', q', keys, xs', o', ds, e0, ea, ⟨hq', g1⟩, g2, g3⟩
          · cases rx with
            | @dct a' q' keys xs' o' ds _ hq' g1 g2 g3 g4 =>
              have := O.sub _ _ g2
              rw [h1] at this; cases this
              cases q' with
              | k => obtain ⟨_, e2, _⟩ := g1; rw [e1] at e2; cases e2
              | p => obtain ⟨_, e2, _⟩ := g1; rw [e1] at e2; cases e2
              | n => exact hq' rfl
          · cases e0
          · cases ea
            have := O.subG _ _ g2
            rw [h1] at this; cases this
            cases q' with
            | k => obtain ⟨_, e2, _⟩ := g1; rw [e1] at e2; cases e2
            | p => obtain ⟨_, e2, _⟩ := g1; rw [e1] at e2; cases e2
            | n => exact hq' rfl
        refine kind_of h2 (fun z => ?_) ?_ hn
        · have : kv = [] := by simpa using z
          subst this; simp at hk
        · rw [List.all_map]; exact hk.1.1
      | _ => simp [kindOk] at hk
  obtain ⟨ov, g1, g2⟩ := agree O h1 h2 h3 r hq
  exact ⟨a, ov, rfl, g1, g2⟩
theorem agetType {pins : List (Addr × Obj)} {σ : L2.St} {H : Hp} {s : Shared} {a : Addr} {y : V} {o : Option V} (I : Inv X pins σ H s) (g : AGet X H a y o) : s.TypeIs (.ref a) "dict" := by
  rcases g with g | ⟨kvs, k, e, _⟩
  · exact dict_typeIs I g
  · exact (n_typeIs I e).1
/-! ### d[k], k in d, d.get(k, x) -/
def tAGet (X : Cx) (td ty : TE) : TE := fun σ H Q => td σ H fun x H1 => ty σ H1 fun y H2 => ∃ a v, x = .ref a ∧ AGet X H2 a y (some v) ∧ Q v H2
theorem pe_aget {o i : Expr} {pos : Pos} {td ty : TE} (hu : X.A.units + 1 < cLine) (ho : PE X o td) (hi : PE X i ty) (hs : NoSl i) : PE X (.Subscript o i pos) (tAGet X td ty) := by
  refine ⟨fun pins s σ H Q I h => ?_⟩
  refine subD_of PySem.F.slot_dict_getitem.lookup hs (thn (ho.run pins s σ H _ I h) fun u s1 ⟨x, H1, I1, rx, q1⟩ => thn (hi.run pins s1 σ H1 _ I1 q1) fun iv s2 ⟨y, H2, I2, ry, a, v, ex, g, q2⟩ => ?_)
  subst ex
  obtain rfl : u = Value.ref a := rx
  refine ⟨agetType I2 g, ?_⟩
  rcases g with g | g
  · exact d_getItem hu I2 g ry fun w' s3 I3 rw' => ⟨v, H2, I3, rw', q2⟩
  · exact n_getItem I2 g ry fun w' s3 I3 rw' => ⟨v, H2, I3, rw', q2⟩
@[simp] def eDget (mo mi : Ex) : Ex := fun env mu => match mo env mu with
  | some (v, mu1) => (match mi env mu1 with
    | some (.t kd, mu2) => (match dvw v mu2 with
      | some kvs => if kindOk v mu2 kd = true then (match findT kvs kd with
        | some r => some (r, mu2)
        | none => none) else none
      | none => none)
    | _ => none)
  | none => none
theorem de_dget {o i : Expr} {pos : Pos} {mo mi : Ex} (hu : X.A.units + 1 < cLine) (ho : DE X o mo) (hi : DE X i mi) (hs : NoSl i) : DE X (.Subscript o i pos) (eDget mo mi) := (pe_aget hu ho hi hs).imp fun σ H Q h => by
  obtain ⟨w, env, mu, r, mu', S, O, e, q⟩ := h
  unfold eDget at e
  split at e
  · rename_i v mu1 eo
    split at e
    · rename_i kd mu2 ei
      split at e
      · rename_i kvs hd
        split at e
        · rename_i hk
          split at e
          · rename_i r' hr
            cases e
            refine ⟨w, env, mu, v, mu1, S, O, eo, fun w1 x H1 x1 O1 r1 => ?_⟩
            refine ⟨w1, env, mu1, _, _, S.mono x1, O1, ei, fun w2 y H2 x2 O2 r2 => ?_⟩
            obtain ⟨a, ov, rfl, g, hh⟩ := look O2 (r1.mono x2) hd r2 hk
            rcases hh with ⟨z, vz, rfl, z2, z3⟩ | ⟨_, z2⟩
            · rw [hr] at z2; cases z2
              exact ⟨a, z, rfl, g, q w2 z H2 (x1.trans x2) O2 z3.1⟩
            · rw [hr] at z2; cases z2
          · cases e
        · cases e
      · cases e
    · cases e
  · cases e
def tAIn (X : Cx) (neg : Bool) (ty td : TE) : TE := fun σ H Q => ty σ H fun y H1 => td σ H1 fun x H2 => ∃ a o, x = .ref a ∧ AGet X H2 a y o ∧ Q (.bl (if neg then !o.isSome else o.isSome)) H2
theorem pc_ain {i o : Expr} {ty td : TE} (hu : X.A.units + 1 < cLine) (hi : PE X i ty) (ho : PE X o td) : PC X .In i o (tAIn X false ty td) := by
  refine ⟨fun pins s σ H Q I h => ?_⟩
  refine thn (hi.run pins s σ H _ I h) fun iv s1 ⟨y, H1, I1, ry, q1⟩ => thn (ho.run pins s1 σ H1 _ I1 q1) fun u s2 ⟨x, H2, I2, rx, a, ov, ex, g, q2⟩ => ?_
  subst ex
  obtain rfl : u = Value.ref a := rx
  rcases g with g | g
  · exact d_in hu I2 g ry fun s3 I3 => ⟨.bl ov.isSome, H2, I3, rfl, q2⟩
  · exact n_in I2 g ry fun s3 I3 => ⟨.bl ov.isSome, H2, I3, rfl, q2⟩
theorem pc_anotin {i o : Expr} {ty td : TE} (hu : X.A.units + 1 < cLine) (hi : PE X i ty) (ho : PE X o td) : PC X .NotIn i o (tAIn X true ty td) := by
  refine ⟨fun pins s σ H Q I h => ?_⟩
  refine thn (hi.run pins s σ H _ I h) fun iv s1 ⟨y, H1, I1, ry, q1⟩ => thn (ho.run pins s1 σ H1 _ I1 q1) fun u s2 ⟨x, H2, I2, rx, a, ov, ex, g, q2⟩ => ?_
  subst ex
  obtain rfl : u = Value.ref a := rx
  rcases g with g | g
  · exact d_notIn hu I2 g ry fun s3 I3 => ⟨.bl (!ov.isSome), H2, I3, rfl, q2⟩
  · exact n_notIn I2 g ry fun s3 I3 => ⟨.bl (!ov.isSome), H2, I3, rfl, q2⟩
@[simp] def eDin (neg : Bool) (mi mo : Ex) : Ex := fun env mu => match mi env mu with
  | some (.t kd, mu1) => (match mo env mu1 with
    | some (v, mu2) => (match dvw v mu2 with
      | some kvs => if kindOk v mu2 kd = true then some (.t (.bool (if neg then !(findT kvs kd).isSome else (findT kvs kd).isSome)), mu2) else none
      | none => none)
    | none => none)
  | _ => none
theorem tE_din {neg : Bool} {mi mo : Ex} {σ : L2.St} {H : Hp} {Q : VK} (h : tE X.kc (eDin neg mi mo) σ H Q) : tAIn X neg (tE X.kc mi) (tE X.kc mo) σ H Q := by
  obtain ⟨w, env, mu, r, mu', S, O, e, q⟩ := h
  unfold eDin at e
  split at e
  · rename_i kd mu1 ei
    split at e
    · rename_i v mu2 eo
      split at e
      · rename_i kvs hd
        split at e
        · rename_i hk
          cases e
          refine ⟨w, env, mu, _, mu1, S, O, ei, fun w1 y H1 x1 O1 r1 => ?_⟩
          refine ⟨w1, env, mu1, _, _, S.mono x1, O1, eo, fun w2 x H2 x2 O2 r2 => ?_⟩
          obtain ⟨a, ov, rfl, g, hh⟩ := look O2 r2 hd (r1.mono x2) hk
          have e2 : ov.isSome = (findT kvs kd).isSome := by
            rcases hh with ⟨z, vz, rfl, z2, z3⟩ | ⟨rfl, z2⟩ <;> rw [z2] <;> rfl
          refine ⟨a, ov, rfl, g, q w2 _ H2 (x1.trans x2) O2 ?_⟩
          rw [e2]
          exact Rep.bl _
        · cases e
      · cases e
    · cases e
  · cases e
theorem de_din {i o : Expr} {pos : Pos} {mi mo : Ex} (hu : X.A.units + 1 < cLine) (hi : DE X i mi) (ho : DE X o mo) (h1 : behindInMarks .In o = false) : DE X (.Compare i [.In] [o] pos) (eDin false mi mo) := (pe_cmp (pc_ain hu hi ho) h1).imp fun _ _ _ h => tE_din h
theorem de_dnotin {i o : Expr} {pos : Pos} {mi mo : Ex} (hu : X.A.units + 1 < cLine) (hi : DE X i mi) (ho : DE X o mo) (h1 : behindInMarks .NotIn o = false) : DE X (.Compare i [.NotIn] [o] pos) (eDin true mi mo) := (pe_cmp (pc_anotin hu hi ho) h1).imp fun _ _ _ h => tE_din h
theorem dt_din {i o : Expr} {pos : Pos} {mi mo : Ex} (hu : X.A.units + 1 < cLine) (hi : DE X i mi) (ho : DE X o mo) (h1 : behindInMarks .In o = false) : DT X (.Compare i [.In] [o] pos) (cB (eDin false mi mo)) := (pt_cmp (pc_ain hu hi ho) h1).imp fun _ _ _ h => tE_din (tT_B h)
theorem dt_dnotin {i o : Expr} {pos : Pos} {mi mo : Ex} (hu : X.A.units + 1 < cLine) (hi : DE X i mi) (ho : DE X o mo) (h1 : behindInMarks .NotIn o = false) : DT X (.Compare i [.NotIn] [o] pos) (cB (eDin true mi mo)) := (pt_cmp (pc_anotin hu hi ho) h1).imp fun _ _ _ h => tE_din (tT_B h)
def IsDN (X : Cx) (H : Hp) (a : Addr) : Prop := IsD H a ∨ ∃ kvs, H a = some (HON X.kc a kvs)
def tAGet2 (X : Cx) (td ty tx : TE) : TE := fun σ H Q => td σ H fun x H1 => ∃ a, x = .ref a ∧ IsDN X H1 a ∧ ty σ H1 fun y H2 => tx σ H2 fun z H3 => ∃ o, AGet X H3 a y o ∧ Q (o.getD z) H3
theorem pe_aget2 {o e f : Expr} {apos cpos : Pos} {td ty tx : TE} (hu : X.A.units + 1 < cLine) (ho : PE X o td) (he : PE X e ty) (hf : PE X f tx) (m : M2 X o "get" apos e f cpos) : PE X (.Call (.Attribute o "get" apos) [e, f] [] cpos) (tAGet2 X td ty tx) := by
  refine ⟨fun pins s σ H Q I h => ?_⟩
  refine wpAny_Call_method m.base m.few m.line PySem.F.plainAttrs_dict PySem.F.slot_dict_get PySem.F.type_dict_get (thn (ho.run pins s σ H _ I h) fun u s1 ⟨x, H1, I1, rx, a, ex, d, q1⟩ => ?_)
  subst ex
  obtain rfl : u = Value.ref a := rx
  have : s1.TypeIs (.ref a) "dict" ∧ (∀ b, Value.ref a = .ref b → ∃ ob, s1.heap.get? b = some ob ∧ ob.dict = none) := by
    rcases d with d | ⟨kvs, d⟩
    · obtain ⟨t1, t2, _⟩ := isD_at I1 d; exact ⟨t1, t2⟩
    · exact n_typeIs I1 d
  obtain ⟨t1, t2⟩ := this
  refine ⟨t1, t2, ?_⟩
  rw [m.trees]
  refine Calls.callWith_builtin rfl (Calls.evalArgs_plain (Calls.spliced_cons (thn (he.run pins s1 σ H1 _ I1 q1) fun iv s2 ⟨y, H2, I2, ry, q2⟩ =>
    Calls.spliced_cons (thn (hf.run pins s2 σ H2 _ I2 q2) fun fv s3 ⟨z, H3, I3, rz, ov, g, q3⟩ => Calls.spliced_nil ?_))))
  rcases g with g | g
  · exact d_get2 hu I3 g ry rz fun w' s4 I4 rw' => ⟨_, H3, I4, rw', q3⟩
  · exact n_get2 I3 g ry rz fun w' s4 I4 rw' => ⟨_, H3, I4, rw', q3⟩
@[simp] def eDget2 (mo mi md : Ex) : Ex := fun env mu => match mo env mu with
  | some (v, mu1) => (match dvw v mu1 with
    | some _ => (match mi env mu1 with
      | some (.t kd, mu2) => (match md env mu2 with
        | some (d, mu3) => (match dvw v mu3 with
          | some kvs => if kindOk v mu3 kd = true then some ((findT kvs kd).getD d, mu3) else none
          | none => none)
        | none => none)
      | _ => none)
    | none => none)
  | none => none
theorem isDN {w : Wd} {mu : Mu} {H : Hp} {x : V} {v : Val} {kvs : List (T × Val)} (O : Own X.kc w mu H) (r : RV X.kc w x v) (h : dvw v mu = some kvs) : ∃ a, x = .ref a ∧ IsDN X H a := by
  obtain ⟨a, q, xs, o, rfl, h1, h2, h3⟩ := dvw_ok O r h
  refine ⟨a, rfl, ?_⟩
  cases q with
  | k => obtain ⟨ks, rfl, _⟩ := h2; exact .inl (.inl ⟨ks, .inl h1⟩)
  | p => obtain ⟨ks, rfl, _⟩ := h2; exact .inl (.inr ⟨ks, .inl h1⟩)
  | n => obtain ⟨ks, rfl, _⟩ := h2; exact .inr ⟨ks, h1⟩
theorem de_dget2 {o e f : Expr} {apos cpos : Pos} {mo mi md : Ex} (hu : X.A.units + 1 < cLine) (ho : DE X o mo) (he : DE X e mi) (hf : DE X f md) (m : M2 X o "get" apos e f cpos) : DE X (.Call (.Attribute o "get" apos) [e, f] [] cpos) (eDget2 mo mi md) := (pe_aget2 hu ho he hf m).imp fun σ H Q h => by
  obtain ⟨w, env, mu, r, mu', S, O, e, q⟩ := h
  unfold eDget2 at e
  split at e
  · rename_i v mu1 eo
    split at e
    · rename_i kv0 hd0
      split at e
      · rename_i kd mu2 ei
        split at e
        · rename_i d mu3 ed
          split at e
          · rename_i kvs hd
            split at e
            · rename_i hk
              cases e
              refine ⟨w, env, mu, v, mu1, S, O, eo, fun w1 x H1 x1 O1 r1 => ?_⟩
              obtain ⟨a, rfl, hdn⟩ := isDN O1 r1 hd0
              refine ⟨a, rfl, hdn, w1, env, mu1, _, mu2, S.mono x1, O1, ei, fun w2 y H2 x2 O2 r2 => ?_⟩
              refine ⟨w2, env, mu2, d, _, (S.mono x1).mono x2, O2, ed, fun w3 z H3 x3 O3 r3 => ?_⟩
              obtain ⟨a', ov, ea, g, hh⟩ := look O3 ((r1.mono x2).mono x3) hd (r2.mono x3) hk
              cases ea
              refine ⟨ov, g, q w3 _ H3 ((x1.trans x2).trans x3) O3 ?_⟩
              rcases hh with ⟨z, vz, rfl, z2, z3⟩ | ⟨rfl, z2⟩
              · rw [z2]; exact z3.1
              · rw [z2]; exact r3
            · cases e
          · cases e
        · cases e
      · cases e
    · cases e
  · cases e
/-! ### d[k] = v -/
def APut (X : Cx) (H : Hp) (a : Addr) (y v : V) (H' : Hp) : Prop := DPut H a y v H' ∨ NPut X H a y v H'
def sAPut (X : Cx) (td ty tv : TE) : TS := fun D σ H => tv σ H fun v H1 => td σ H1 fun x H2 => ty σ H2 fun y H3 => ∃ a H4, x = .ref a ∧ APut X H3 a y v H4 ∧ D.nx σ H4
theorem ps_aput {o i value : Expr} {pos pos' : Pos} {td ty tv : TE} (hu : X.A.units + 1 < cLine) (ho : PE X o td) (hi : PE X i ty) (hv : PE X value tv) (hs : swapsWith value (some (.Subscript o i pos')) pos.line X.env = pure false) :
    PS X (.Assign [.Subscript o i pos'] value pos) (sAPut X td ty tv) := by
  refine ⟨fun pins s σ H D I h => ?_⟩
  refine wpAny_Assign_Subscript (thn (hv.run pins s σ H _ I h) fun r s1 ⟨v, H1, I1, rv, q1⟩ => thn (ho.run pins s1 σ H1 _ I1 q1) fun u s2 ⟨x, H2, I2, rx, q2⟩ => thn (hi.run pins s2 σ H2 _ I2 q2) fun iv s3 ⟨y, H3, I3, ry, a, H4, ex, g, q3⟩ => ?_) hs
  subst ex
  obtain rfl : u = Value.ref a := rx
  rcases g with g | g
  · exact d_setItem hu I3 g ry rv fun s4 I4 => ⟨σ, H4, I4, q3⟩
  · exact n_setItem I3 g ry rv fun s4 I4 => ⟨σ, H4, I4, q3⟩
@[simp] def sDput (mo mi mv : Ex) : Sx := fun env mu => match mv env mu with
  | some (v, mu1) => (match mo env mu1 with
    | some (.lab l, mu2) => (match mi env mu2 with
      | some (.t kd, mu3) => (match mu3[l]? with
        | some (some (.dct q kvs)) => if keyOk q kd = true ∧ notBor v = true ∧ kvs.length < textLine then some (.nx env (mu3.set l (some (.dct q (putT kvs kd v))))) else none
        | _ => none)
      | _ => none)
    | _ => none)
  | none => none
theorem ds_dput {o i value : Expr} {pos pos' : Pos} {mo mi mv : Ex} (hu : X.A.units + 1 < cLine) (ho : DE X o mo) (hi : DE X i mi) (hv : DE X value mv) (hs : swapsWith value (some (.Subscript o i pos')) pos.line X.env = pure false) : DS X (.Assign [.Subscript o i pos'] value pos) (sDput mo mi mv) := (ps_aput hu ho hi hv hs).imp fun D σ H h => by
  obtain ⟨w, env, mu, fl, S, O, e, q⟩ := h
  unfold sDput at e
  split at e
  · rename_i v mu1 ev
    split at e
    · rename_i l mu2 eo
      split at e
      · rename_i kd mu3 ei
        split at e
        · rename_i qk kvs hc
          split at e
          · rename_i hk
            cases e
            refine ⟨w, env, mu, v, mu1, S, O, ev, fun w1 x H1 x1 O1 r1 => ?_⟩
            refine ⟨w1, env, mu1, _, mu2, S.mono x1, O1, eo, fun w2 y H2 x2 O2 r2 => ?_⟩
            refine ⟨w2, env, mu2, _, mu3, (S.mono x1).mono x2, O2, ei, fun w3 z H3 x3 O3 r3 => ?_⟩
            obtain ⟨a, ha, rfl⟩ := r2.mono x3
            obtain ⟨a', ha', _, _, xs, o, g1, g2, g3⟩ := O3.cell _ _ hc
            rw [ha] at ha'; cases ha'
            have rc := rc_one ((r1.mono x2).mono x3) hk.2.1
            have fin : ∀ (o' : HO) (xs' : List V), DctO X.kc a qk ((putT kvs kd v).map (·.1)) xs' o' → Paired (RC X.kc w3) xs' ((putT kvs kd v).map (·.2)) → D.nx σ (upd H3 a o') := fun o' xs' d1 d2 =>
              q w3 σ _ ((x1.trans x2).trans x3) (((S.mono x1).mono x2).mono x3) (O3.setCell hc ha ⟨xs', o', upd_same, d1, d2⟩)
            have hlen : ∀ {n : Nat}, n = kvs.length → n < sizeLine := fun {n} e => by rw [e]; exact Nat.lt_of_lt_of_le hk.2.2 (text_line (Nat.le_refl _))
            cases qk with
            | k =>
              obtain ⟨ks, rfl, e2, rfl⟩ := g2
              obtain ⟨k, hkk⟩ := Option.isSome_iff_exists.mp (show (keyK? kd).isSome = true from hk.1)
              have dp := dp_of e2 g3
              rw [keyK?_eq hkk] at r3 fin
              have dp2 := dp_put teq_key dp k rc
              obtain ⟨z1, z2⟩ := dp_keys dp2
              exact ⟨a, _, rfl, .inl (.inl ⟨ks, k, g1, key_k r3, hlen (Paired.length dp), rfl⟩), fin _ _ ⟨_, rfl, z1, rfl⟩ z2⟩
            | p =>
              obtain ⟨ks, rfl, e2, rfl⟩ := g2
              obtain ⟨k, hkk⟩ := Option.isSome_iff_exists.mp (show (keyP? kd).isSome = true from hk.1)
              have dp := dp_of e2 g3
              rw [keyP?_eq hkk] at r3 fin
              have dp2 := dp_put teq_keyP dp k rc
              obtain ⟨z1, z2⟩ := dp_keys dp2
              obtain ⟨b, rfl, hb⟩ := key_tup O3 r3
              exact ⟨a, _, rfl, .inl (.inr ⟨ks, k, b, g1, rfl, hb, hlen (Paired.length dp), rfl⟩), fin _ _ ⟨_, rfl, z1, rfl⟩ z2⟩
            | n =>
              obtain ⟨ks, rfl, e2, rfl⟩ := g2
              obtain ⟨k, hkk⟩ := Option.isSome_iff_exists.mp (show (keyN? kd).isSome = true from hk.1)
              have dp := dp_of e2 g3
              rw [keyN?_eq hkk] at r3 fin
              have dp2 := dp_put teq_keyN dp k rc
              obtain ⟨z1, z2⟩ := dp_keys dp2
              exact ⟨a, _, rfl, .inr ⟨ks, k, g1, key_n r3, hlen (Paired.length dp), rfl⟩, fin _ _ ⟨_, rfl, z1, rfl⟩ z2⟩
          · cases e
        · cases e
      · cases e
    · cases e
  · cases e
/-! ### {} and {None: x} -/
@[simp] def fDnew (q : DK) : Fx := fun _ mu => some (.dct q [], mu)
theorem df_dnewK {pos : Pos} : DF X (.Dict [] [] pos) (fDnew .k) := pe_dnewK.imp fun σ H Q h p hp => by
  obtain ⟨w, env, mu, c, mu', S, O, e, q⟩ := h
  cases e
  exact q w p _ (Ext.refl w) (O.laid hp) (fresh_new O hp) ⟨[], _, upd_same, ⟨[], rfl, rfl, rfl⟩, .nil⟩
theorem df_dnewP {pos : Pos} : DF X (.Dict [] [] pos) (fDnew .p) := pe_dnewT.imp fun σ H Q h p hp => by
  obtain ⟨w, env, mu, c, mu', S, O, e, q⟩ := h
  cases e
  exact q w p _ (Ext.refl w) (O.laid hp) (fresh_new O hp) ⟨[], _, upd_same, ⟨[], rfl, rfl, rfl⟩, .nil⟩
/-- {None: v} -/
def tNDisp (X : Cx) (tv : TE) : TE := fun σ H Q => ∀ p, H p = none → tv σ (upd H p (HON X.kc p [])) fun y H2 => H2 p = some (HON X.kc p []) ∧ Q (.ref p) (upd H2 p (HON X.kc p [(.none, y)]))
theorem pe_ndisp {v : Expr} {j : Nat} {pos p1 : Pos} {tv : TE} (hv : PE X v tv) : PE X (.Dict [some (.Constant .none j p1)] [v] pos) (tNDisp X tv) := by
  refine ⟨fun pins s σ H Q I q => ?_⟩
  have hn := I.hok.fresh (Nat.le_refl s.heap.objs.size)
  have emp : ObjOk X.prog X.w (upd H s.heap.objs.size (HON X.kc s.heap.objs.size [])) (s.heap.push { cls := .type "dict", data := .dict #[] }) s.heap.objs.size (HON X.kc s.heap.objs.size []) :=
    hon_ok rfl rfl (Nat.zero_le _) (beq_eq_false_iff_ne.mpr (Ne.symm (Nat.ne_of_lt I.big))) (vs := []) .nil (Heap.DictOf.new s.heap)
  have I1 := I.laid (a := s.heap.objs.size) (o := HON X.kc s.heap.objs.size []) (h' := s.heap.push { cls := .type "dict", data := .dict #[] }) (t' := s.toks) (fun _ _ q => Heap.get?_push_of_some _ q) (Nat.le_refl _) emp
  refine wpAny_Dict_walk (knd := leafKind X.prog X.w) rfl rfl (by simp) (by simp) (pairTrees_cons_walk (Constant_none (thn (hv.run pins _ σ _ _ I1 (q _ hn)) fun w2 s2 ⟨y, H2, I2, ry, q2, q3⟩ => pairTrees_nil_walk ?_)))
  obtain ⟨z, hd, vs0, r0, dd⟩ := hon_of I2 q2
  cases r0
  refine ⟨[(.none, w2)], ⟨rfl, rfl, True.intro⟩, dd, fun h' dd' hs => ⟨.ref s.heap.objs.size, _, ?_, rfl, q3⟩⟩
  have he : ∃ q, h'.get? s.heap.objs.size = some q := let ⟨q, _, _, hq, _⟩ := dd'; ⟨q, hq⟩
  exact d_write I2 (by rw [q2]; exact True.intro) hs he (hon_ok rfl rfl (by simp [sizeLine_eq]) hd (.cons ⟨rfl, ry⟩ .nil) dd')
@[simp] def fNdisp (m : Ex) : Fx := fun env mu => match m env mu with
  | some (v, mu1) => if notBor v = true then some (.dct .n [(.none, v)], mu1) else none
  | none => none
theorem df_ndisp {v : Expr} {j : Nat} {pos p1 : Pos} {m : Ex} (hv : DE X v m) : DF X (.Dict [some (.Constant .none j p1)] [v] pos) (fNdisp m) := (pe_ndisp hv).imp fun σ H Q h p hp => by
  obtain ⟨w, env, mu, c, mu', S, O, e, q⟩ := h
  unfold fNdisp at e
  split at e
  · rename_i v mu1 em
    split at e
    · rename_i hb
      cases e
      -- the dict stands among what is not touched while its value is made
      have f := fresh_new O hp
      have O1 := O.laid (o := HON X.kc p []) hp
      have Oi : Own X.kc ⟨w.F, upd w.G p (HON X.kc p []), w.r⟩ mu (upd H p (HON X.kc p [])) := by
        obtain ⟨f1, f2, f3⟩ := f
        refine ⟨O1.sub, fun a o e => ?_, fun a o e => ?_, O1.len, fun l c e => ?_, O1.inj⟩
        · have e : upd w.G p (HON X.kc p []) a = some o := e
          by_cases z : a = p
          · subst z; rw [upd_same] at e ⊢; exact e
          · rw [upd_ne z] at e; exact O1.subG a o e
        · show upd w.G p (HON X.kc p []) a = none
          have e : w.F a = some o := e
          have z : a ≠ p := by rintro rfl; rw [f1] at e; cases e
          rw [upd_ne z]; exact O1.dis a o e
        · obtain ⟨a, h1, h2, h3, h4⟩ := O1.cell l c e
          have z : a ≠ p := by rintro rfl; exact f3 l c e h1
          exact ⟨a, h1, h2, by show upd w.G p (HON X.kc p []) a = none; rw [upd_ne z]; exact h3, CellOk.g h4 rfl⟩
      have xi : Ext w ⟨w.F, upd w.G p (HON X.kc p []), w.r⟩ := ⟨Sub.rfl', Sub.new f.2.1, ⟨[], by simp⟩⟩
      refine ⟨_, env, mu, v, _, S.mono xi, Oi, em, fun w5 y H5 x5 O5 r5 => ?_⟩
      have g5 : w5.G p = some (HON X.kc p []) := x5.G p _ upd_same
      have F5 : w5.F p = none := by
        cases z : w5.F p with
        | none => rfl
        | some u => have := O5.dis p u z; rw [this] at g5; cases g5
      have sG : Sub w.G w5.G := fun a o e => by
        refine x5.G a o ?_
        have z : a ≠ p := by rintro rfl; rw [f.2.1] at e; cases e
        show upd w.G p (HON X.kc p []) a = some o
        rw [upd_ne z]; exact e
      have neD : ∀ {l : Nat} {cc : Cell} {a : Addr}, mu'[l]? = some (some cc) → w5.r[l]? = some a → a ≠ p := by
        intro l cc a h1 h2 z
        obtain ⟨b, q1, _, q3, _⟩ := O5.cell l cc h1
        rw [h2] at q1; cases q1
        subst z
        rw [g5] at q3; cases q3
      refine ⟨O5.subG _ _ g5, q ⟨w5.F, w.G, w5.r⟩ p _ ⟨x5.F, Sub.rfl', x5.r⟩ ?_ ⟨F5, f.2.1, fun l cc e z => neD e z rfl⟩ ?_⟩
      · refine ⟨O5.sub.up F5, (sG.trans O5.subG).up f.2.1, fun a o e => Sub.nn sG (O5.dis a o e), O5.len, fun l cc e => ?_, O5.inj⟩
        obtain ⟨a, q1, q2, q3, q4⟩ := O5.cell l cc e
        exact ⟨a, q1, q2, Sub.nn sG q3, CellOk.g q4 (upd_ne (neD e q1))⟩
      · refine ⟨[y], _, upd_same, ⟨[(.none, y)], rfl, rfl, rfl⟩, .cons ?_ .nil⟩
        exact RC.mono (w := w5) (w' := ⟨w5.F, w.G, w5.r⟩) Sub.rfl' ⟨[], by simp⟩ (rc_one r5 hb)
    · cases e
  · cases e
end
end Vi

set_option Elab.async false
set_option linter.all false
set_option maxRecDepth 100000
set_option maxHeartbeats 4000000
/-! Vi8: dict comprehensions (keys ints and texts), len(set(..)), texts repeated. -/
namespace Vi
open PySem PySem.Spec PyProof.Rows L2
/-- something that is being made stands among what is not touched -/
theorem inG {K : Kc} {w : Wd} {mu : Mu} {H : Hp} {D : Addr} {o : HO} (O : Own K w mu H) (f : Fresh w mu D) (h : H D = some o) : Own K ⟨w.F, upd w.G D o, w.r⟩ mu H ∧ Ext w ⟨w.F, upd w.G D o, w.r⟩ := by
  obtain ⟨f1, f2, f3⟩ := f
  refine ⟨⟨O.sub, fun a u e => ?_, fun a u e => ?_, O.len, fun l c e => ?_, O.inj⟩, ⟨Sub.rfl', Sub.new f2, ⟨[], by simp⟩⟩⟩
  · have e : upd w.G D o a = some u := e
    by_cases z : a = D
    · subst z; rw [upd_same] at e; cases e; exact h
    · rw [upd_ne z] at e; exact O.subG a u e
  · show upd w.G D o a = none
    have e : w.F a = some u := e
    have z : a ≠ D := by rintro rfl; rw [f1] at e; cases e
    rw [upd_ne z]; exact O.dis a u e
  · obtain ⟨a, h1, h2, h3, h4⟩ := O.cell l c e
    have z : a ≠ D := by rintro rfl; exact f3 l c e h1
    exact ⟨a, h1, h2, by show upd w.G D o a = none; rw [upd_ne z]; exact h3, CellOk.g h4 rfl⟩
/-- .. and comes out again, changed -/
theorem outG {K : Kc} {w w5 : Wd} {mu5 : Mu} {H5 : Hp} {D : Addr} {o o' : HO} (f2 : w.G D = none) (x5 : Ext ⟨w.F, upd w.G D o, w.r⟩ w5) (O5 : Own K w5 mu5 H5) :
    Own K ⟨w5.F, w.G, w5.r⟩ mu5 (upd H5 D o') ∧ Fresh ⟨w5.F, w.G, w5.r⟩ mu5 D ∧ Ext w ⟨w5.F, w.G, w5.r⟩ ∧ H5 D = some o := by
  have g5 : w5.G D = some o := x5.G D _ upd_same
  have F5 : w5.F D = none := by
    cases z : w5.F D with
    | none => rfl
    | some u => have := O5.dis D u z; rw [this] at g5; cases g5
  have sG : Sub w.G w5.G := fun a u e => by
    refine x5.G a u ?_
    have z : a ≠ D := by rintro rfl; rw [f2] at e; cases e
    show upd w.G D o a = some u
    rw [upd_ne z]; exact e
  have neD : ∀ {l : Nat} {cc : Cell} {a : Addr}, mu5[l]? = some (some cc) → w5.r[l]? = some a → a ≠ D := by
    intro l cc a h1 h2 z
    obtain ⟨b, q1, _, q3, _⟩ := O5.cell l cc h1
    rw [h2] at q1; cases q1
    subst z
    rw [g5] at q3; cases q3
  refine ⟨⟨O5.sub.up F5, (sG.trans O5.subG).up f2, fun a u e => Sub.nn sG (O5.dis a u e), O5.len, fun l cc e => ?_, O5.inj⟩, ⟨F5, f2, fun l cc e z => neD e z rfl⟩, ⟨x5.F, Sub.rfl', x5.r⟩, O5.subG D _ g5⟩
  obtain ⟨a, q1, q2, q3, q4⟩ := O5.cell l cc e
  exact ⟨a, q1, q2, Sub.nn sG q3, CellOk.g q4 (upd_ne (neD e q1))⟩
def lpD (t : Tn) (c : Tx) (mk mv : Ex) (env0 : En) : List Val → List (T × Val) → Mu → Option (List (T × Val) × Mu)
  | [], acc, mu => some (acc, mu)
  | v :: vs, acc, mu => match tnE t v env0 with
    | some env1 => (match c env1 mu with
      | some (true, mu1) => (match mk env1 mu1 with
        | some (.t kd, mu2) => (match mv env1 mu2 with
          | some (y, mu3) => if acc.length < textLine ∧ notBor y = true ∧ (keyK? kd).isSome = true then lpD t c mk mv env0 vs (putT acc kd y) mu3 else none
          | none => none)
        | _ => none)
      | some (false, mu1) => lpD t c mk mv env0 vs acc mu1
      | none => none)
    | none => none
/-- {mk: mv for t in it if c} -/
def fDcomp (it : Ix) (t : Tn) (vs : List Nat) (c : Tx) (mk mv : Ex) : Fx := fun env mu => match it env mu with
  | some (items, mu1) => (match lpD t c mk mv (wipeE env vs) items [] mu1 with
    | some (res, mu2) => if t.slots.all (fun i => vs.contains i) = true then some (.dct .k res, mu2) else none
    | none => none)
  | none => none
section
variable {X : Cx} {K : Kc}
theorem dcomp_tDc {it : Ix} {t : Tn} {vs : List Nat} {c : Tx} {mk mv : Ex} {σ : L2.St} {H : Hp} {Q : VK} (h : tF K (fDcomp it t vs c mk mv) σ H Q) : tDc (tI K it) (tnG K t) (tT K c) (tE K mk) (tE K mv) vs σ H Q := by
  obtain ⟨w, env, mu, cc, mu', S, O, e, q⟩ := h
  unfold fDcomp at e
  split at e
  · rename_i items mu1 ei
    split at e
    · rename_i res mu2 el
      split at e
      · rename_i hsl
        cases e
        have hin : ∀ i ∈ t.slots, i ∈ vs := fun i hi => by
          have := List.all_eq_true.mp hsl i hi
          simpa using this
        refine ⟨w, env, mu, items, mu1, S, O, ei, fun w1 H1 J x1 O1 it1 D hD => ?_⟩
        refine ⟨fun i n H2 => n = items.length - i ∧ i ≤ items.length ∧ ∃ w2 acc ks mu3, Ext w1 w2 ∧ Own K w2 mu3 H2 ∧ Fresh w2 mu3 D ∧ H2 D = some (.dK ks) ∧ DP K w2 keyT ks acc ∧ lpD t c mk mv (wipeE env vs) (items.drop i) acc mu3 = some (res, mu'),
          ⟨_, rfl, Nat.zero_le _, w1, [], [], mu1, Ext.refl w1, O1.laid hD, fresh_new O1 hD, upd_same, .nil, by simpa using el⟩, ?_⟩
        rintro i n H2 ⟨rfl, hi, w2, acc, ks, mu3, x2, O2, f2, hD2, pa, el2⟩
        obtain ⟨Oi, xi0⟩ := inG O2 f2 hD2
        have xi := x2.trans xi0
        by_cases hlt : i < items.length
        · refine .inr ⟨it1.go _ mu3 H2 xi Oi i hlt, ?_⟩
          refine ⟨fun H' => i + 1 ≤ items.length ∧ ∃ w2 acc ks mu3, Ext w1 w2 ∧ Own K w2 mu3 H' ∧ Fresh w2 mu3 D ∧ H' D = some (.dK ks) ∧ DP K w2 keyT ks acc ∧ lpD t c mk mv (wipeE env vs) (items.drop (i + 1)) acc mu3 = some (res, mu'), ?_, ?_⟩
          · rintro H' ⟨h0, hh⟩
            exact ⟨items.length - (i + 1), by omega, rfl, h0, hh⟩
          · intro x H3 hy
            obtain ⟨v, w3, hv, x3, O3, r3⟩ := it1.yld _ mu3 H2 xi Oi i x H3 hlt hy
            have ed : items.drop i = v :: items.drop (i + 1) := by
              rw [List.drop_eq_getElem_cons hlt]
              rw [List.getElem?_eq_getElem hlt] at hv
              cases hv; rfl
            rw [ed] at el2
            unfold lpD at el2
            split at el2
            · rename_i env1 et
              have S3 : Slots K w3 (wipeE env vs) (wipe σ vs) := slots_wipe ((S.mono x1).mono (xi.trans x3)) vs
              refine tnG_ok O3 r3 et S3 hin fun σ2 S2 hw => ?_
              refine ⟨hw.trans wipe_wipe, ?_⟩
              have dps : ∀ {w5 : Wd}, Ext w3 w5 → DP K ⟨w5.F, w2.G, w5.r⟩ keyT ks acc := fun {w5} x5 =>
                Paired.mapP pa fun _ _ z => ⟨z.1, RC.mono (w := w2) (w' := ⟨w5.F, w2.G, w5.r⟩) (x3.trans x5).F (x3.trans x5).r z.2⟩
              split at el2
              · rename_i mu4 ec
                split at el2
                · rename_i kd mu5 ek
                  split at el2
                  · rename_i y mu6 em
                    split at el2
                    · rename_i hl
                      refine ⟨w3, env1, mu3, true, mu4, S2, O3, ec, fun w4 H4 x4 O4 => ?_⟩
                      dsimp only
                      rw [if_pos rfl]
                      refine ⟨w4, env1, mu4, _, mu5, S2.mono x4, O4, ek, fun w5 z H5 x5 O5 r5 => ?_⟩
                      refine ⟨w5, env1, mu5, y, mu6, (S2.mono x4).mono x5, O5, em, fun w6 z2 H6 x6 O6 r6 => ?_⟩
                      have x36 := (x4.trans x5).trans x6
                      obtain ⟨k, hk⟩ := Option.isSome_iff_exists.mp hl.2.2
                      rw [keyK?_eq hk] at r5 el2
                      have rc : RC K ⟨w6.F, w2.G, w6.r⟩ z2 y := RC.mono (w := w6) (w' := ⟨w6.F, w2.G, w6.r⟩) Sub.rfl' ⟨[], by simp⟩ (rc_one r6 hl.2.1)
                      have dp2 := dp_put teq_key (dps x36) k rc
                      obtain ⟨b1, b2, b3, b4⟩ := outG (o' := .dK (putK ks k z2)) f2.2.1 (x3.trans x36) O6
                      refine ⟨ks, k, key_k r5, b4, by rw [Paired.length pa]; exact Nat.lt_of_lt_of_le hl.1 (text_line (Nat.le_refl _)), hlt, _, _, _, _, x2.trans b3, b1, b2, upd_same, dp2, el2⟩
                    · cases el2
                  · cases el2
                · cases el2
              · rename_i mu4 ec
                refine ⟨w3, env1, mu3, false, mu4, S2, O3, ec, fun w4 H4 x4 O4 => ?_⟩
                dsimp only
                rw [if_neg Bool.false_ne_true]
                obtain ⟨b1, b2, b3, b4⟩ := outG (o' := .dK ks) f2.2.1 (x3.trans x4) O4
                have eu : upd H4 D (.dK ks) = H4 := by
                  funext a
                  by_cases z : a = D
                  · subst z; rw [upd_same, b4]
                  · rw [upd_ne z]
                rw [eu] at b1
                exact ⟨hlt, _, _, _, _, x2.trans b3, b1, b2, b4, dps x4, el2⟩
              · cases el2
            · cases el2
        · have hi' : i = items.length := by omega
          refine .inl ⟨it1.stop _ mu3 H2 xi Oi i (by omega), ?_⟩
          rw [hi', List.drop_length] at el2
          unfold lpD at el2
          cases el2
          obtain ⟨z1, z2⟩ := dp_keys pa
          exact q w2 D H2 (x1.trans x2) O2 f2 ⟨_, _, hD2, ⟨ks, rfl, z1, rfl⟩, z2⟩
      · cases e
    · cases e
  · cases e
theorem df_dc {kx vx tg iter : Expr} {ifs : List Expr} {scope : Scope} {own : List (Str × Nat)} {pos : Pos} {it : Ix} {t : Tn} {c : Tx} {mk mv : Ex} (hc : X.calm = true) (hN : X.N.Nodup) (hi : DI X tg iter it) (ok : BlkOk X.N X.env.scope scope own)
    (hg : ∀ (s : Shared) (H : Hp) (C : Addr) (cl : List (Str × Addr)) (fp : List Addr), PG (X.blk s H scope (compEnvC scope cl C X.env) fp) tg (tnG X.kc t)) (ht : ∀ (s : Shared) (H : Hp) (C : Addr) (cl : List (Str × Addr)) (fp : List Addr), PTs (X.blk s H scope (compEnvC scope cl C X.env) fp) ifs (tT X.kc c))
    (hk : ∀ (s : Shared) (H : Hp) (C : Addr) (cl : List (Str × Addr)) (fp : List Addr), DE (X.blk s H scope (compEnvC scope cl C X.env) fp) kx mk)
    (he : ∀ (s : Shared) (H : Hp) (C : Addr) (cl : List (Str × Addr)) (fp : List Addr), DE (X.blk s H scope (compEnvC scope cl C X.env) fp) vx mv) (hs : ∀ x, foldedSetIterable iter X.env x = pure x := by intro _; rfl) :
    DF X (.DictComp kx vx [⟨tg, iter, ifs, 0⟩] scope pos) (fDcomp it t (own.map (·.2)) c mk mv) := (pe_dc (tk := tE X.kc mk) (tv := tE X.kc mv) hc hN hi ok hg ht hk he hs).imp fun _ _ _ h => dcomp_tDc h
theorem ps_setDc {i : Nat} {y : Str} {py : Pos} {kx vx tg iter : Expr} {ifs : List Expr} {scope : Scope} {own : List (Str × Nat)} {pos spos : Pos} {wi : TI} {g : TG} {tt : TT} {tk tv : TE} (hc : X.calm = true) (hN : X.N.Nodup) (hy : X.N[i]? = some y) (hyl : X.env.scope.names.lookup y = some .local)
    (hsw : swapsWith (.DictComp kx vx [⟨tg, iter, ifs, 0⟩] scope pos) (some (.Name y py)) spos.line X.env = pure true) (hi : PI X tg iter wi) (ok : BlkOk X.N X.env.scope scope own)
    (hg : ∀ (s : Shared) (H : Hp) (C : Addr) (cl : List (Str × Addr)) (fp : List Addr), PG (X.blk s H scope (compEnvC scope cl C X.env) fp) tg g) (ht : ∀ (s : Shared) (H : Hp) (C : Addr) (cl : List (Str × Addr)) (fp : List Addr), PTs (X.blk s H scope (compEnvC scope cl C X.env) fp) ifs tt)
    (hk : ∀ (s : Shared) (H : Hp) (C : Addr) (cl : List (Str × Addr)) (fp : List Addr), PE (X.blk s H scope (compEnvC scope cl C X.env) fp) kx tk)
    (he : ∀ (s : Shared) (H : Hp) (C : Addr) (cl : List (Str × Addr)) (fp : List Addr), PE (X.blk s H scope (compEnvC scope cl C X.env) fp) vx tv) (hs : ∀ x, foldedSetIterable iter X.env x = pure x := by intro _; rfl) :
    PS X (.Assign [.Name y py] (.DictComp kx vx [⟨tg, iter, ifs, 0⟩] scope pos) spos) (tAsg (tDc wi g tt tk tv (own.map (·.2))) (gName i)) := by
  refine ⟨fun pins s σ H D I h => ?_⟩
  rw [exec_Assign_Name_used _ _ _ _ hsw]
  refine wpAny_bind (wpAny_standAt (wpAny_bind ?_))
  show wpAny _ X.A (do let _ ← comprehension (.DictComp kx vx [⟨tg, iter, ifs, 0⟩] scope pos) scope X.env (firstIterPos [⟨tg, iter, ifs, 0⟩] pos) newDict false (eval iter X.env) (some (assign (.Name y py) X.env))) _ _ s
  have h : tDc wi g tt tk tv (own.map (·.2)) σ H (fun x H1 => gName i x σ H1 D.nx) := h
  refine wpAny_bind (thn (dc_core (Qf := fun _ s' => SP X pins D .next s') hc hN I hi ok hg ht hk he hs h fun L C s' m H' I' q hn f => ?_) fun _ s' hq => wpAny_pure (wpAny_pure hq))
  show wpAny _ _ (assign (.Name y py) X.env (.ref L)) _ _ _
  refine wpAny_assign_Name (store_ok2 (v := V.ref L) I' hN hy (.inl hyl) rfl (fun s2 I2 ⟨a, sb, ha⟩ => ?_) (.inr hyl))
  obtain ⟨f0, f1, f2, f3, f4, f5⟩ := f
  have haC : C ≠ a := by
    rcases ha with z | z
    · rw [z]; exact f1
    · exact fun e => f4 y a z e.symm
  refine ⟨m, hn.sameBut sb haC, fun h3 sb3 => ?_⟩
  exact ⟨_, H', I2.turned (t' := s2.toks) (fun b o hb e => (sb3.2 b hb).trans e) f0 f1 f3 f4 f5, q⟩
theorem ds_setDc {i : Nat} {y : Str} {py : Pos} {kx vx tg iter : Expr} {ifs : List Expr} {scope : Scope} {own : List (Str × Nat)} {pos spos : Pos} {it : Ix} {t : Tn} {c : Tx} {mk mv : Ex} {kp : Bool} (hc : X.calm = true) (hN : X.N.Nodup) (hy : X.N[i]? = some y) (hyl : X.env.scope.names.lookup y = some .local)
    (hsw : swapsWith (.DictComp kx vx [⟨tg, iter, ifs, 0⟩] scope pos) (some (.Name y py)) spos.line X.env = pure true) (hi : DI X tg iter it) (ok : BlkOk X.N X.env.scope scope own)
    (hg : ∀ (s : Shared) (H : Hp) (C : Addr) (cl : List (Str × Addr)) (fp : List Addr), PG (X.blk s H scope (compEnvC scope cl C X.env) fp) tg (tnG X.kc t)) (ht : ∀ (s : Shared) (H : Hp) (C : Addr) (cl : List (Str × Addr)) (fp : List Addr), PTs (X.blk s H scope (compEnvC scope cl C X.env) fp) ifs (tT X.kc c))
    (hk : ∀ (s : Shared) (H : Hp) (C : Addr) (cl : List (Str × Addr)) (fp : List Addr), DE (X.blk s H scope (compEnvC scope cl C X.env) fp) kx mk)
    (he : ∀ (s : Shared) (H : Hp) (C : Addr) (cl : List (Str × Addr)) (fp : List Addr), DE (X.blk s H scope (compEnvC scope cl C X.env) fp) vx mv) (hs : ∀ x, foldedSetIterable iter X.env x = pure x := by intro _; rfl) :
    DS X (.Assign [.Name y py] (.DictComp kx vx [⟨tg, iter, ifs, 0⟩] scope pos) spos) (sSet i (eKeep kp (fDcomp it t (own.map (·.2)) c mk mv))) := (ps_setDc (tk := tE X.kc mk) (tv := tE X.kc mv) hc hN hy hyl hsw hi ok hg ht hk he hs).imp fun D σ H h => tS_set (fun σ H Q z => by
  refine dcomp_tDc ?_
  cases kp with
  | true => exact tE_own z
  | false => exact tE_fr z) h
/-! ### len(set(xs)), xs a list of ints -/
def distinct (ns : List Int) : Nat := (PyProof.Rows.firstMet (fun i => ns.getD i 0) ns.length).length
def tLenSetI (K : PySem.W.Frag) (ta : TE) : TE := fun σ H Q => ta σ H fun x H1 => ∃ (l : Addr) (ns : List Int), x = .ref l ∧ SqL K H1 l (ns.map V.int) ∧ ns.length + 1 < scanBound ∧ Q (.int (distinct ns)) H1
theorem intsAre_of : ∀ {ys : List Int} {us : List Value}, Vals (ys.map V.int) us → PyProof.Rows.IntsAre us ys
  | [], _, .nil => .nil
  | y :: ys, _, .cons r t => by
    obtain ⟨k, rfl⟩ := r
    exact .cons y k (intsAre_of t)
theorem pe_lenSetI {a : Expr} {ta : TE} {p p2 q pos : Pos} (hc : X.calm = true) (hg : Gl X "len") (hm : X.mg "len" = none) (hg2 : Gl X "set") (hm2 : X.mg "set" = none) (ha : PE X a ta)
    (na : starEach [a] X.env = (false, eval a X.env) :: starEach [] X.env := by rfl) : PE X (.Call (.Name "len" p) [.Call (.Name "set" p2) [a] [] q] [] pos) (tLenSetI X.K ta) := by
  refine ⟨fun pins s σ H Q I h => ?_⟩
  refine Call_ (ld_blt I hg hm boot_len ?_)
  refine PyProof.Rows.callWith_builtin1 (PyProof.Rows.args_cons ?_ rfl) rfl rfl
  refine Call_ (ld_blt I hg2 hm2 boot_set ?_)
  refine PyProof.Rows.callWith_type1 (PyProof.Rows.args_cons (thn (ha.run pins s σ H _ I h) fun v s1 ⟨x, H1, I1, r1, q1⟩ => PyProof.Rows.args_nil ?_) na) na rfl
  obtain ⟨l, ns, rfl, hq, h1, q1⟩ := q1
  cases r1
  obtain ⟨its, r, pl, hz⟩ := I1.list hq
  have hl : its.toArray.size = ns.length := by rw [List.size_toArray, ← r.length, List.length_map]
  refine call_set_list (I1.ok.hd hc) pl.isList (by simpa using intsAre_of r) (by rw [hl]; exact h1) fun h' tk hS hk => ?_
  refine PyProof.Rows.args_nil ?_
  rw [hl] at hS
  obtain ⟨o, es, ep, t, ho, hex, hd, _, _, _, hf, hn⟩ := hS
  have I2 : Inv X pins σ H1 { s1 with heap := h', toks := tk } := I1.kept fun b o e => hk b o (Heap.lt_size e) e
  have hb : es.size ≤ ns.length := by rw [hn]; exact PyProof.Rows.firstMet_length_le _ _
  refine call_len_set ho hex hd hf (by unfold scanBound at h1; omega) ⟨.int (distinct ns), H1, I2.tok _, ⟨_, by rw [hn]; rfl⟩, q1⟩
@[simp] def eLenSet (m : Ex) : Ex := fun env mu => match m env mu with
  | some (v, mu1) => (match lv v mu1 with
    | some us => (match intsV us with
      | some ns => if ns.length ≤ 4000 then some (.t (.int (distinct ns)), mu1) else none
      | none => none)
    | none => none)
  | none => none
theorem de_lenSet {a : Expr} {m : Ex} {p p2 q pos : Pos} (hc : X.calm = true) (hg : Gl X "len") (hm : X.mg "len" = none) (hg2 : Gl X "set") (hm2 : X.mg "set" = none) (ha : DE X a m)
    (na : starEach [a] X.env = (false, eval a X.env) :: starEach [] X.env := by rfl) : DE X (.Call (.Name "len" p) [.Call (.Name "set" p2) [a] [] q] [] pos) (eLenSet m) := (pe_lenSetI hc hg hm hg2 hm2 ha na).imp fun σ H Q h => by
  obtain ⟨w, env, mu, v, mu', S, O, e, q⟩ := h
  unfold eLenSet at e
  split at e
  · rename_i v1 mu1 em
    split at e
    · rename_i us hu
      split at e
      · rename_i ns hn
        split at e
        · rename_i hl
          cases e
          refine ⟨w, env, mu, v1, _, S, O, em, fun w1 x H1 x1 O1 r1 => ?_⟩
          obtain ⟨a, ys, rfl, h1, h2⟩ := lv_ok O1 r1 hu
          rw [ints_ok h2 hn] at h1
          exact ⟨a, ns, rfl, h1, by unfold scanBound; omega, q w1 _ H1 x1 O1 (Rep.int _)⟩
        · cases e
      · cases e
    · cases e
  · cases e
/-! ### a text, some times -/
def repS (z : Str) (n : Nat) : Str := ⟨(List.replicate n z.cps).foldl (· ++ ·) #[]⟩
theorem foldl_size (a : Array Nat) : ∀ (k : Nat) (b : Array Nat), ((List.replicate k a).foldl (· ++ ·) b).size = b.size + k * a.size
  | 0, b => by simp
  | k + 1, b => by
    rw [List.replicate_succ, List.foldl_cons, foldl_size a k, Array.size_append, Nat.succ_mul]
    omega
theorem repS_size (z : Str) (k : Nat) : (repS z k).length = k * z.length := by
  show ((List.replicate k z.cps).foldl (· ++ ·) #[]).size = k * z.cps.size
  rw [foldl_size]; simp
theorem op_repS : OpR X (binaryOp .Mult) (fun x y H Q => ∃ (z : Str) (n : Int), x = .str z ∧ y = .int n ∧ 2 ≤ n ∧ n ≤ 1000 ∧ 0 < z.length ∧ z.length ≤ 1000 ∧ Q (.str (repS z n.toNat)) H) := by
  intro pins s σ H x y v u Q I rx ry h
  obtain ⟨z, n, rfl, rfl, h1, h2, h3, h4, q⟩ := h
  obtain ⟨t, rfl⟩ := rx
  obtain ⟨t', rfl⟩ := ry
  have c1 : ¬ n < 1 := by omega
  have c2 : (n == 1 || z.length == 0) = false := by simp; omega
  refine PySem.P.mul_str (by simp; omega) (fun _ _ => ?_) (fun _ _ => ?_) ?_
  · have : (1000 : Int) ≤ (2 ^ 63 - 1) / n := Int.le_ediv_of_mul_le (by omega) (by omega)
    omega
  · have hh : z.length * n.toNat ≤ 1000 * 1000 := Nat.mul_le_mul h4 (by omega)
    unfold Builtin.Str.tooLong
    refine decide_eq_false ?_
    rw [sizeLine_eq]; omega
  · rw [if_neg c1, c2, if_neg Bool.false_ne_true]
    refine ⟨?_, .str (repS z n.toNat), H, I.tok _, ⟨_, rfl⟩, q⟩
    have e := repS_size z n.toNat
    have hh : n.toNat * z.length ≤ 1000 * 1000 := Nat.mul_le_mul (by omega) h4
    show (repS z n.toNat).length ≤ sizeLine
    rw [e, sizeLine_eq]; omega
@[simp] def gRepS : G2 := fun a b mu => match a, b with
  | .t (.str z), .t (.int n) => if 2 ≤ n ∧ n ≤ 1000 ∧ 0 < z.length ∧ z.length ≤ 1000 then some (.t (.str (repS z n.toNat)), mu) else none
  | _, _ => none
theorem opv_repS : OpV K (fun x y H Q => ∃ (z : Str) (n : Int), x = .str z ∧ y = .int n ∧ 2 ≤ n ∧ n ≤ 1000 ∧ 0 < z.length ∧ z.length ≤ 1000 ∧ Q (.str (repS z n.toNat)) H) gRepS := by
  intro w mu H x y va vb v mu' Q O ra rb e q
  unfold gRepS at e
  split at e
  · split at e
    · rename_i hc
      cases e; cases ra; cases rb
      exact ⟨_, _, rfl, rfl, hc.1, hc.2.1, hc.2.2.1, hc.2.2.2, q w _ H (Ext.refl w) O (Rep.str _)⟩
    · cases e
  · cases e
end
end Vi

set_option Elab.async false
set_option linter.all false
set_option maxRecDepth 100000
set_option maxHeartbeats 4000000
/-! Vi9: defs with their names; calls with keywords; list(range(..)); zip of lists and of tuples; three classes. -/
namespace Vi
open PySem PySem.Spec PyProof.Rows L2
section
variable {X : Cx}
theorem dvn (i : Nat) {x : Str} {pos : Pos} (hN : X.N[i]? = some x := by rfl) (hv : Vis X.env.scope x := by first | exact Or.inl rfl | exact Or.inr (Or.inl rfl) | exact Or.inr (Or.inr rfl)) (hd : (x == ("__debug__" : Str)) = false := by decide)
    (hcd : (x == ("__classdict__" : Str)) = false := by decide) : DE X (.Name x pos) (eVar i) := de_var hN hv hd hcd
end
/-! ### a def and its promise, by its name -/
/-- the def named x, called with all its parameters but those that defs fills -/
structure Gd (K : Kc) (mg : Str → Option Value) (base : Heap) (k : Nat) (x : Str) (m : FnS) (defs : List T) : Prop where
  ex : ∃ (f : Addr) (fd : FuncData) (ps : List Str) (dvs : List V) (ds : List Value), mg x = some (.ref f) ∧ PySem.W.keepIn K.k (.ref f) = true ∧ FnOk K.p K.w K.k mg base CX0 k f fd ps (spF K m) ∧ Binds K.k fd ps ds ∧ L2.Vals dvs ds ∧ ∀ F, RepAll K F dvs defs
  pm : PureF m
/-- the def named x, called with keywords alone: ks the keywords in the call's order; pr puts the values in the parameters' order -/
structure Gk (K : Kc) (mg : Str → Option Value) (base : Heap) (k : Nat) (x : Str) (m : FnS) (ks : List Str) (pr : {α : Type} → List α → List α) : Prop where
  ex : ∃ (f : Addr) (fd : FuncData) (ps : List Str), mg x = some (.ref f) ∧ PySem.W.keepIn K.k (.ref f) = true ∧ FnOk K.p K.w K.k mg base CX0 k f fd ps (spF K m) ∧
    ∀ (s : Shared) (ws : List Value), K.k.In s.heap → ws.length = ks.length → BindsTo s fd ⟨[], ks.zip ws⟩ (ps.zip (pr ws))
  rel : ∀ {α β : Type} {R : α → β → Prop} {xs : List α} {ys : List β}, Paired R xs ys → Paired R (pr xs) (pr ys)
  pm : PureF m
section
variable {K : Kc} {mg : Str → Option Value} {base : Heap} {k : Nat} {x qual : Str} {m : FnS} {params : Arguments} {body : List Stmt} {scope : Scope} {dvs : List V} {f : Addr} {fd : FuncData} {ps : List Str}
theorem Gd.of {kws : List (Str × V)} (pm : PureF m) (h1 : mg x = some (.ref f)) (F : FunD K.k x qual params body scope [] kws f fd) (ok : FnOk K.p K.w K.k mg base CX0 k f fd ps (spF K m))
    (h : ∀ (kV doc pm : Value) (an : Option Addr) (cdv ct : Value) (us : List Value), us.length = ps.length → bindArgs (PySem.W.fnOf x qual params body scope .none kV doc pm an cdv ct) ⟨us, []⟩ = pure (ps.zip us)) : Gd K mg base k x m [] :=
  ⟨⟨f, fd, ps, [], [], h1, F.kp, ok, F.bindsN h, .nil, fun _ => .nil⟩, pm⟩
/-- n values are written, the defaults behind the first j fill up -/
theorem Gd.of1 {kws : List (Str × V)} {defs : List T} (n j : Nat) (pm : PureF m) (h1 : mg x = some (.ref f)) (F : FunD K.k x qual params body scope dvs kws f fd) (ok : FnOk K.p K.w K.k mg base CX0 k f fd ps (spF K m))
    (hd : dvs ≠ []) (hn : n + (dvs.length - j) = ps.length) (hr : ∀ F, RepAll K F (dvs.drop j) defs)
    (h : ∀ (T : Addr) (kV doc pm : Value) (an : Option Addr) (cdv ct : Value) (us its : List Value), us.length = n → its.length = dvs.length →
      ∃ k, bindArgs (PySem.W.fnOf x qual params body scope (.ref T) kV doc pm an cdv ct) ⟨us, []⟩ = seqItems? (.ref T) >>= k ∧ k (some its.toArray) = pure (ps.zip (us ++ its.drop j))) : Gd K mg base k x m defs :=
  let ⟨ds, hv, hb⟩ := F.binds1 n j hd hn h
  ⟨⟨f, fd, ps, dvs.drop j, ds, h1, F.kp, ok, hb, hv, hr⟩, pm⟩
theorem Gk.of {kws : List (Str × V)} {ks : List Str} (pr : {α : Type} → List α → List α) (rel : ∀ {α β : Type} {R : α → β → Prop} {xs : List α} {ys : List β}, Paired R xs ys → Paired R (pr xs) (pr ys)) (pm : PureF m) (h1 : mg x = some (.ref f)) (F : FunD K.k x qual params body scope [] kws f fd) (ok : FnOk K.p K.w K.k mg base CX0 k f fd ps (spF K m))
    (h : ∀ (kV doc pm : Value) (an : Option Addr) (cdv ct : Value) (ws : List Value), ws.length = ks.length → bindArgs (PySem.W.fnOf x qual params body scope .none kV doc pm an cdv ct) ⟨[], ks.zip ws⟩ = pure (ps.zip (pr ws))) : Gk K mg base k x m ks pr := by
  refine ⟨⟨f, fd, ps, h1, F.kp, ok, fun s ws X hl => ?_⟩, rel, pm⟩
  obtain ⟨oc, od, dV, kV, doc, pm, an, cdv, ct, osl, rfl, lk, hcd, hD, hK⟩ := F.ex
  rcases hD with ⟨_, rfl⟩ | ⟨e, _⟩
  · exact .of_eq (h kV doc pm an cdv ct ws hl)
  · exact absurd rfl e
theorem fn_okx {kws : List (Str × V)} {N : List Str} {n : Sx} {p l : Nat} (F : FunD K.k x qual params body scope dvs kws f fd) (S : FnScope N ps scope)
    (hb : ∀ (cdv : Value) (A : Around) (outer : List Env) (s : Shared) (H : Hp) (E : XK), Room k (A.deeper (envOfC qual scope s.heap.objs.size f cdv)) → DSs (cxOf CX0 K.p K.w K.k mg base N qual scope f cdv A outer s H E).nox body n)
    (hp : ps.length = p := by rfl) (hl : N.length = l := by rfl) : FnOk K.p K.w K.k mg base CX0 (k + 1) f fd ps (spF K (fnS p l n)) := by
  subst hp hl
  exact fn_ok F S fun cdv A outer s H E hr => PSs.nox (hb cdv A outer s H E hr)
/-- a def that nobody has yet stepped into -/
def fnNo : FnS := fun _ => none
theorem fn_no {kws : List (Str × V)} {N : List Str} (F : FunD K.k x qual params body scope dvs kws f fd) (S : FnScope N ps scope) : FnOk K.p K.w K.k mg base CX0 (k + 1) f fd ps (spF K fnNo) := by
  refine F.ok S (fun vs H Q E h => ?_) (fun cdv A outer s H vs Q E hr h => ?_)
  · obtain ⟨w, as, r, cs, _, _, _, e, _⟩ := h; cases e
  · obtain ⟨w, as, r, cs, _, _, _, e, _⟩ := h; cases e
theorem pure_no : PureF fnNo := fun _ _ _ h => by cases h
end
section
variable {X : Cx} {k k' : Nat} {m : FnS} {ms : List Mode} {x : Str} {p pos : Pos} {e : Expr} {es : List Expr} {args : Ax} {defs : List T}
theorem dr_g (ms : List Mode) (G : Gd X.kc X.mg X.base k x m []) (hr : Room k' X.A) (hk : k ≤ k') (hg : Gl X x) (ha : DA X (e :: es) args) (hdb : (x == ("__debug__" : Str)) = false := by decide) (he : starEach (e :: es) X.env = (false, eval e X.env) :: starEach es X.env := by rfl) (hpl : (backTo pos (starEach es X.env)).any (·.1) = false := by rfl) :
    DR X (.Call (.Name x p) (e :: es) [] pos) (rCall m ms args) := by
  obtain ⟨f, fd, ps, dvs, ds, h1, h2, h3, h4, h5, h6⟩ := G.ex
  have hv := h6 (fun _ => none)
  cases dvs with
  | nil =>
    cases h5
    exact dr_call h3 G.pm (hr.mono hk) hg h1 h2 h4 ha hdb he hpl
  | cons _ _ => cases hv
@[simp] def aDef (a : Ax) (defs : List T) : Ax := fun env mu => match a env mu with
  | some (vs, mu1) => some (vs ++ defs.map .t, mu1)
  | none => none
theorem dr_gd (ms : List Mode) (G : Gd X.kc X.mg X.base k x m defs) (hr : Room k' X.A) (hk : k ≤ k') (hg : Gl X x) (ha : DA X (e :: es) args) (hdb : (x == ("__debug__" : Str)) = false := by decide) (he : starEach (e :: es) X.env = (false, eval e X.env) :: starEach es X.env := by rfl) (hpl : (backTo pos (starEach es X.env)).any (·.1) = false := by rfl) :
    DR X (.Call (.Name x p) (e :: es) [] pos) (rCall m ms (aDef args defs)) := by
  obtain ⟨f, fd, ps, dvs, ds, h1, h2, h3, h4, h5, h6⟩ := G.ex
  exact dr_callD h3 G.pm (hr.mono hk) hg h1 h2 h4 h5 h6 ha hdb he hpl
/-- the keywords' values -/
def DK' (X : Cx) (kws : List Keyword) (m : Ax) : Prop := PK X kws (tA X.kc m)
theorem dk_nil : DK' X [] aNil := ⟨fun pos pins s σ H Q I h => pk_nil.run pos pins s σ H Q I (by
  obtain ⟨w, env, mu, vs, mu', S, O, e, q⟩ := h
  cases e
  exact q w [] H (Ext.refl w) O .nil)⟩
theorem dk_cons {kws : List Keyword} {nm : Option Str} {kpos : Pos} {me : Ex} {r : Ax} (he : DE X e me) (hr : DK' X kws r) : DK' X (⟨nm, e, kpos⟩ :: kws) (aCons me r) := ⟨fun pos pins s σ H Q I h => (pk_cons he hr).run pos pins s σ H Q I (by
  obtain ⟨w, env, mu, vs, mu', S, O, e, q⟩ := h
  unfold aCons at e
  split at e
  · rename_i v mu1 ev
    split at e
    · rename_i us mu2 er
      cases e
      refine ⟨w, env, mu, v, mu1, S, O, ev, fun w1 x H1 x1 O1 r1 => ?_⟩
      refine ⟨w1, env, mu1, us, _, S.mono x1, O1, er, fun w2 xs H2 x2 O2 r2 => ?_⟩
      exact q w2 (x :: xs) H2 (x1.trans x2) O2 (.cons (r1.mono x2) r2)
    · cases e
  · cases e)⟩
@[simp] def aPr (n : Nat) (pr : {α : Type} → List α → List α) (a : Ax) : Ax := fun env mu => match a env mu with
  | some (vs, mu1) => if vs.length = n then some (pr vs, mu1) else none
  | none => none
/-- f(k = e, ..) -/
theorem dr_gk {kws : List Keyword} {ks : List Str} {pr : {α : Type} → List α → List α} (ms : List Mode) (G : Gk X.kc X.mg X.base k x m ks pr) (hr : Room k' X.A) (hk : k ≤ k') (hg : Gl X x) (ha : DK' X kws args) (hall : (backToKw pos (keywordEach kws X.env)).all (·.1.isSome) = true := by rfl) (hks : (backToKw pos (keywordEach kws X.env)).filterMap (·.1) = ks := by rfl)
    (hdb : (x == ("__debug__" : Str)) = false := by decide) (hpl : ((backTo pos (starEach [] X.env)).any (·.1) || (backToKw pos (keywordEach kws X.env)).any (·.1.isNone)) = false := by rfl) :
    DR X (.Call (.Name x p) [] kws pos) (rCall m ms (aPr ks.length pr args)) := by
  obtain ⟨f, fd, ps, h1, h2, h3, h4⟩ := G.ex
  refine ⟨fun pins s σ H Q I h => ?_⟩
  have h := tR_call (E := E0) (t := fun σ H Q => tA X.kc args σ H fun xs H1 => xs.length = ks.length ∧ Q (pr xs) H1) G.pm h (fun Q' z => by
    obtain ⟨w, env, mu, vs, mu', S, O, e1, q⟩ := z
    unfold aPr at e1
    split at e1
    · rename_i vs0 mu1 ea
      split at e1
      · rename_i hl
        cases e1
        exact ⟨w, env, mu, vs0, _, S, O, ea, fun w' xs H' x1 O1 r1 => ⟨(Paired.length r1).trans hl, q w' _ H' x1 O1 (G.rel r1)⟩⟩
      · cases e1
    · cases e1) (fun _ _ z => z)
  refine wpAny_Call_Name_kw (ld_glob I hg h1 ?_ hdb)
  refine PySem.W.callWith_KW0 (h₀ := X.base) I.ok.mod.kin h2 hall ?_ hpl
  refine thn (ha.run pos pins s σ H _ I h) fun ws s2 ⟨zs, H2, I2, rz, l2, q2⟩ => ⟨I2.kIn, ?_⟩
  · rw [hks]
    have hl : ws.length = ks.length := rz.length.symm.trans l2
    refine wpAny_call (codeAny_mono (h3.run X.A X.stack s2 H2 ⟨[], ks.zip ws⟩ (pr ws) (pr zs) Q E0 (hr.mono hk) I2.env0 (h4 s2 ws I2.kIn hl) (G.rel rz) q2) fun r s' hq => ?_)
    cases r with
    | error e => exact hq.elim
    | ok fl =>
      cases fl with
      | ret u => exact I2.after hq
      | next => exact False.elim hq
      | brk => exact False.elim hq
      | cont => exact False.elim hq
end
end Vi

set_option Elab.async false
set_option linter.all false
set_option maxRecDepth 100000
set_option maxHeartbeats 4000000
/-! Vi10: list(range(..)); zip of lists and of tuples; three classes. -/
namespace Vi
open PySem PySem.Spec PyProof.Rows L2
section
variable {X : Cx}
@[simp] def fRng2 (ma mb : Ex) : Fx := fun env mu => match ma env mu with
  | some (.t (.int a), mu1) => (match mb env mu1 with
    | some (.t (.int b), mu2) => if 0 ≤ a ∧ a ≤ 16777216 ∧ 0 ≤ b ∧ b ≤ 16777216 then some (.lst ((rangeL a 1 (b - a).toNat).map .t), mu2) else none
    | _ => none)
  | _ => none
theorem rep_rg {K : Kc} {F : Hp} {a : Int} : ∀ (n : Nat) (a : Int), RepAll K F ((List.range n).map fun (i : Nat) => V.int (a + (i : Nat))) (rangeL a 1 n)
  | n, a => by
    unfold rangeL
    have : ∀ l : List Nat, RepAll K F (l.map fun (i : Nat) => V.int (a + (i : Nat))) (l.map fun (i : Nat) => .int (a + (i : Int) * 1)) := fun l => by
      induction l with
      | nil => exact .nil
      | cons i l ih =>
        simp only [List.map_cons, Int.mul_one]
        exact .cons (.int _) (by simpa using ih)
    exact this _
theorem df_listRg2 {a b : Expr} {ma mb : Ex} {p p2 pos pos2 : Pos} (hc : X.calm = true) (hg : Gl X "list") (hm : X.mg "list" = none) (hg2 : Gl X "range") (hm2 : X.mg "range" = none) (ha : DE X a ma) (hb : DE X b mb)
    (na : starEach [a, b] X.env = (false, eval a X.env) :: starEach [b] X.env := by rfl) (nb : starEach [b] X.env = (false, eval b X.env) :: starEach [] X.env := by rfl) (hp : (backTo pos2 (starEach [b] X.env)).any (·.1) = false := by rfl)
    (nc : starEach [.Call (.Name "range" p2) [a, b] [] pos2] X.env = (false, eval (.Call (.Name "range" p2) [a, b] [] pos2) X.env) :: starEach [] X.env := by rfl) :
    DF X (.Call (.Name "list" p) [.Call (.Name "range" p2) [a, b] [] pos2] [] pos) (fRng2 ma mb) := (pe_listRg hc hg hm (prg_2 hg2 hm2 ha hb na nb hp) nc).imp fun σ H Q h => by
  obtain ⟨w, env, mu, c, mu', S, O, e, q⟩ := h
  unfold fRng2 at e
  split at e
  · rename_i a mu1 ea
    split at e
    · rename_i b mu2 eb
      split at e
      · rename_i hh
        cases e
        refine ⟨w, env, mu, _, _, S, O, ea, fun w1 x H1 x1 O1 r1 => ?_⟩
        refine ⟨w1, env, mu1, _, _, S.mono x1, O1, eb, fun w2 y H2 x2 O2 r2 => ?_⟩
        have r1 := r1.mono x2
        cases r1; cases r2
        refine ⟨a, b, rfl, rfl, .of_le hh.1 hh.2.2.2 hh.2.1 hh.2.2.1, fun l hl => ?_⟩
        exact q w2 l _ (x1.trans x2) (O2.laid hl) (fresh_new O2 hl) ⟨_, upd_same, Pd.ofRep (rep_rg (a := a) _ a)⟩
      · cases e
    · cases e
  · cases e
/-! zip -/
@[simp] def lvT : Val → Option (List T)
  | .t (.tuple ds) => some ds
  | _ => none
@[simp] def iZpA (m : Ax) : Ix := fun env mu => match m env mu with
  | some ([va, vb], mu1) => (match lvT va, lvT vb with
    | some ds, some es => some (zipL ds es, mu1)
    | _, _ => (match lvS va, lvS vb with
      | some ds, some es => some (zipL ds es, mu1)
      | _, _ => none))
  | _ => none
theorem lvT_ok {K : Kc} {w : Wd} {mu : Mu} {H : Hp} {x : V} {v : Val} {ds : List T} (O : Own K w mu H) (r : RV K w x v) (h : lvT v = some ds) : ∃ a xs, x = .ref a ∧ w.F a = some (.tup xs) ∧ RepAll K w.F xs ds := by
  unfold lvT at h
  split at h
  · cases h
    cases r with
    | tup h1 r2 => exact ⟨_, _, rfl, h1, r2⟩
  · cases h
theorem staysT {K : Kc} {w w1 : Wd} {mu : Mu} {H : Hp} {a : Addr} {xs : List V} (h : w.F a = some (.tup xs)) (e : Ext w w1) (O : Own K w1 mu H) : SqT K.k H a xs := .inl (.inl (O.sub _ _ (e.F _ _ h)))
theorem di_zipA {e e2 : Expr} {m : Ax} {p pos tpos : Pos} {elts : List Expr} {kk : Nat} (hg : Gl X "zip") (hm : X.mg "zip" = none) (ha : DA X [e, e2] m)
    (hs : starEach [e, e2] X.env = (false, eval e X.env) :: starEach [e2] X.env := by rfl) (hpl : (backTo pos (starEach [e2] X.env)).any (·.1) = false := by rfl) : DI X (.Tuple elts kk tpos) (.Call (.Name "zip" p) [e, e2] [] pos) (iZpA m) :=
  (RZ.pi_zipA hg hm ha hs hpl).imp fun σ H Q h => by
  obtain ⟨w, env, mu, items, mu', S, O, e, q⟩ := h
  unfold iZpA at e
  split at e
  · rename_i va vb mu1 em
    split at e
    · rename_i ds es hd he
      cases e
      refine ⟨w, env, mu, _, _, S, O, em, fun w1 xs H1 x1 O1 r1 => ?_⟩
      cases r1 with
      | cons r1 r2 =>
        cases r2 with
        | cons r2 r3 =>
          cases r3
          obtain ⟨a, xs, rfl, h1, h2⟩ := lvT_ok O1 r1 hd
          obtain ⟨b, ys, rfl, h3, h4⟩ := lvT_ok O1 r2 he
          refine ⟨a, b, xs, ys, rfl, .inr ⟨staysT h1 (Ext.refl w1) O1, staysT h3 (Ext.refl w1) O1, q w1 H1 _ x1 O1 ?_⟩⟩
          have hl : (zipL ds es).length = min xs.length ys.length := by simp [zipL, h2.length, h4.length]
          refine ⟨fun w2 mu2 H2 x O i hi => ?_, fun w2 mu2 H2 x O i hi => ?_, fun w2 mu2 H2 x O i y H3 hi hy => ?_⟩
          · rw [hl] at hi
            exact ⟨xs, ys, xs[i]'(by omega), ys[i]'(by omega), staysT h1 x O, staysT h3 x O, by simp, by simp⟩
          · rw [hl] at hi
            exact ⟨xs, ys, staysT h1 x O, staysT h3 x O, by omega⟩
          · obtain ⟨p, z, z', rfl, hp, rfl, hz, hz'⟩ := hy
            obtain ⟨d, h5, h6⟩ := h2.get' (hz xs (staysT h1 x O))
            obtain ⟨d', h7, h8⟩ := h4.get' (hz' ys (staysT h3 x O))
            obtain ⟨w3, y1, y2, y3⟩ := yield_tup (xs := [z, z']) (ds := [d, d']) O hp (.cons (h6.mono x.F) (.cons (h8.mono x.F) .nil))
            refine ⟨_, w3, ?_, y1, y2, y3⟩
            have hz2 : (ds.zip es)[i]? = some (d, d') := List.getElem?_zip_eq_some.mpr ⟨h5, h7⟩
            simp only [zipL, List.getElem?_map, hz2, Option.map_some]
    · split at e
      · rename_i ds es hd he
        cases e
        refine ⟨w, env, mu, _, _, S, O, em, fun w1 xs H1 x1 O1 r1 => ?_⟩
        cases r1 with
        | cons r1 r2 =>
          cases r2 with
          | cons r2 r3 =>
            cases r3
            obtain ⟨a, xs, rfl, h1, h2⟩ := lvS_ok O1 r1 hd
            obtain ⟨b, ys, rfl, h3, h4⟩ := lvS_ok O1 r2 he
            refine ⟨a, b, xs, ys, rfl, .inl ⟨stays h1 (Ext.refl w1) O1, stays h3 (Ext.refl w1) O1, q w1 H1 _ x1 O1 ?_⟩⟩
            have hl : (zipL ds es).length = min xs.length ys.length := by simp [zipL, h2.length, h4.length]
            refine ⟨fun w2 mu2 H2 x O i hi => ?_, fun w2 mu2 H2 x O i hi => ?_, fun w2 mu2 H2 x O i y H3 hi hy => ?_⟩
            · rw [hl] at hi
              exact ⟨xs, ys, xs[i]'(by omega), ys[i]'(by omega), stays h1 x O, stays h3 x O, by simp, by simp⟩
            · rw [hl] at hi
              exact ⟨xs, ys, stays h1 x O, stays h3 x O, by omega⟩
            · obtain ⟨p, z, z', rfl, hp, rfl, hz, hz'⟩ := hy
              obtain ⟨d, h5, h6⟩ := h2.get' (hz xs (stays h1 x O))
              obtain ⟨d', h7, h8⟩ := h4.get' (hz' ys (stays h3 x O))
              obtain ⟨w3, y1, y2, y3⟩ := yield_tup (xs := [z, z']) (ds := [d, d']) O hp (.cons (h6.mono x.F) (.cons (h8.mono x.F) .nil))
              refine ⟨_, w3, ?_, y1, y2, y3⟩
              have hz2 : (ds.zip es)[i]? = some (d, d') := List.getElem?_zip_eq_some.mpr ⟨h5, h7⟩
              simp only [zipL, List.getElem?_map, hz2, Option.map_some]
      · cases e
  · cases e
theorem de_isT3 {b c d : String} {x0 y0 z0 : Str} {p0 p1 p2 p3 p pos : Pos} {k : Nat} {e : Expr} {m : Ex} (h1 : Gl X "isinstance") (h2 : X.mg "isinstance" = none) (h3 : Gl X x0) (h4 : X.mg x0 = none) (h5 : bootBuiltins x0 = some (.type b)) (h3' : Gl X y0) (h4' : X.mg y0 = none) (h5' : bootBuiltins y0 = some (.type c)) (h3'' : Gl X z0) (h4'' : X.mg z0 = none) (h5'' : bootBuiltins z0 = some (.type d))
    (hb : ∀ z ∈ [b, c, d], z ∈ ["bool", "int", "str", "list", "tuple", "dict"]) (he : DE X e m) (hn : x0 ≠ "__name__" := by decide) (hd : (x0 == ("__debug__" : Str)) = false := by decide) (hn' : y0 ≠ "__name__" := by decide) (hd' : (y0 == ("__debug__" : Str)) = false := by decide) (hn'' : z0 ≠ "__name__" := by decide) (hd'' : (z0 == ("__debug__" : Str)) = false := by decide)
    (hs : starEach [e, .Tuple [.Name x0 p0, .Name y0 p1, .Name z0 p3] k p2] X.env = (false, eval e X.env) :: starEach [.Tuple [.Name x0 p0, .Name y0 p1, .Name z0 p3] k p2] X.env := by rfl) (hpl : (backTo pos (starEach [.Tuple [.Name x0 p0, .Name y0 p1, .Name z0 p3] k p2] X.env)).any (·.1) = false := by rfl) :
    DE X (.Call (.Name "isinstance" p) [e, .Tuple [.Name x0 p0, .Name y0 p1, .Name z0 p3] k p2] [] pos) (eIs [b, c, d] m) := by
  have ht : PE X (.Tuple [.Name x0 p0, .Name y0 p1, .Name z0 p3] k p2) (tTup (tCons (tC (.ty b)) (tCons (tC (.ty c)) (tCons (tC (.ty d)) tNil)))) := pe_tup (pa_cons (pe_bltn h3 h4 h5 rfl hn hd) (pa_cons (pe_bltn h3' h4' h5' rfl hn' hd') (pa_cons (pe_bltn h3'' h4'' h5'' rfl hn'' hd'') pa_nil)))
  have ha : PA X [e, .Tuple [.Name x0 p0, .Name y0 p1, .Name z0 p3] k p2] (tCons (tE X.kc m) (tCons (tTup (tCons (tC (.ty b)) (tCons (tC (.ty c)) (tCons (tC (.ty d)) tNil)))) tNil)) := pa_cons he (pa_cons ht pa_nil) hs
  refine (pe_callB call_isiT h1 h2 boot_isinstance ha (by decide) (by decide) hs hpl).imp fun σ H Q h => ?_
  obtain ⟨w, env, mu, v, mu', S, O, e, q⟩ := h
  unfold eIs at e
  split at e
  · rename_i v1 mu1 em
    split at e
    · rename_i t ht
      cases e
      refine ⟨w, env, mu, v1, _, S, O, em, fun w1 x H1 x1 O1 r1 => ?_⟩
      refine ⟨by show 3 ≤ sizeLine; rw [sizeLine_eq]; decide, fun p hp => ?_⟩
      have O2 := O1.laid (o := .tup [.ty b, .ty c, .ty d]) hp
      obtain ⟨h6, h7⟩ := ty_ok O2 r1 ht
      exact ⟨x, p, [.ty b, .ty c, .ty d], .type t, [.type b, .type c, .type d], _, rfl, upd_same, .cons (.ty b) (.cons (.ty c) (.cons (.ty d) .nil)), h6, kitAny_of (K := X.kc) (ts := [b, c, d]) h7 hb, q w1 _ _ x1 O2 (Rep.bl _)⟩
    · cases e
  · cases e
end
end Vi

set_option Elab.async false
set_option linter.all false
set_option maxRecDepth 100000
set_option maxHeartbeats 4000000
/-! Vi11: small things for printed proofs. -/
namespace Vi
open PySem PySem.Spec PyProof.Rows L2
/-- the values in another order -/
@[simp] def permL (is : List Nat) {α : Type} (l : List α) : List α := is.filterMap fun i => l[i]?
theorem permL_rel (is : List Nat) {α β : Type} {R : α → β → Prop} {xs : List α} {ys : List β} (h : Paired R xs ys) : Paired R (permL is xs) (permL is ys) := by
  induction is with
  | nil => exact .nil
  | cons i is ih =>
    unfold permL at ih ⊢
    rw [List.filterMap_cons, List.filterMap_cons]
    cases e : ys[i]? with
    | none =>
      have : xs[i]? = none := by
        rw [List.getElem?_eq_none_iff] at e ⊢
        rw [Paired.length h]; exact e
      rw [this]; exact ih
    | some y =>
      obtain ⟨x, h1, h2⟩ := Pd.get h e
      rw [h1]; exact .cons h2 ih
def ALen (n : Nat) (a : Ax) : Prop := ∀ env mu vs mu', a env mu = some (vs, mu') → vs.length = n
theorem aLen0 : ALen 0 aNil := fun env mu vs mu' h => by cases h; rfl
theorem aLenS {n : Nat} {m : Ex} {a : Ax} (h : ALen n a) : ALen (n + 1) (aCons m a) := fun env mu vs mu' e => by
  unfold aCons at e
  split at e
  · split at e
    · rename_i e2
      cases e
      rw [List.length_cons, h _ _ _ _ e2]
    · cases e
  · cases e
theorem aLenE {n : Nat} {a : Ax} (h : ALen n a) (hn : n ≤ 1000) : ∀ env mu vs mu', a env mu = some (vs, mu') → vs.length = n ∧ n ≤ 1000 := fun env mu vs mu' e => ⟨h _ _ _ _ e, hn⟩
/-! a call's result handed on -/
@[simp] def eBack (m : Rx) : Ex := fun env mu => match m env mu with
  | some (.v d, mu1) => some (.t d, mu1)
  | some (.fr c, mu1) => some (.lab mu1.length, mu1 ++ [some c])
  | none => none
theorem tE_back {K : Kc} {m : Rx} {σ : L2.St} {H : Hp} {Q : VK} (h : tE K (eBack m) σ H Q) : tR K m σ H Q := by
  obtain ⟨w, env, mu, v, mu', S, O, e, q⟩ := h
  unfold eBack at e
  split at e
  · rename_i d mu1 em
    cases e
    exact ⟨w, env, mu, _, _, S, O, em, fun w1 x H1 x1 O1 ro => q w1 x H1 x1 O1 ro⟩
  · rename_i c mu1 em
    cases e
    refine ⟨w, env, mu, _, _, S, O, em, fun w1 x H1 x1 O1 ro => ?_⟩
    obtain ⟨a, rfl, pc, f, ck⟩ := ro
    refine q { w1 with r := w1.r ++ [a] } _ H1 (x1.trans ⟨Sub.rfl', Sub.rfl', ⟨[a], rfl⟩⟩) (O1.own f ck) ⟨a, ?_, rfl⟩
    show (w1.r ++ [a])[mu1.length]? = some a
    rw [O1.len]
    simp
  · cases e
theorem de_back {X : Cx} {e : Expr} {m : Rx} (h : DR X e m) : DE X e (eBack m) := PE.imp h fun _ _ _ h => tE_back h
end Vi

set_option Elab.async false
set_option linter.all false
set_option maxRecDepth 100000
set_option maxHeartbeats 4000000
/-! Vi12: a law's promise from its meaning. -/
namespace Vi
open PySem PySem.Spec PyProof.Rows L2
theorem rep_ints {K : Kc} {F : Hp} : ∀ ns : List Int, RepAll K F (ns.map V.int) (ns.map .int)
  | [] => .nil
  | n :: ns => .cons (.int n) (rep_ints ns)
theorem law_sp {K : Kc} {m : FnS} {ns : List Int} {a : Addr} {H : Hp} {Q : VK} {E : XK} (hm : m [.b (.list (ns.map .int))] = some (.v (.bool true), [])) (hs : SqL K.k H a (ns.map V.int)) (q : ∀ H', Q (.bl true) H') : spF K m [.ref a] H Q E := by
  refine ⟨⟨fun b => if b = a then H b else none, fun _ => none, []⟩, [.b (.list (ns.map .int))], _, _, ?_, .cons ?_ .nil, rfl, hm, fun w' x H' _ _ _ r => ?_⟩
  · refine ⟨fun b o e => ?_, fun b o e => (by cases e), fun b o e => rfl, rfl, fun l c e => ?_, fun l l' c c' b e => ?_⟩
    · dsimp only at e
      split at e
      · exact e
      · cases e
    · cases e
    · cases e
  · refine .inr (.inl ⟨a, ns.map V.int, ns.map .int, rfl, rfl, .inl ?_, rep_ints ns⟩)
    have e : (fun b => if b = a then H b else none) a = H a := if_pos rfl
    unfold SqL at hs ⊢
    rcases hs with (h | ⟨o, h⟩) | h
    · exact .inl (.inl (e.trans h))
    · exact .inl (.inr ⟨o, e.trans h⟩)
    · exact .inr h
  · cases r
    exact q H'
/-! ### words for simp, without great numbers in tests -/
@[simp] theorem cellT_l {vs : List Val} : cellT (.lst vs) = (datas vs).map .list := rfl
@[simp] theorem cellT_k {kvs : List (T × Val)} : cellT (.dct .k kvs) = (datas (kvs.map (·.2))).map fun ds => .dict ((kvs.map (·.1)).zip ds) := rfl
@[simp] theorem cellT_p {kvs : List (T × Val)} : cellT (.dct .p kvs) = (datas (kvs.map (·.2))).map fun ds => .dict ((kvs.map (·.1)).zip ds) := rfl
@[simp] theorem pure_l {vs : List Val} : Pure (.lst vs) = (datas vs).isSome := by
  unfold Pure
  rw [cellT_l, Option.isSome_map]
@[simp] theorem datas_ts (ds : List T) : datas (ds.map .t) = some ds := datas_map ds
@[simp] theorem gSub_s {i j : Int} {mu : Mu} : gSub (.t (.int i)) (.t (.int j)) mu = some (.t (.int (i - j)), mu) := rfl
@[simp] theorem gLt_s {i j : Int} {mu : Mu} : gLt (.t (.int i)) (.t (.int j)) mu = some (.t (.bool (decide (i < j))), mu) := rfl
@[simp] theorem gLe_s {i j : Int} {mu : Mu} : gLe (.t (.int i)) (.t (.int j)) mu = some (.t (.bool (decide (i ≤ j))), mu) := rfl
@[simp] theorem gGt_s {i j : Int} {mu : Mu} : gGt (.t (.int i)) (.t (.int j)) mu = some (.t (.bool (decide (j < i))), mu) := rfl
@[simp] theorem gGe_s {i j : Int} {mu : Mu} : gGe (.t (.int i)) (.t (.int j)) mu = some (.t (.bool (decide (j ≤ i))), mu) := rfl
@[simp] theorem gMod_s {i j : Int} {mu : Mu} : gMod (.t (.int i)) (.t (.int j)) mu = if 0 < j then some (.t (.int (i % j)), mu) else none := by
  by_cases h : 0 < j <;> simp [gMod, gI, h]
@[simp] theorem gDiv_s {i j : Int} {mu : Mu} : gDiv (.t (.int i)) (.t (.int j)) mu = if 0 < j ∧ j < 1073741824 then some (.t (.int (i / j)), mu) else none := by
  by_cases h : 0 < j ∧ j < 1073741824 <;> simp [gDiv, gI, h]
theorem gMul_r {i j : Int} {mu : Mu} (h : -18446744073709551616 < j ∧ j < 18446744073709551616) : gMul (.t (.int i)) (.t (.int j)) mu = some (.t (.int (i * j)), mu) := by
  have : decide (-(2 ^ 64) < j ∧ j < 2 ^ 64) = true := decide_eq_true h
  simp only [gMul, gI, this, Bool.or_true, if_true]
theorem gMul_l {i j : Int} {mu : Mu} (h : -18446744073709551616 < i ∧ i < 18446744073709551616) : gMul (.t (.int i)) (.t (.int j)) mu = some (.t (.int (i * j)), mu) := by
  have : decide (-(2 ^ 64) < i ∧ i < 2 ^ 64) = true := decide_eq_true h
  simp only [gMul, gI, this, Bool.true_or, if_true]
def gR1 : List Val → Mu → Option (List Val × Mu) := fun vs mu => match vs with
  | [.t (.int j)] => if -(2 ^ 62) ≤ j ∧ j < 2 ^ 62 then some ((rangeL 0 1 j.toNat).map .t, mu) else none
  | _ => none
def gR2 : List Val → Mu → Option (List Val × Mu) := fun vs mu => match vs with
  | [.t (.int i), .t (.int j)] => if -(2 ^ 62) ≤ i ∧ i < 2 ^ 62 ∧ -(2 ^ 62) ≤ j ∧ j < 2 ^ 62 then some ((rangeL i 1 (j - i).toNat).map .t, mu) else none
  | _ => none
def gRD : List Val → Mu → Option (List Val × Mu) := fun vs mu => match vs with
  | [.t (.int i), .t (.int j), .t (.int c)] => if c = -1 ∧ -(2 ^ 62) ≤ i ∧ i < 2 ^ 62 ∧ -(2 ^ 62) ≤ j ∧ j < 2 ^ 62 then some ((rangeL i (-1) (i - j).toNat).map .t, mu) else none
  | _ => none
@[simp] theorem iRng1_s {m : Ax} {env : En} {mu : Mu} : iRng1 m env mu = (match m env mu with
    | some (vs, mu1) => gR1 vs mu1
    | none => none) := by
  unfold iRng1 gR1
  split
  · rename_i e; rw [e]
  · rename_i h
    split
    · rename_i vs mu1 e
      split
      · rename_i j; exact absurd e (h _ _)
      · rfl
    · rfl
@[simp] theorem iRng2_s {m : Ax} {env : En} {mu : Mu} : iRng2 m env mu = (match m env mu with
    | some (vs, mu1) => gR2 vs mu1
    | none => none) := by
  unfold iRng2 gR2
  split
  · rename_i e; rw [e]
  · rename_i h
    split
    · rename_i vs mu1 e
      split
      · rename_i j; exact absurd e (h _ _ _)
      · rfl
    · rfl
@[simp] theorem iRngD_s {m : Ax} {env : En} {mu : Mu} : iRngD m env mu = (match m env mu with
    | some (vs, mu1) => gRD vs mu1
    | none => none) := by
  unfold iRngD gRD
  split
  · rename_i e; rw [e]
  · rename_i h
    split
    · rename_i vs mu1 e
      split
      · rename_i j; exact absurd e (h _ _ _ _)
      · rfl
    · rfl
theorem gR1_ok {j : Int} {mu : Mu} (h0 : -4611686018427387904 ≤ j) (h1 : j < 4611686018427387904) : gR1 [.t (.int j)] mu = some ((rangeL 0 1 j.toNat).map .t, mu) := if_pos ⟨h0, h1⟩
theorem gR2_ok {i j : Int} {mu : Mu} (h0 : -4611686018427387904 ≤ i) (h1 : i < 4611686018427387904) (h2 : -4611686018427387904 ≤ j) (h3 : j < 4611686018427387904) : gR2 [.t (.int i), .t (.int j)] mu = some ((rangeL i 1 (j - i).toNat).map .t, mu) := if_pos ⟨h0, h1, h2, h3⟩
theorem gRD_ok {i j : Int} {mu : Mu} (h0 : -4611686018427387904 ≤ i) (h1 : i < 4611686018427387904) (h2 : -4611686018427387904 ≤ j) (h3 : j < 4611686018427387904) : gRD [.t (.int i), .t (.int j), .t (.int (-1))] mu = some ((rangeL i (-1) (i - j).toNat).map .t, mu) := if_pos ⟨rfl, h0, h1, h2, h3⟩
def gRp (us : List Val) (k : Int) (mu : Mu) : Option (Cell × Mu) := if k ≤ textLine ∧ us.length * k.toNat ≤ textLine ∧ -(2 ^ 63) ≤ k then some (.lst (List.replicate k.toNat us).flatten, mu) else none
@[simp] theorem fRep_s {a b : Ex} {env : En} {mu : Mu} : fRep a b env mu = (match a env mu with
  | some (va, mu1) => (match b env mu1 with
    | some (.t (.int k), mu2) => (match lvM va mu2 with
      | some us => gRp us k mu2
      | none => none)
    | _ => none)
  | none => none) := rfl
theorem gRp_ok {us : List Val} {k : Int} {mu : Mu} (h0 : 0 ≤ k) (h1 : k ≤ 100000) (h2 : us.length * k.toNat ≤ 100000) : gRp us k mu = some (.lst (List.replicate k.toNat us).flatten, mu) := if_pos ⟨h1, h2, Int.le_trans (by decide) h0⟩
end Vi

set_option Elab.async false
set_option linter.all false
set_option maxRecDepth 100000
set_option maxHeartbeats 4000000
/-! Vi13: loops and comprehensions by what they keep. -/
namespace Vi
open PySem PySem.Spec PyProof.Rows L2
theorem lpC_ok {α : Type} (g : α → T) (f : α → Option T) {t : Tn} {c : Tx} {m : Ex} {env0 : En} {mu : Mu} : ∀ {as : List α} {acc : List Val}, (∀ a ∈ as, ∃ env1, tnE t (.t (g a)) env0 = some env1 ∧ (match f a with
    | some y => c env1 mu = some (true, mu) ∧ m env1 mu = some (.t y, mu)
    | none => c env1 mu = some (false, mu))) → acc.length + as.length ≤ textLine → lpC t c m env0 (as.map (Val.t ∘ g)) acc mu = some (acc ++ (as.filterMap f).map .t, mu)
  | [], acc, _, _ => by simp [lpC]
  | a :: as, acc, h, hl => by
    obtain ⟨env1, h1, h2⟩ := h a (List.mem_cons_self ..)
    simp only [List.length_cons] at hl
    have ih := fun acc hl => lpC_ok g f (t := t) (c := c) (m := m) (env0 := env0) (mu := mu) (as := as) (acc := acc) (fun b hb => h b (List.mem_cons_of_mem _ hb)) hl
    simp only [List.map_cons, lpC, Function.comp, h1]
    cases e : f a with
    | none =>
      rw [e] at h2
      dsimp only at h2
      simp only [h2, List.filterMap_cons, e]
      exact ih acc (by omega)
    | some y =>
      rw [e] at h2
      dsimp only at h2
      simp only [h2.1, h2.2, List.filterMap_cons, e]
      rw [if_pos ⟨by unfold textLine at *; omega, rfl⟩, ih (acc ++ [Val.t y]) (by simp; omega)]
      simp
/-- [m for t in it if c], nothing changed on the way -/
theorem fComp_ok {α : Type} (g : α → T) (f : α → Option T) {it : Ix} {t : Tn} {vs : List Nat} {c : Tx} {m : Ex} {env : En} {mu mu1 : Mu} {as : List α} (hit : it env mu = some (as.map (Val.t ∘ g), mu1)) (hs : t.slots.all (fun i => vs.contains i) = true)
    (h : ∀ a ∈ as, ∃ env1, tnE t (.t (g a)) (wipeE env vs) = some env1 ∧ (match f a with
    | some y => c env1 mu1 = some (true, mu1) ∧ m env1 mu1 = some (.t y, mu1)
    | none => c env1 mu1 = some (false, mu1))) (hl : as.length ≤ textLine) : fComp it t vs c m env mu = some (.lst ((as.filterMap f).map .t), mu1) := by
  unfold fComp
  rw [hit]
  dsimp only
  rw [lpC_ok g f h (by simpa using hl)]
  dsimp only
  rw [if_pos hs]
  simp
theorem fComp_map {α : Type} (g : α → T) (f : α → T) {it : Ix} {t : Tn} {vs : List Nat} {m : Ex} {env : En} {mu mu1 : Mu} {as : List α} (hit : it env mu = some (as.map (Val.t ∘ g), mu1)) (hs : t.slots.all (fun i => vs.contains i) = true)
    (h : ∀ a ∈ as, ∃ env1, tnE t (.t (g a)) (wipeE env vs) = some env1 ∧ m env1 mu1 = some (.t (f a), mu1)) (hl : as.length ≤ textLine) : fComp it t vs cYes m env mu = some (.lst ((as.map f).map .t), mu1) := by
  have := fComp_ok g (fun a => some (f a)) (c := cYes) hit hs (fun a ha => by
    obtain ⟨env1, h1, h2⟩ := h a ha
    exact ⟨env1, h1, rfl, h2⟩) hl
  rw [this, List.filterMap_eq_map']
/-- [m for t in it], things may change on the way -/
theorem lpC_ex {t : Tn} {m : Ex} {env0 : En} (P : T → Prop) : ∀ {items acc : List Val} {mu : Mu} (Iv : Nat → Mu → Prop), Iv 0 mu → (∀ i v mu, items[i]? = some v → Iv i mu → ∃ env1 y mu', tnE t v env0 = some env1 ∧ m env1 mu = some (.t y, mu') ∧ P y ∧ Iv (i + 1) mu') →
    acc.length + items.length ≤ textLine → ∃ (ys : List T) (mu' : Mu), lpC t cYes m env0 items acc mu = some (acc ++ ys.map .t, mu') ∧ ys.length = items.length ∧ (∀ y ∈ ys, P y) ∧ Iv items.length mu'
  | [], acc, mu, Iv, h0, _, _ => ⟨[], mu, by simp [lpC], rfl, by simp, h0⟩
  | v :: items, acc, mu, Iv, h0, h, hl => by
    obtain ⟨env1, y, mu1, h1, h2, h3, h4⟩ := h 0 v mu rfl h0
    simp only [List.length_cons] at hl
    obtain ⟨ys, mu2, e, e1, e2, e3⟩ := lpC_ex (t := t) (m := m) (env0 := env0) P (items := items) (acc := acc ++ [Val.t y]) (mu := mu1) (fun i mu => Iv (i + 1) mu) h4 (fun i v mu hi hv => h (i + 1) v mu (by simpa using hi) hv) (by simp; omega)
    refine ⟨y :: ys, mu2, ?_, by simp [e1], ?_, e3⟩
    · simp only [lpC, h1, cYes, h2]
      rw [if_pos ⟨by unfold textLine at *; omega, rfl⟩, e]
      simp
    · intro z hz
      rcases List.mem_cons.mp hz with rfl | hz
      · exact h3
      · exact e2 z hz
theorem fComp_ex (P : T → Prop) {it : Ix} {t : Tn} {vs : List Nat} {m : Ex} {env : En} {mu mu1 : Mu} {items : List Val} (Iv : Nat → Mu → Prop) (hit : it env mu = some (items, mu1)) (hs : t.slots.all (fun i => vs.contains i) = true) (h0 : Iv 0 mu1)
    (h : ∀ i v mu, items[i]? = some v → Iv i mu → ∃ env1 y mu', tnE t v (wipeE env vs) = some env1 ∧ m env1 mu = some (.t y, mu') ∧ P y ∧ Iv (i + 1) mu') (hl : items.length ≤ textLine) :
    ∃ (ys : List T) (mu' : Mu), fComp it t vs cYes m env mu = some (.lst (ys.map .t), mu') ∧ ys.length = items.length ∧ (∀ y ∈ ys, P y) ∧ Iv items.length mu' := by
  obtain ⟨ys, mu2, e, e1, e2, e3⟩ := lpC_ex P (acc := []) Iv h0 h (by simpa using hl)
  refine ⟨ys, mu2, ?_, e1, e2, e3⟩
  unfold fComp
  rw [hit]
  dsimp only
  rw [e]
  dsimp only
  rw [if_pos hs]
  simp
theorem lpFor_inv {t : Tg} {body : Sx} : ∀ {items : List Val} {env : En} {mu : Mu} (Iv : Nat → En → Mu → Prop), Iv 0 env mu → (∀ i v env mu, items[i]? = some v → Iv i env mu → ∃ env1 env2 mu2, t v env = some env1 ∧ body env1 mu = some (.nx env2 mu2) ∧ Iv (i + 1) env2 mu2) →
    ∃ env' mu', lpFor t body items env mu = some (.nx env' mu') ∧ Iv items.length env' mu'
  | [], env, mu, Iv, h0, _ => ⟨env, mu, by simp [lpFor], h0⟩
  | v :: items, env, mu, Iv, h0, h => by
    obtain ⟨env1, env2, mu2, h1, h2, h3⟩ := h 0 v env mu rfl h0
    obtain ⟨env', mu', e, e1⟩ := lpFor_inv (t := t) (body := body) (items := items) (env := env2) (mu := mu2) (fun i => Iv (i + 1)) h3 fun i v env mu hi hv => h (i + 1) v env mu (by simpa using hi) hv
    refine ⟨env', mu', ?_, e1⟩
    simp only [lpFor, h1, h2]
    exact e
theorem sFor_inv {it : Ix} {t : Tg} {body : Sx} {items : List Val} {env : En} {mu mu1 : Mu} (Iv : Nat → En → Mu → Prop) (hit : it env mu = some (items, mu1)) (h0 : Iv 0 env mu1) (h : ∀ i v env mu, items[i]? = some v → Iv i env mu → ∃ env1 env2 mu2, t v env = some env1 ∧ body env1 mu = some (.nx env2 mu2) ∧ Iv (i + 1) env2 mu2) :
    ∃ env' mu', sFor it t body env mu = some (.nx env' mu') ∧ Iv items.length env' mu' := by
  obtain ⟨env', mu', e, e1⟩ := lpFor_inv Iv h0 h
  exact ⟨env', mu', by unfold sFor; rw [hit]; exact e, e1⟩
theorem sFor_eq {it : Ix} {t : Tg} {b : Sx} {env : En} {mu mu1 : Mu} {items : List Val} {r : Option Fl} (h1 : it env mu = some (items, mu1)) (h2 : lpFor t b items env mu1 = r) : sFor it t b env mu = r := by
  unfold sFor
  rw [h1]
  exact h2
/-! ### small -/
theorem bools_map (bs : List Bool) : bools ((bs.map PyData.bool).map .t) = some bs := by
  induction bs with
  | nil => rfl
  | cons b bs ih => simp only [List.map_cons, bools, ih]; rfl
theorem ints_map (ns : List Int) : intsV ((ns.map PyData.int).map .t) = some ns := by
  induction ns with
  | nil => rfl
  | cons b bs ih => simp only [List.map_cons, intsV, ih]; rfl
@[simp] theorem bools_map' (bs : List Bool) : bools (bs.map (Val.t ∘ PyData.bool)) = some bs := by rw [← List.map_map]; exact bools_map bs
@[simp] theorem ints_map' (ns : List Int) : intsV (ns.map (Val.t ∘ PyData.int)) = some ns := by rw [← List.map_map]; exact ints_map ns
@[simp] theorem ints_cons (n : Int) (ns : List Val) : intsV (.t (.int n) :: ns) = (intsV ns).map (n :: ·) := rfl
@[simp] theorem datas_comp {α : Type} (f : α → T) (as : List α) : datas (as.map (Val.t ∘ f)) = some (as.map f) := by rw [← List.map_map]; exact datas_map _
@[simp] theorem plainAll_ints (ns : List Int) : PyData.plainAll (ns.map PyData.int) = true := by
  induction ns with
  | nil => rfl
  | cons n ns ih => simp [PyData.plainAll, PyData.plain, ih]
theorem inL_int (i : Int) (ns : List Int) : inL (.int i) (ns.map .int) = ns.contains i := by
  unfold inL
  induction ns with
  | nil => rfl
  | cons n ns ih =>
    simp only [List.map_cons, List.any_cons, PyData.eqv, ih, List.contains_cons]
    congr 1
    exact Bool.beq_comm
theorem inL_none (ns : List Int) : inL .none (ns.map .int) = false := by
  unfold inL
  induction ns with
  | nil => rfl
  | cons n ns ih => simp only [List.map_cons, List.any_cons, PyData.eqv, ih, Bool.or_false]
theorem distinct_nodup {ns : List Int} (h : ns.Nodup) : distinct ns = ns.length := by
  unfold distinct
  rw [RZ.firstMet_nodup h _ (Nat.le_refl _), List.take_length]
@[simp high] theorem gEq_int {neg : Bool} {i j : Int} {mu : Mu} : gEq neg (.t (.int i)) (.t (.int j)) mu = some (.t (.bool (if neg then !decide (i = j) else decide (i = j))), mu) := by
  have e : (i == j) = decide (i = j) := rfl
  simp only [gEq, rd, PyData.plain, PyData.depth, PyData.eqv, e]
  rfl
theorem gIn_int {neg : Bool} {i : Int} {ns : List Int} {v : Val} {mu : Mu} (h : rd v mu = some (.list (ns.map .int))) : gIn neg (.t (.int i)) v mu = some (.t (.bool (if neg then !ns.contains i else ns.contains i)), mu) := by
  have h0 : rd (.t (.int i)) mu = some (.int i) := rfl
  unfold gIn
  rw [h, h0]
  simp only [PyData.plain, plainAll_ints, PyData.depth, inL_int]
  rfl
theorem gIn_none {neg : Bool} {ns : List Int} {v : Val} {mu : Mu} (h : rd v mu = some (.list (ns.map .int))) : gIn neg (.t .none) v mu = some (.t (.bool (if neg then true else false)), mu) := by
  have h0 : rd (.t .none) mu = some .none := rfl
  unfold gIn
  rw [h, h0]
  simp only [PyData.plain, plainAll_ints, PyData.depth, inL_none]
  rfl
@[simp] theorem datas_append (xs ys : List Val) : datas (xs ++ ys) = (datas xs).bind fun a => (datas ys).map (a ++ ·) := by
  induction xs with
  | nil => simp [datas]
  | cons x xs ih =>
    cases x with
    | t d =>
      simp only [List.cons_append, datas, ih]
      cases datas xs <;> cases datas ys <;> simp
    | bor d => simp [datas]
    | lab l => simp [datas]
@[simp] theorem intsV_append (xs ys : List Val) : intsV (xs ++ ys) = (intsV xs).bind fun a => (intsV ys).map (a ++ ·) := by
  induction xs with
  | nil => simp [intsV]
  | cons x xs ih =>
    cases x with
    | t d =>
      cases d with
      | int i =>
        simp only [List.cons_append, intsV, ih]
        cases intsV xs <;> cases intsV ys <;> simp
      | _ => simp [intsV]
    | bor d => simp [intsV]
    | lab l => simp [intsV]
/-- all([m for t in it]) -/
theorem all_ok {α : Type} (g : α → T) (p : α → Bool) {it : Ix} {t : Tn} {vs : List Nat} {m : Ex} {env : En} {mu mu1 : Mu} {as : List α} (hit : it env mu = some (as.map (Val.t ∘ g), mu1)) (hs : t.slots.all (fun i => vs.contains i) = true)
    (h : ∀ a ∈ as, ∃ env1, tnE t (.t (g a)) (wipeE env vs) = some env1 ∧ m env1 mu1 = some (.t (.bool (p a)), mu1)) (hl : as.length ≤ textLine) : fComp it t vs cYes m env mu = some (.lst ((as.map p).map (Val.t ∘ PyData.bool)), mu1) := by
  rw [fComp_map g (fun a => PyData.bool (p a)) hit hs h hl]
  simp [Function.comp]
end Vi

set_option Elab.async false
set_option linter.all false
set_option maxRecDepth 100000
set_option maxHeartbeats 0

namespace HdK
open PySem PySem.Spec PyProof.Rows L2
def top (i : Nat) : Stmt := PySem.Challenge.pw_allmayedit_k52_whole_changes_left_out.main.body.getD i (.Pass ⟨0, 0, 0, 0⟩)
abbrev mkD (x : Str) (i : Nat) (dfl : List He.Dv) : He.DefD := ⟨(x, none), x, x, defArgs (top i), defBody (top i), defScope (top i), dfl, []⟩
def fn : List He.DefD := [
  mkD "is_whole" 6 [],
  mkD "is_count" 7 [.int (0)],
  mkD "is_text" 8 [],
  mkD "is_line" 9 [],
  mkD "is_tuple_of" 10 [],
  mkD "check_count" 11 [.int (0), .non],
  mkD "is_lines" 16 [],
  mkD "check_lines" 17 [],
  mkD "most_behind" 18 [],
  mkD "longest_row" 19 [],
  mkD "common_row" 20 [],
  mkD "is_thread" 22 [],
  mkD "is_weave" 23 [],
  mkD "check_weave" 24 [],
  mkD "check_numbers" 25 [],
  mkD "stands_at" 26 [],
  mkD "greatest_number" 27 [],
  mkD "lines_at" 28 [],
  mkD "last_change" 29 [],
  mkD "woven_on" 30 [],
  mkD "is_list_of_lines" 31 [],
  mkD "woven_lines" 32 [],
  mkD "all_left_out" 33 [],
  mkD "left_out" 34 [],
  mkD "lines_by" 35 [],
  mkD "_law_purse" 37 [],
  mkD "_law_mixed" 38 [],
  mkD "_law_draw" 39 [],
  mkD "_law_one_of" 40 [],
  mkD "_law_shuffled" 41 [],
  mkD "_law_plain" 42 [],
  mkD "_law_same" 43 [],
  mkD "_law_line" 44 [],
  mkD "_law_turned" 45 [],
  mkD "_law_lists" 46 [],
  mkD "_law_at" 47 [],
  mkD "_law_last" 48 [],
  mkD "_law_weave" 49 [],
  mkD "_law_without" 50 [],
  mkD "_law_numbers" 51 [],
  mkD "_law_joined" 52 [],
  mkD "_law_right" 53 [],
  mkD "law" 54 []]
def fa : List He.Fa := ([.glo "is_whole", .glo "is_count", .glo "is_text", .glo "is_line", .glo "is_tuple_of", .glo "check_count", .glo "is_lines", .glo "check_lines", .glo "most_behind", .glo "longest_row", .glo "common_row", .glo "is_thread", .glo "is_weave", .glo "check_weave", .glo "check_numbers", .glo "stands_at", .glo "greatest_number", .glo "lines_at", .glo "last_change", .glo "woven_on", .glo "is_list_of_lines", .glo "woven_lines", .glo "all_left_out", .glo "left_out", .glo "lines_by", .glo "_law_purse", .glo "_law_mixed", .glo "_law_draw", .glo "_law_one_of", .glo "_law_shuffled", .glo "_law_plain", .glo "_law_same", .glo "_law_line", .glo "_law_turned", .glo "_law_lists", .glo "_law_at", .glo "_law_last", .glo "_law_weave", .glo "_law_without", .glo "_law_numbers"] : List He.Fa) ++ ([.glo "_law_joined", .glo "_law_right", .glo "law", .free "ValueError", .free "all", .free "bool", .free "dict", .free "enumerate", .free "int", .free "isinstance", .free "len", .free "list", .free "max", .free "range", .free "set", .free "str", .free "sum", .free "tuple", .free "zip"] : List He.Fa)
def nm0 : List PySem.Str := [("WikiError" : PySem.Str), ("InvalidCount" : PySem.Str), ("InvalidLists" : PySem.Str), ("InvalidNumbers" : PySem.Str), ("is_whole" : PySem.Str), ("is_count" : PySem.Str), ("is_text" : PySem.Str), ("is_line" : PySem.Str), ("is_tuple_of" : PySem.Str), ("check_count" : PySem.Str), ("InvalidLines" : PySem.Str), ("InvalidWeave" : PySem.Str), ("is_lines" : PySem.Str), ("check_lines" : PySem.Str), ("most_behind" : PySem.Str), ("longest_row" : PySem.Str), ("common_row" : PySem.Str), ("is_thread" : PySem.Str), ("is_weave" : PySem.Str), ("check_weave" : PySem.Str), ("check_numbers" : PySem.Str), ("stands_at" : PySem.Str), ("greatest_number" : PySem.Str), ("lines_at" : PySem.Str), ("last_change" : PySem.Str), ("woven_on" : PySem.Str), ("is_list_of_lines" : PySem.Str), ("woven_lines" : PySem.Str), ("all_left_out" : PySem.Str), ("left_out" : PySem.Str)]
def nm1 : List PySem.Str := [("lines_by" : PySem.Str), ("_law_purse" : PySem.Str), ("_law_mixed" : PySem.Str), ("_law_draw" : PySem.Str), ("_law_one_of" : PySem.Str), ("_law_shuffled" : PySem.Str), ("_law_plain" : PySem.Str), ("_law_same" : PySem.Str), ("_law_line" : PySem.Str), ("_law_turned" : PySem.Str), ("_law_lists" : PySem.Str), ("_law_at" : PySem.Str), ("_law_last" : PySem.Str), ("_law_weave" : PySem.Str), ("_law_without" : PySem.Str), ("_law_numbers" : PySem.Str), ("_law_joined" : PySem.Str), ("_law_right" : PySem.Str)]
def names : List PySem.Str := nm0 ++ nm1
abbrev R : PySem.W.OpenRow := PySem.W.OpenLaw.row PySem.Challenge.rw_allmayedit_k52_whole_changes_left_out
abbrev hk : PySem.W.Hook := He.hookD 4 fa fn
def ob (s : PySem.W.SharedT) : He.AlD := He.obsDG 4 fa fn (HandSHeadRun.getT s)
theorem ob_eq (s : PySem.W.SharedT) : ob s = hk.obs s.abs := He.obsDG_eq (HandSHeadRun.getT_eq s)
theorem run (w : World) : HandSHeadRun.RunEq R (PySem.W.view R.prog [54]) hk ob 3000 names w := by
  intro os
  kernel_rfl
end HdK

set_option Elab.async false
set_option linter.all false
set_option maxRecDepth 100000
set_option maxHeartbeats 4000000
namespace HdK
open PySem PySem.Spec PyProof.Rows L2 Vi
def A_b_is_whole : Sx := (sRet (eAnd (eIs ["int"] (eVar 0)) (eNot (eIs ["bool"] (eVar 0)))))
def b_is_whole : Sx := A_b_is_whole 
def m_is_whole : FnS := fnS 1 1 b_is_whole
def A_b_is_count (m_is_whole : FnS) : Sx := (sRet (eAnd (eRet (rCall m_is_whole [.b] (aCons (eVar 0) aNil))) (eOp gGe (eVar 0) (eCB gMax2 (aCons (eVar 1) (aCons (eC (.int 0)) aNil))))))
def b_is_count : Sx := A_b_is_count m_is_whole
def m_is_count : FnS := fnS 2 2 b_is_count
def A_lm_is_text_1 : Ex := (eOr (eChain gLeV gLeV (eC (.str " ")) (eVar 1) (eC (.str "~"))) (eOp (gEq false) (eVar 1) (eC (.str "\n"))))
def lm_is_text_1 : Ex := A_lm_is_text_1 
def A_l_is_text_1 (lm_is_text_1 : Ex) : Fx := (fComp (iTxt (eVar 0)) (.nm 1) [1] cYes lm_is_text_1)
def l_is_text_1 : Fx := A_l_is_text_1 lm_is_text_1
def A_b_is_text (l_is_text_1 : Fx) : Sx := (sRet (eAnd (eIs ["str"] (eVar 0)) (eCB (gB fun bs => bs.all id) (aCons (eFr l_is_text_1) aNil))))
def b_is_text : Sx := A_b_is_text l_is_text_1
def m_is_text : FnS := fnS 1 2 b_is_text
def A_b_is_line (m_is_text : FnS) : Sx := (sRet (eAnd (eRet (rCall m_is_text [.b] (aCons (eVar 0) aNil))) (eOp (gIn true) (eC (.str "\n")) (eVar 0))))
def b_is_line : Sx := A_b_is_line m_is_text
def m_is_line : FnS := fnS 1 1 b_is_line
def A_b_is_tuple_of : Sx := (sRet (eAnd (eIs ["tuple"] (eVar 0)) (eOp (gEq false) (eCB gLen (aCons (eVar 0) aNil)) (eVar 1))))
def b_is_tuple_of : Sx := A_b_is_tuple_of 
def m_is_tuple_of : FnS := fnS 2 2 b_is_tuple_of
def A_b_check_count (m_is_count : FnS) : Sx := (sIf (cOr (cNot (cB (eRet (rCall m_is_count [.b, .b] (aCons (eVar 0) (aCons (eVar 1) aNil)))))) (cAnd (cB (eOp (gIsN false) (eVar 2) (eC (.none)))) (cB (eOp gGe (eVar 0) (eVar 2))))) sNever sNext)
def b_check_count : Sx := A_b_check_count m_is_count
def m_check_count : FnS := fnS 3 3 b_check_count
def A_lm_is_lines_1 (m_is_line : FnS) : Ex := (eRet (rCall m_is_line [.b] (aCons (eVar 1) aNil)))
def lm_is_lines_1 : Ex := A_lm_is_lines_1 m_is_line
def A_l_is_lines_1 (lm_is_lines_1 : Ex) : Fx := (fComp (iLst (eVar 0)) (.nm 1) [1] cYes lm_is_lines_1)
def l_is_lines_1 : Fx := A_l_is_lines_1 lm_is_lines_1
def A_b_is_lines (l_is_lines_1 : Fx) : Sx := (sRet (eAnd (eIs ["list"] (eVar 0)) (eCB (gB fun bs => bs.all id) (aCons (eFr l_is_lines_1) aNil))))
def b_is_lines : Sx := A_b_is_lines l_is_lines_1
def m_is_lines : FnS := fnS 1 2 b_is_lines
def A_b_check_lines (m_is_lines : FnS) : Sx := (sIf (cNot (cB (eRet (rCall m_is_lines [.b] (aCons (eVar 0) aNil))))) sNever sNext)
def b_check_lines : Sx := A_b_check_lines m_is_lines
def m_check_lines : FnS := fnS 1 1 b_check_lines
def A_lb_most_behind_1 : Sx := (sSeq (sSub (eVar 4) (eVar 5) (eCB gMax2 (aCons (eOp gIx (eVar 4) (eOp gAdd (eVar 5) (eC (.int 1)))) (aCons (eOp gIx (eOp gIx (eVar 2) (eNeg (eC (.int 1)))) (eVar 5)) aNil)))) (sIf (cB (eOp (gEq false) (eVar 3) (eOp gIx (eVar 1) (eVar 5)))) (sSub (eVar 4) (eVar 5) (eOp gAdd (eOp gIx (eOp gIx (eVar 2) (eNeg (eC (.int 1)))) (eOp gAdd (eVar 5) (eC (.int 1)))) (eC (.int 1)))) sNext))
def lb_most_behind_1 : Sx := A_lb_most_behind_1 
def A_l_most_behind_1 (lb_most_behind_1 : Sx) : Sx := (sFor (iRngD (aCons (eOp gSub (eCB gLen (aCons (eVar 1) aNil)) (eC (.int 1))) (aCons (eNeg (eC (.int 1))) (aCons (eNeg (eC (.int 1))) aNil)))) (gtName 5) lb_most_behind_1)
def l_most_behind_1 : Sx := A_l_most_behind_1 lb_most_behind_1
def A_lb_most_behind_2 (l_most_behind_1 : Sx) : Sx := (sSeq (sSet 4 (eOwn (fRep (eFr (fLst (aCons (eC (.int 0)) aNil))) (eOp gAdd (eCB gLen (aCons (eVar 1) aNil)) (eC (.int 1)))))) (sSeq l_most_behind_1 (sDrop (eMt gApp (eVar 2) (aCons (eFz (eVar 4)) aNil)))))
def lb_most_behind_2 : Sx := A_lb_most_behind_2 l_most_behind_1
def A_l_most_behind_2 (lb_most_behind_2 : Sx) : Sx := (sFor (iLst (eFr (fRev (eVar 0)))) (gtName 3) lb_most_behind_2)
def l_most_behind_2 : Sx := A_l_most_behind_2 lb_most_behind_2
def A_b_most_behind (l_most_behind_2 : Sx) : Sx := (sSeq (sSet 2 (eOwn (fLst (aCons (eFr (fRep (eFr (fLst (aCons (eC (.int 0)) aNil))) (eOp gAdd (eCB gLen (aCons (eVar 1) aNil)) (eC (.int 1))))) aNil)))) (sSeq l_most_behind_2 (sRet (eOwn (fRev (eVar 2))))))
def b_most_behind : Sx := A_b_most_behind l_most_behind_2
def m_most_behind : FnS := fnS 2 6 b_most_behind
def A_lc_longest_row_1 : Tx := (cAnd (cB (eOp (gEq false) (eVar 6) (eOp gIx (eVar 1) (eVar 9)))) (cB (eOp (gEq false) (eOp gIx (eOp gIx (eVar 2) (eOp gAdd (eVar 5) (eC (.int 1)))) (eOp gAdd (eVar 9) (eC (.int 1)))) (eOp gSub (eVar 7) (eC (.int 1))))))
def lc_longest_row_1 : Tx := A_lc_longest_row_1 
def A_lm_longest_row_1 : Ex := (eVar 9)
def lm_longest_row_1 : Ex := A_lm_longest_row_1 
def A_l_longest_row_1 (lc_longest_row_1 : Tx) (lm_longest_row_1 : Ex) : Fx := (fComp (iRng2 (aCons (eVar 4) (aCons (eCB gLen (aCons (eVar 1) aNil)) aNil))) (.nm 9) [9] lc_longest_row_1 lm_longest_row_1)
def l_longest_row_1 : Fx := A_l_longest_row_1 lc_longest_row_1 lm_longest_row_1
def A_lb_longest_row_2 (l_longest_row_1 : Fx) : Sx := (sSeq (sSet 7 (eOp gSub (eOp gIx (eOp gIx (eVar 2) (eC (.int 0))) (eC (.int 0))) (eCB gLen (aCons (eVar 3) aNil)))) (sSeq (sSet 8 (eKeep false l_longest_row_1)) (sIf (cB (eOp (gEq true) (eVar 8) (eFr (fLst aNil)))) (sSeq (sDrop (eMt gApp (eVar 3) (aCons (eTup (aCons (eVar 5) (aCons (eOp gIx (eVar 8) (eC (.int 0))) aNil))) aNil))) (sSet 4 (eOp gAdd (eOp gIx (eVar 8) (eC (.int 0))) (eC (.int 1))))) sNext)))
def lb_longest_row_2 : Sx := A_lb_longest_row_2 l_longest_row_1
def A_l_longest_row_2 (lb_longest_row_2 : Sx) : Sx := (sFor (iEnm (eVar 0)) (gtTup 2 (gtCons (gtName 5) (gtCons (gtName 6) gtNil))) lb_longest_row_2)
def l_longest_row_2 : Sx := A_l_longest_row_2 lb_longest_row_2
def A_b_longest_row (m_most_behind : FnS) (l_longest_row_2 : Sx) : Sx := (sSeq (sSet 2 (eRet (rCall m_most_behind [.b, .b] (aCons (eVar 0) (aCons (eVar 1) aNil))))) (sSeq (sSet 3 (eOwn (fLst aNil))) (sSeq (sSet 4 (eC (.int 0))) (sSeq l_longest_row_2 (sRet (eVar 3))))))
def b_longest_row : Sx := A_b_longest_row m_most_behind l_longest_row_2
def m_longest_row : FnS := fnS 2 10 b_longest_row
def A_b_common_row (m_check_lines : FnS) (m_longest_row : FnS) : Sx := (sSeq (sDrop (eRet (rCall m_check_lines [.b] (aCons (eVar 0) aNil)))) (sSeq (sDrop (eRet (rCall m_check_lines [.b] (aCons (eVar 1) aNil)))) (sRet (eBack (rCall m_longest_row [.b, .b] (aCons (eVar 0) (aCons (eVar 1) aNil)))))))
def b_common_row : Sx := A_b_common_row m_check_lines m_longest_row
def m_common_row : FnS := fnS 2 2 b_common_row
def A_b_is_thread (m_is_tuple_of : FnS) (m_is_line : FnS) (m_is_count : FnS) : Sx := (sSeq (sIf (cOr (cNot (cB (eRet (rCall m_is_tuple_of [.b, .b] (aCons (eVar 0) (aCons (eC (.int 3)) aNil)))))) (cOr (cNot (cB (eRet (rCall m_is_line [.b] (aCons (eOp gIx (eVar 0) (eC (.int 0))) aNil))))) (cNot (cB (eRet (rCall m_is_count [.b, .b] (aDef (aCons (eOp gIx (eVar 0) (eC (.int 1))) aNil) [.int 0]))))))) (sRet (eC (.bool false))) sNext) (sRet (eOr (eOp (gIsN true) (eOp gIx (eVar 0) (eC (.int 2))) (eC (.none))) (eRet (rCall m_is_count [.b, .b] (aCons (eOp gIx (eVar 0) (eC (.int 2))) (aCons (eOp gAdd (eOp gIx (eVar 0) (eC (.int 1))) (eC (.int 1))) aNil)))))))
def b_is_thread : Sx := A_b_is_thread m_is_tuple_of m_is_line m_is_count
def m_is_thread : FnS := fnS 1 1 b_is_thread
def A_lm_is_weave_1 (m_is_thread : FnS) : Ex := (eRet (rCall m_is_thread [.b] (aCons (eVar 1) aNil)))
def lm_is_weave_1 : Ex := A_lm_is_weave_1 m_is_thread
def A_l_is_weave_1 (lm_is_weave_1 : Ex) : Fx := (fComp (iLst (eVar 0)) (.nm 1) [1] cYes lm_is_weave_1)
def l_is_weave_1 : Fx := A_l_is_weave_1 lm_is_weave_1
def A_b_is_weave (l_is_weave_1 : Fx) : Sx := (sRet (eAnd (eIs ["list"] (eVar 0)) (eCB (gB fun bs => bs.all id) (aCons (eFr l_is_weave_1) aNil))))
def b_is_weave : Sx := A_b_is_weave l_is_weave_1
def m_is_weave : FnS := fnS 1 2 b_is_weave
def A_b_check_weave (m_is_weave : FnS) : Sx := (sIf (cNot (cB (eRet (rCall m_is_weave [.b] (aCons (eVar 0) aNil))))) sNever sNext)
def b_check_weave : Sx := A_b_check_weave m_is_weave
def m_check_weave : FnS := fnS 1 1 b_check_weave
def A_lm_check_numbers_1 (m_is_count : FnS) : Ex := (eRet (rCall m_is_count [.b, .b] (aCons (eVar 1) (aCons (eC (.int 1)) aNil))))
def lm_check_numbers_1 : Ex := A_lm_check_numbers_1 m_is_count
def A_l_check_numbers_1 (lm_check_numbers_1 : Ex) : Fx := (fComp (iLst (eVar 0)) (.nm 1) [1] cYes lm_check_numbers_1)
def l_check_numbers_1 : Fx := A_l_check_numbers_1 lm_check_numbers_1
def A_b_check_numbers (l_check_numbers_1 : Fx) : Sx := (sSeq (sIf (cOr (cNot (cB (eIs ["list"] (eVar 0)))) (cNot (cB (eCB (gB fun bs => bs.all id) (aCons (eFr l_check_numbers_1) aNil))))) sNever sNext) (sIf (cB (eOp gLt (eLenSet (eVar 0)) (eCB gLen (aCons (eVar 0) aNil)))) sNever sNext))
def b_check_numbers : Sx := A_b_check_numbers l_check_numbers_1
def m_check_numbers : FnS := fnS 1 2 b_check_numbers
def A_b_stands_at : Sx := (sRet (eAnd (eOp gLe (eOp gIx (eVar 0) (eC (.int 1))) (eVar 1)) (eOr (eOp (gIsN true) (eOp gIx (eVar 0) (eC (.int 2))) (eC (.none))) (eOp gGt (eOp gIx (eVar 0) (eC (.int 2))) (eVar 1)))))
def b_stands_at : Sx := A_b_stands_at 
def m_stands_at : FnS := fnS 2 2 b_stands_at
def A_lm_greatest_number_1 : Ex := (eIf (cB (eOp (gIsN true) (eVar 3) (eC (.none)))) (eVar 2) (eVar 3))
def lm_greatest_number_1 : Ex := A_lm_greatest_number_1 
def A_l_greatest_number_1 (lm_greatest_number_1 : Ex) : Fx := (fComp (iLst (eVar 0)) (.tp [1, 2, 3]) [1, 2, 3] cYes lm_greatest_number_1)
def l_greatest_number_1 : Fx := A_l_greatest_number_1 lm_greatest_number_1
def A_b_greatest_number (l_greatest_number_1 : Fx) : Sx := (sRet (eCB gMaxL (aCons (eFr (fCat (eFr (fLst (aCons (eC (.int 0)) aNil))) (eFr l_greatest_number_1))) aNil)))
def b_greatest_number : Sx := A_b_greatest_number l_greatest_number_1
def m_greatest_number : FnS := fnS 1 4 b_greatest_number
def A_lc_lines_at_1 (m_stands_at : FnS) : Tx := (cB (eRet (rCall m_stands_at [.b, .b] (aCons (eVar 2) (aCons (eVar 1) aNil)))))
def lc_lines_at_1 : Tx := A_lc_lines_at_1 m_stands_at
def A_lm_lines_at_1 : Ex := (eOp gIx (eVar 2) (eC (.int 0)))
def lm_lines_at_1 : Ex := A_lm_lines_at_1 
def A_l_lines_at_1 (lc_lines_at_1 : Tx) (lm_lines_at_1 : Ex) : Fx := (fComp (iLst (eVar 0)) (.nm 2) [2] lc_lines_at_1 lm_lines_at_1)
def l_lines_at_1 : Fx := A_l_lines_at_1 lc_lines_at_1 lm_lines_at_1
def A_b_lines_at (m_check_weave : FnS) (m_check_count : FnS) (l_lines_at_1 : Fx) : Sx := (sSeq (sDrop (eRet (rCall m_check_weave [.b] (aCons (eVar 0) aNil)))) (sSeq (sDrop (eRet (rCall m_check_count [.b, .b, .b] (aDef (aCons (eVar 1) aNil) [.int 0, .none])))) (sRet (eOwn l_lines_at_1))))
def b_lines_at : Sx := A_b_lines_at m_check_weave m_check_count l_lines_at_1
def m_lines_at : FnS := fnS 2 3 b_lines_at
def A_b_last_change (m_check_weave : FnS) (m_greatest_number : FnS) : Sx := (sSeq (sDrop (eRet (rCall m_check_weave [.b] (aCons (eVar 0) aNil)))) (sRet (eBack (rCall m_greatest_number [.b] (aCons (eVar 0) aNil)))))
def b_last_change : Sx := A_b_last_change m_check_weave m_greatest_number
def m_last_change : FnS := fnS 1 1 b_last_change
def A_lc_woven_on_1 (m_stands_at : FnS) : Tx := (cB (eRet (rCall m_stands_at [.b, .b] (aCons (eVar 11) (aCons (eOp gSub (eVar 2) (eC (.int 1))) aNil)))))
def lc_woven_on_1 : Tx := A_lc_woven_on_1 m_stands_at
def A_lm_woven_on_1 : Ex := (eVar 10)
def lm_woven_on_1 : Ex := A_lm_woven_on_1 
def A_l_woven_on_1 (lc_woven_on_1 : Tx) (lm_woven_on_1 : Ex) : Fx := (fComp (iEnm (eVar 0)) (.tp [10, 11]) [10, 11] lc_woven_on_1 lm_woven_on_1)
def l_woven_on_1 : Fx := A_l_woven_on_1 lc_woven_on_1 lm_woven_on_1
def A_lm_woven_on_2 : Ex := (eOp gIx (eOp gIx (eVar 0) (eVar 10)) (eC (.int 0)))
def lm_woven_on_2 : Ex := A_lm_woven_on_2 
def A_l_woven_on_2 (lm_woven_on_2 : Ex) : Fx := (fComp (iLst (eVar 3)) (.nm 10) [10] cYes lm_woven_on_2)
def l_woven_on_2 : Fx := A_l_woven_on_2 lm_woven_on_2
def A_lk_woven_on_3 : Ex := (eVar 8)
def lk_woven_on_3 : Ex := A_lk_woven_on_3 
def A_lm_woven_on_3 : Ex := (eOp gIx (eVar 3) (eVar 12))
def lm_woven_on_3 : Ex := A_lm_woven_on_3 
def A_l_woven_on_3 (m_common_row : FnS) (l_woven_on_2 : Fx) (lk_woven_on_3 : Ex) (lm_woven_on_3 : Ex) : Fx := (fDcomp (iLst (eRet (rCall m_common_row [.b, .b] (aCons (eFr l_woven_on_2) (aCons (eVar 1) aNil))))) (.tp [12, 8]) [12, 8] cYes lk_woven_on_3 lm_woven_on_3)
def l_woven_on_3 : Fx := A_l_woven_on_3 m_common_row l_woven_on_2 lk_woven_on_3 lm_woven_on_3
def A_lb_woven_on_4 : Sx := (sIf (cB (eDin false (eVar 8) (eVar 4))) (sSeq (sSet 7 (eDget (eVar 4) (eVar 8))) (sDput (eVar 6) (eVar 7) (eOwn (fLst aNil)))) (sDrop (eMt gApp (eDget (eVar 6) (eVar 7)) (aCons (eTup (aCons (eVar 9) (aCons (eVar 2) (aCons (eC (.none)) aNil)))) aNil))))
def lb_woven_on_4 : Sx := A_lb_woven_on_4 
def A_l_woven_on_4 (lb_woven_on_4 : Sx) : Sx := (sFor (iEnm (eVar 1)) (gtTup 2 (gtCons (gtName 8) (gtCons (gtName 9) gtNil))) lb_woven_on_4)
def l_woven_on_4 : Sx := A_l_woven_on_4 lb_woven_on_4
def A_lb_woven_on_5 (m_stands_at : FnS) : Sx := (sSeq (sIf (cAnd (cB (eRet (rCall m_stands_at [.b, .b] (aCons (eVar 11) (aCons (eOp gSub (eVar 2) (eC (.int 1))) aNil))))) (cB (eDin true (eVar 10) (eVar 6)))) (sSet 11 (eTup (aCons (eOp gIx (eVar 11) (eC (.int 0))) (aCons (eOp gIx (eVar 11) (eC (.int 1))) (aCons (eVar 2) aNil))))) sNext) (sSet 5 (eFr (fCat (eFr (fCat (eVar 5) (eFr (fLst (aCons (eVar 11) aNil))))) (eDget2 (eVar 6) (eVar 10) (eFr (fLst aNil)))))))
def lb_woven_on_5 : Sx := A_lb_woven_on_5 m_stands_at
def A_l_woven_on_5 (lb_woven_on_5 : Sx) : Sx := (sFor (iEnm (eVar 0)) (gtTup 2 (gtCons (gtName 10) (gtCons (gtName 11) gtNil))) lb_woven_on_5)
def l_woven_on_5 : Sx := A_l_woven_on_5 lb_woven_on_5
def A_b_woven_on (l_woven_on_1 : Fx) (l_woven_on_3 : Fx) (l_woven_on_4 : Sx) (l_woven_on_5 : Sx) : Sx := (sSeq (sSet 3 (eFr l_woven_on_1)) (sSeq (sSet 4 (eKeep true l_woven_on_3)) (sSeq (sPar (aCons (eOwn (fNdisp (eOwn (fLst aNil)))) (aCons (eC (.none)) aNil)) (gtCons (gtName 6) (gtCons (gtName 7) gtNil))) (sSeq l_woven_on_4 (sSeq (sSet 5 (eDget (eVar 6) (eC (.none)))) (sSeq l_woven_on_5 (sRet (eVar 5))))))))
def b_woven_on : Sx := A_b_woven_on l_woven_on_1 l_woven_on_3 l_woven_on_4 l_woven_on_5
def m_woven_on : FnS := fnS 3 13 b_woven_on
def A_lm_is_list_of_lines_1 (m_is_line : FnS) : Ex := (eRet (rCall m_is_line [.b] (aCons (eVar 1) aNil)))
def lm_is_list_of_lines_1 : Ex := A_lm_is_list_of_lines_1 m_is_line
def A_l_is_list_of_lines_1 (lm_is_list_of_lines_1 : Ex) : Fx := (fComp (iLst (eVar 0)) (.nm 1) [1] cYes lm_is_list_of_lines_1)
def l_is_list_of_lines_1 : Fx := A_l_is_list_of_lines_1 lm_is_list_of_lines_1
def A_b_is_list_of_lines (l_is_list_of_lines_1 : Fx) : Sx := (sRet (eAnd (eIs ["list"] (eVar 0)) (eCB (gB fun bs => bs.all id) (aCons (eFr l_is_list_of_lines_1) aNil))))
def b_is_list_of_lines : Sx := A_b_is_list_of_lines l_is_list_of_lines_1
def m_is_list_of_lines : FnS := fnS 1 2 b_is_list_of_lines
def A_lm_woven_lines_1 (m_is_list_of_lines : FnS) : Ex := (eRet (rCall m_is_list_of_lines [.b] (aCons (eVar 4) aNil)))
def lm_woven_lines_1 : Ex := A_lm_woven_lines_1 m_is_list_of_lines
def A_l_woven_lines_1 (lm_woven_lines_1 : Ex) : Fx := (fComp (iLst (eVar 0)) (.nm 4) [4] cYes lm_woven_lines_1)
def l_woven_lines_1 : Fx := A_l_woven_lines_1 lm_woven_lines_1
def A_lm_woven_lines_2 : Ex := (eTup (aCons (eVar 3) (aCons (eC (.int 0)) (aCons (eC (.none)) aNil))))
def lm_woven_lines_2 : Ex := A_lm_woven_lines_2 
def A_l_woven_lines_2 (lm_woven_lines_2 : Ex) : Fx := (fComp (iLst (eOp gIx (eVar 0) (eC (.int 0)))) (.nm 3) [3] cYes lm_woven_lines_2)
def l_woven_lines_2 : Fx := A_l_woven_lines_2 lm_woven_lines_2
def A_lb_woven_lines_3 (m_woven_on : FnS) : Sx := (sSet 1 (eRet (rCall m_woven_on [.b, .b, .f] (aCons (eVar 1) (aCons (eOp gIx (eVar 0) (eVar 2)) (aCons (eVar 2) aNil))))))
def lb_woven_lines_3 : Sx := A_lb_woven_lines_3 m_woven_on
def A_l_woven_lines_3 (lb_woven_lines_3 : Sx) : Sx := (sFor (iRng2 (aCons (eC (.int 1)) (aCons (eCB gLen (aCons (eVar 0) aNil)) aNil))) (gtName 2) lb_woven_lines_3)
def l_woven_lines_3 : Sx := A_l_woven_lines_3 lb_woven_lines_3
def A_b_woven_lines (l_woven_lines_1 : Fx) (l_woven_lines_2 : Fx) (l_woven_lines_3 : Sx) : Sx := (sSeq (sIf (cOr (cNot (cB (eIs ["list"] (eVar 0)))) (cOr (cB (eOp (gEq false) (eVar 0) (eFr (fLst aNil)))) (cNot (cB (eCB (gB fun bs => bs.all id) (aCons (eFr l_woven_lines_1) aNil)))))) sNever sNext) (sSeq (sSet 1 (eKeep false l_woven_lines_2)) (sSeq l_woven_lines_3 (sRet (eVar 1)))))
def b_woven_lines : Sx := A_b_woven_lines l_woven_lines_1 l_woven_lines_2 l_woven_lines_3
def m_woven_lines : FnS := fnS 1 5 b_woven_lines
def A_lc_all_left_out_1 : Tx := (cB (eOp (gIn true) (eVar 3) (eVar 1)))
def lc_all_left_out_1 : Tx := A_lc_all_left_out_1 
def A_lm_all_left_out_1 : Ex := (eTup (aCons (eVar 2) (aCons (eVar 3) (aCons (eIf (cB (eOp (gIn false) (eVar 4) (eVar 1))) (eC (.none)) (eVar 4)) aNil))))
def lm_all_left_out_1 : Ex := A_lm_all_left_out_1 
def A_l_all_left_out_1 (lc_all_left_out_1 : Tx) (lm_all_left_out_1 : Ex) : Fx := (fComp (iLst (eVar 0)) (.tp [2, 3, 4]) [2, 3, 4] lc_all_left_out_1 lm_all_left_out_1)
def l_all_left_out_1 : Fx := A_l_all_left_out_1 lc_all_left_out_1 lm_all_left_out_1
def A_b_all_left_out (l_all_left_out_1 : Fx) : Sx := (sRet (eOwn l_all_left_out_1))
def b_all_left_out : Sx := A_b_all_left_out l_all_left_out_1
def m_all_left_out : FnS := fnS 2 5 b_all_left_out
def A_b_left_out (m_check_weave : FnS) (m_check_numbers : FnS) (m_all_left_out : FnS) : Sx := (sSeq (sDrop (eRet (rCall m_check_weave [.b] (aCons (eVar 0) aNil)))) (sSeq (sDrop (eRet (rCall m_check_numbers [.b] (aCons (eVar 1) aNil)))) (sRet (eBack (rCall m_all_left_out [.b, .b] (aCons (eVar 0) (aCons (eVar 1) aNil)))))))
def b_left_out : Sx := A_b_left_out m_check_weave m_check_numbers m_all_left_out
def m_left_out : FnS := fnS 2 2 b_left_out
def A_lc_lines_by_1 : Tx := (cB (eOp (gIn true) (eVar 3) (eVar 1)))
def lc_lines_by_1 : Tx := A_lc_lines_by_1 
def A_lm_lines_by_1 : Ex := (eVar 3)
def lm_lines_by_1 : Ex := A_lm_lines_by_1 
def A_l_lines_by_1 (m_greatest_number : FnS) (lc_lines_by_1 : Tx) (lm_lines_by_1 : Ex) : Fx := (fComp (iRng2 (aCons (eC (.int 1)) (aCons (eOp gAdd (eRet (rCall m_greatest_number [.b] (aCons (eVar 0) aNil))) (eC (.int 1))) aNil))) (.nm 3) [3] lc_lines_by_1 lm_lines_by_1)
def l_lines_by_1 : Fx := A_l_lines_by_1 m_greatest_number lc_lines_by_1 lm_lines_by_1
def A_lc_lines_by_2 : Tx := (cB (eOp (gIsN true) (eVar 6) (eC (.none))))
def lc_lines_by_2 : Tx := A_lc_lines_by_2 
def A_lm_lines_by_2 : Ex := (eVar 4)
def lm_lines_by_2 : Ex := A_lm_lines_by_2 
def A_l_lines_by_2 (m_all_left_out : FnS) (lc_lines_by_2 : Tx) (lm_lines_by_2 : Ex) : Fx := (fComp (iLst (eRet (rCall m_all_left_out [.b, .b] (aCons (eVar 0) (aCons (eVar 2) aNil))))) (.tp [4, 5, 6]) [4, 5, 6] lc_lines_by_2 lm_lines_by_2)
def l_lines_by_2 : Fx := A_l_lines_by_2 m_all_left_out lc_lines_by_2 lm_lines_by_2
def A_b_lines_by (m_check_weave : FnS) (m_check_numbers : FnS) (l_lines_by_1 : Fx) (l_lines_by_2 : Fx) : Sx := (sSeq (sDrop (eRet (rCall m_check_weave [.b] (aCons (eVar 0) aNil)))) (sSeq (sDrop (eRet (rCall m_check_numbers [.b] (aCons (eVar 1) aNil)))) (sSeq (sSet 2 (eKeep false l_lines_by_1)) (sRet (eOwn l_lines_by_2)))))
def b_lines_by : Sx := A_b_lines_by m_check_weave m_check_numbers l_lines_by_1 l_lines_by_2
def m_lines_by : FnS := fnS 2 7 b_lines_by
def A_b__law_purse : Sx := (sSeq (sSet 2 (eCB gSum (aCons (eFr (fSl (eVar 0) (oSome (eVar 1)) (oSome (eOp gAdd (eVar 1) (eC (.int 1)))))) aNil))) (sRet (eOwn (fLst (aCons (eOp gMod (eCB gInt (aCons (eCB gMax2 (aCons (eOp gSub (eVar 2) (eOp gPow (eC (.int 10)) (eC (.int 18)))) (aCons (eC (.int 0)) aNil))) aNil)) (eOp gPowW (eOp gPow (eC (.int 10)) (eC (.int 60))) (eC (.int 8)))) (aCons (eOp gMod (eCB gInt (aCons (eVar 2) aNil)) (eC (.int 2147483629))) (aCons (eC (.int 0)) (aCons (eVar 1) aNil))))))))
def b__law_purse : Sx := A_b__law_purse 
def m__law_purse : FnS := fnS 2 3 b__law_purse
def A_b__law_mixed : Sx := (sSeq (sSet 3 (eOp gAdd (eOp gMul (eVar 0) (eC (.int 69069))) (eOp gMul (eOp gMul (eC (.int 104729)) (eVar 1)) (eVar 1)))) (sSeq (sSet 3 (eOp gMod (eCB gInt (aCons (eOp gAdd (eOp gAdd (eVar 3) (eOp gMul (eC (.int 7919)) (eVar 2))) (eVar 1)) aNil)) (eC (.int 2147483647)))) (sSeq (sSet 3 (eOp gMod (eCB gInt (aCons (eOp gAdd (eOp gMul (eVar 3) (eVar 3)) (eC (.int 40503))) aNil)) (eC (.int 2147483629)))) (sRet (eOp gMod (eCB gInt (aCons (eOp gMul (eVar 3) (eC (.int 48271))) aNil)) (eC (.int 2147483587)))))))
def b__law_mixed : Sx := A_b__law_mixed 
def m__law_mixed : FnS := fnS 3 4 b__law_mixed
def A_lb__law_draw_1 (m__law_mixed : FnS) : Sx := (sSeq (sSub (eVar 0) (eC (.int 2)) (eOp gAdd (eOp gIx (eVar 0) (eC (.int 2))) (eC (.int 1)))) (sSet 2 (eOp gAdd (eOp gMul (eVar 2) (eC (.int 2147483587))) (eRet (rCall m__law_mixed [.b, .b, .b] (aCons (eOp gIx (eVar 0) (eC (.int 1))) (aCons (eOp gIx (eVar 0) (eC (.int 2))) (aCons (eOp gIx (eVar 0) (eC (.int 3))) aNil))))))))
def lb__law_draw_1 : Sx := A_lb__law_draw_1 m__law_mixed
def A_l__law_draw_1 (lb__law_draw_1 : Sx) : Sx := (sFor (iRng1 (aCons (eOp gAdd (eC (.int 1)) (eOp gDiv (eBits (eVar 1)) (eC (.int 28)))) aNil)) (gtName 3) lb__law_draw_1)
def l__law_draw_1 : Sx := A_l__law_draw_1 lb__law_draw_1
def A_b__law_draw (l__law_draw_1 : Sx) : Sx := (sSeq (sIf (cB (eOp gGt (eOp gIx (eVar 0) (eC (.int 0))) (eC (.int 0)))) (sSeq (sSet 4 (eOp gMod (eCB gInt (aCons (eOp gIx (eVar 0) (eC (.int 0))) aNil)) (eVar 1))) (sSeq (sSub (eVar 0) (eC (.int 0)) (eOp gDiv (eOp gIx (eVar 0) (eC (.int 0))) (eVar 1))) (sRet (eVar 4)))) sNext) (sSeq (sSet 2 (eC (.int 0))) (sSeq l__law_draw_1 (sRet (eOp gMod (eCB gInt (aCons (eVar 2) aNil)) (eVar 1))))))
def b__law_draw : Sx := A_b__law_draw l__law_draw_1
def m__law_draw : FnS := fnS 2 5 b__law_draw
def A_b__law_one_of (m__law_draw : FnS) : Sx := (sRet (eOp gIx (eVar 1) (eRet (rCall m__law_draw [.m, .b] (aCons (eVar 0) (aCons (eCB gLen (aCons (eVar 1) aNil)) aNil))))))
def b__law_one_of : Sx := A_b__law_one_of m__law_draw
def m__law_one_of : FnS := fnS 2 2 b__law_one_of
def A_lb__law_shuffled_1 (m__law_draw : FnS) : Sx := (sDrop (eMt gIns (eVar 2) (aCons (eRet (rCall m__law_draw [.m, .b] (aCons (eVar 0) (aCons (eOp gAdd (eCB gLen (aCons (eVar 2) aNil)) (eC (.int 1))) aNil)))) (aCons (eVar 3) aNil))))
def lb__law_shuffled_1 : Sx := A_lb__law_shuffled_1 m__law_draw
def A_l__law_shuffled_1 (lb__law_shuffled_1 : Sx) : Sx := (sFor (iLst (eVar 1)) (gtName 3) lb__law_shuffled_1)
def l__law_shuffled_1 : Sx := A_l__law_shuffled_1 lb__law_shuffled_1
def A_b__law_shuffled (l__law_shuffled_1 : Sx) : Sx := (sSeq (sSet 2 (eOwn (fLst aNil))) (sSeq l__law_shuffled_1 (sRet (eVar 2))))
def b__law_shuffled : Sx := A_b__law_shuffled l__law_shuffled_1
def m__law_shuffled : FnS := fnS 2 4 b__law_shuffled
def A_lm__law_plain_1 (self : FnS) : Ex := (eRet (rCall self [.b] (aCons (eVar 1) aNil)))
def lm__law_plain_1 (self : FnS) : Ex := A_lm__law_plain_1 self
def A_l__law_plain_1 (lm__law_plain_1 : FnS → Ex) (self : FnS) : Fx := (fComp (iLst (eVar 0)) (.nm 1) [1] cYes (lm__law_plain_1 self))
def l__law_plain_1 (self : FnS) : Fx := A_l__law_plain_1 lm__law_plain_1 self
def A_lm__law_plain_2 (self : FnS) : Ex := (eRet (rCall self [.b] (aCons (eVar 1) aNil)))
def lm__law_plain_2 (self : FnS) : Ex := A_lm__law_plain_2 self
def A_l__law_plain_2 (lm__law_plain_2 : FnS → Ex) (self : FnS) : Fx := (fComp (iTpl (eVar 0)) (.nm 1) [1] cYes (lm__law_plain_2 self))
def l__law_plain_2 (self : FnS) : Fx := A_l__law_plain_2 lm__law_plain_2 self
def A_b__law_plain (l__law_plain_1 : FnS → Fx) (l__law_plain_2 : FnS → Fx) (self : FnS) : Sx := (sSeq (sIf (cB (eIs ["list"] (eVar 0))) (sRet (eOwn (l__law_plain_1 self))) sNext) (sSeq (sIf (cB (eIs ["tuple"] (eVar 0))) (sRet (eCB gTuple (aCons (eFr (l__law_plain_2 self)) aNil))) sNext) (sSeq (sIf (cB (eIs ["dict"] (eVar 0))) sNever sNext) (sRet (eVar 0)))))
def b__law_plain (self : FnS) : Sx := A_b__law_plain l__law_plain_1 l__law_plain_2 self
def m__law_plain : Nat → FnS
  | 0 => fnNo
  | n + 1 => fnS 1 3 (b__law_plain (m__law_plain n))
def A_lm__law_same_1 (self : FnS) : Ex := (eRet (rCall self [.b, .b] (aCons (eVar 4) (aCons (eVar 5) aNil))))
def lm__law_same_1 (self : FnS) : Ex := A_lm__law_same_1 self
def A_l__law_same_1 (lm__law_same_1 : FnS → Ex) (self : FnS) : Fx := (fComp (iZpA (aCons (eVar 0) (aCons (eVar 1) aNil))) (.tp [4, 5]) [4, 5] cYes (lm__law_same_1 self))
def l__law_same_1 (self : FnS) : Fx := A_l__law_same_1 lm__law_same_1 self
def A_b__law_same (l__law_same_1 : FnS → Fx) (self : FnS) : Sx := (sSeq (sIf (cB (eIs ["dict"] (eVar 1))) sNever sNext) (sSeq (sIf (cB (eIs ["list", "tuple"] (eVar 1))) (sSeq (sSet 2 (eAnd (eOp (gEq false) (eIs ["list"] (eVar 0)) (eIs ["list"] (eVar 1))) (eOp (gEq false) (eIs ["tuple"] (eVar 0)) (eIs ["tuple"] (eVar 1))))) (sRet (eAnd (eVar 2) (eAnd (eOp (gEq false) (eCB gLen (aCons (eVar 0) aNil)) (eCB gLen (aCons (eVar 1) aNil))) (eCB (gB fun bs => bs.all id) (aCons (eFr (l__law_same_1 self)) aNil)))))) sNext) (sSeq (sIf (cOr (cB (eIs ["list", "tuple", "dict"] (eVar 0))) (cB (eOp (gEq true) (eOp (gIsN true) (eVar 0) (eC (.none))) (eOp (gIsN true) (eVar 1) (eC (.none)))))) (sRet (eC (.bool false))) sNext) (sSeq (sSet 2 (eAnd (eOp (gEq false) (eIs ["int"] (eVar 0)) (eIs ["int"] (eVar 1))) (eOp (gEq false) (eIs ["str"] (eVar 0)) (eIs ["str"] (eVar 1))))) (sRet (eAnd (eVar 2) (eAnd (eOp (gEq false) (eIs ["bool"] (eVar 0)) (eIs ["bool"] (eVar 1))) (eOp (gEq false) (eVar 0) (eVar 1)))))))))
def b__law_same (self : FnS) : Sx := A_b__law_same l__law_same_1 self
def m__law_same : Nat → FnS
  | 0 => fnNo
  | n + 1 => fnS 2 6 (b__law_same (m__law_same n))
def A_b__law_line (m__law_draw : FnS) (m__law_one_of : FnS) : Sx := (sSeq (sIf (cB (eOp gGt (eRet (rCall m__law_draw [.m, .b] (aCons (eVar 0) (aCons (eC (.int 9)) aNil)))) (eC (.int 0)))) (sRet (eBack (rCall m__law_one_of [.m, .b] (aCons (eVar 0) (aCons (eVar 1) aNil))))) sNext) (sRet (eBack (rCall m__law_one_of [.m, .b] (aCons (eVar 0) (aCons (eFr (fLst (aCons (eC (.str "")) (aCons (eC (.str " ")) (aCons (eC (.str "a b")) (aCons (eC (.str "{{x}}")) (aCons (eC (.str "=")) (aCons (eC (.str "~")) (aCons (eOp gRepS (eC (.str "long ")) (eC (.int 9))) aNil))))))))) aNil))))))
def b__law_line : Sx := A_b__law_line m__law_draw m__law_one_of
def m__law_line : FnS := fnS 2 2 b__law_line
def A_lm__law_turned_1 (m__law_line : FnS) : Ex := (eRet (rCall m__law_line [.m, .b] (aCons (eVar 0) (aCons (eVar 2) aNil))))
def lm__law_turned_1 : Ex := A_lm__law_turned_1 m__law_line
def A_l__law_turned_1 (m__law_draw : FnS) (lm__law_turned_1 : Ex) : Fx := (fComp (iRng1 (aCons (eOp gAdd (eC (.int 1)) (eRet (rCall m__law_draw [.m, .b] (aCons (eVar 0) (aCons (eC (.int 3)) aNil))))) aNil)) (.nm 6) [6] cYes lm__law_turned_1)
def l__law_turned_1 : Fx := A_l__law_turned_1 m__law_draw lm__law_turned_1
def A_lm__law_turned_2 (m__law_line : FnS) : Ex := (eRet (rCall m__law_line [.m, .b] (aCons (eVar 0) (aCons (eVar 2) aNil))))
def lm__law_turned_2 : Ex := A_lm__law_turned_2 m__law_line
def A_l__law_turned_2 (m__law_draw : FnS) (lm__law_turned_2 : Ex) : Fx := (fComp (iRng1 (aCons (eOp gAdd (eC (.int 1)) (eRet (rCall m__law_draw [.m, .b] (aCons (eVar 0) (aCons (eC (.int 2)) aNil))))) aNil)) (.nm 6) [6] cYes lm__law_turned_2)
def l__law_turned_2 : Fx := A_l__law_turned_2 m__law_draw lm__law_turned_2
def A_b__law_turned (m__law_draw : FnS) (l__law_turned_1 : Fx) (l__law_turned_2 : Fx) : Sx := (sSeq (sPar (aCons (eFr (fCB gList (aCons (eVar 1) aNil))) (aCons (eRet (rCall m__law_draw [.m, .b] (aCons (eVar 0) (aCons (eC (.int 6)) aNil)))) aNil)) (gtCons (gtName 4) (gtCons (gtName 5) gtNil))) (sSeq (sSet 3 (eRet (rCall m__law_draw [.m, .b] (aCons (eVar 0) (aCons (eOp gAdd (eCB gLen (aCons (eVar 4) aNil)) (eC (.int 1))) aNil))))) (sSeq (sIf (cB (eOp gLt (eVar 5) (eC (.int 2)))) (sRet (eOwn (fCat (eFr (fCat (eFr (fSl (eVar 4) oNone (oSome (eVar 3)))) (eFr l__law_turned_1))) (eFr (fSl (eVar 4) (oSome (eVar 3)) oNone))))) sNext) (sSeq (sIf (cB (eOp gLt (eVar 5) (eC (.int 4)))) (sRet (eOwn (fCat (eFr (fSl (eVar 4) oNone (oSome (eVar 3)))) (eFr (fSl (eVar 4) (oSome (eOp gAdd (eOp gAdd (eVar 3) (eC (.int 1))) (eRet (rCall m__law_draw [.m, .b] (aCons (eVar 0) (aCons (eC (.int 2)) aNil)))))) oNone))))) sNext) (sSeq (sIf (cAnd (cB (eOp (gEq false) (eVar 5) (eC (.int 4)))) (cB (eOp gLt (eVar 3) (eCB gLen (aCons (eVar 4) aNil))))) (sRet (eOwn (fCat (eFr (fCat (eFr (fSl (eVar 4) oNone (oSome (eVar 3)))) (eFr l__law_turned_2))) (eFr (fSl (eVar 4) (oSome (eOp gAdd (eVar 3) (eC (.int 1)))) oNone))))) sNext) (sRet (eOwn (fCat (eFr (fSl (eVar 4) (oSome (eVar 3)) oNone)) (eFr (fSl (eVar 4) oNone (oSome (eVar 3))))))))))))
def b__law_turned : Sx := A_b__law_turned m__law_draw l__law_turned_1 l__law_turned_2
def m__law_turned : FnS := fnS 3 7 b__law_turned
def A_lm__law_lists_1 (m__law_line : FnS) : Ex := (eRet (rCall m__law_line [.m, .b] (aCons (eVar 0) (aCons (eVar 2) aNil))))
def lm__law_lists_1 : Ex := A_lm__law_lists_1 m__law_line
def A_l__law_lists_1 (m__law_draw : FnS) (m__law_one_of : FnS) (lm__law_lists_1 : Ex) : Fx := (fComp (iRng1 (aCons (eRet (rCall m__law_draw [.m, .b] (aCons (eVar 0) (aCons (eRet (rCall m__law_one_of [.m, .b] (aCons (eVar 0) (aCons (eFr (fLst (aCons (eC (.int 3)) (aCons (eC (.int 9)) (aCons (eC (.int 20)) aNil))))) aNil)))) aNil)))) aNil)) (.nm 6) [6] cYes lm__law_lists_1)
def l__law_lists_1 : Fx := A_l__law_lists_1 m__law_draw m__law_one_of lm__law_lists_1
def A_lb__law_lists_2 (m__law_turned : FnS) : Sx := (sSet 5 (eRet (rCall m__law_turned [.m, .b, .b] (aCons (eVar 0) (aCons (eVar 5) (aCons (eVar 2) aNil))))))
def lb__law_lists_2 : Sx := A_lb__law_lists_2 m__law_turned
def A_l__law_lists_2 (m__law_draw : FnS) (lb__law_lists_2 : Sx) : Sx := (sFor (iRng1 (aCons (eRet (rCall m__law_draw [.m, .b] (aCons (eVar 0) (aCons (eC (.int 4)) aNil)))) aNil)) (gtName 6) lb__law_lists_2)
def l__law_lists_2 : Sx := A_l__law_lists_2 m__law_draw lb__law_lists_2
def A_lb__law_lists_3 (l__law_lists_2 : Sx) (m__law_draw : FnS) (m__law_one_of : FnS) : Sx := (sSeq (sSet 5 (eFr (fCB gList (aCons (eOp gIx (eVar 3) (eNeg (eC (.int 1)))) aNil)))) (sSeq l__law_lists_2 (sSeq (sIf (cB (eOp (gEq false) (eRet (rCall m__law_draw [.m, .b] (aCons (eVar 0) (aCons (eC (.int 8)) aNil)))) (eC (.int 0)))) (sSet 5 (eFr (fCB gList (aCons (eRet (rCall m__law_one_of [.m, .b] (aCons (eVar 0) (aCons (eVar 3) aNil)))) aNil)))) sNext) (sDrop (eMt gApp (eVar 3) (aCons (eFr (fSl (eVar 5) oNone (oSome (eC (.int 60))))) aNil))))))
def lb__law_lists_3 : Sx := A_lb__law_lists_3 l__law_lists_2 m__law_draw m__law_one_of
def A_l__law_lists_3 (lb__law_lists_3 : Sx) : Sx := (sFor (iRng1 (aCons (eVar 1) aNil)) (gtName 4) lb__law_lists_3)
def l__law_lists_3 : Sx := A_l__law_lists_3 lb__law_lists_3
def A_b__law_lists (l__law_lists_1 : Fx) (l__law_lists_3 : Sx) : Sx := (sSeq (sSet 3 (eOwn (fLst (aCons (eFr l__law_lists_1) aNil)))) (sSeq l__law_lists_3 (sRet (eVar 3))))
def b__law_lists : Sx := A_b__law_lists l__law_lists_1 l__law_lists_3
def m__law_lists : FnS := fnS 3 7 b__law_lists
def A_lb__law_at_1 : Sx := (sIf (cAnd (cB (eOp gLe (eVar 4) (eVar 1))) (cOr (cB (eOp (gIsN true) (eVar 5) (eC (.none)))) (cB (eOp gGt (eVar 5) (eVar 1))))) (sDrop (eMt gApp (eVar 2) (aCons (eVar 3) aNil))) sNext)
def lb__law_at_1 : Sx := A_lb__law_at_1 
def A_l__law_at_1 (lb__law_at_1 : Sx) : Sx := (sFor (iLst (eVar 0)) (gtTup 3 (gtCons (gtName 3) (gtCons (gtName 4) (gtCons (gtName 5) gtNil)))) lb__law_at_1)
def l__law_at_1 : Sx := A_l__law_at_1 lb__law_at_1
def A_b__law_at (l__law_at_1 : Sx) : Sx := (sSeq (sSet 2 (eOwn (fLst aNil))) (sSeq l__law_at_1 (sRet (eVar 2))))
def b__law_at : Sx := A_b__law_at l__law_at_1
def m__law_at : FnS := fnS 2 6 b__law_at
def A_lm__law_last_1 : Ex := (eOp gIx (eVar 1) (eC (.int 1)))
def lm__law_last_1 : Ex := A_lm__law_last_1 
def A_l__law_last_1 (lm__law_last_1 : Ex) : Fx := (fComp (iLst (eVar 0)) (.nm 1) [1] cYes lm__law_last_1)
def l__law_last_1 : Fx := A_l__law_last_1 lm__law_last_1
def A_lc__law_last_2 : Tx := (cB (eOp (gIsN false) (eOp gIx (eVar 1) (eC (.int 2))) (eC (.none))))
def lc__law_last_2 : Tx := A_lc__law_last_2 
def A_lm__law_last_2 : Ex := (eOp gIx (eVar 1) (eC (.int 2)))
def lm__law_last_2 : Ex := A_lm__law_last_2 
def A_l__law_last_2 (lc__law_last_2 : Tx) (lm__law_last_2 : Ex) : Fx := (fComp (iLst (eVar 0)) (.nm 1) [1] lc__law_last_2 lm__law_last_2)
def l__law_last_2 : Fx := A_l__law_last_2 lc__law_last_2 lm__law_last_2
def A_b__law_last (l__law_last_1 : Fx) (l__law_last_2 : Fx) : Sx := (sRet (eCB gMaxL (aCons (eFr (fCat (eFr (fCat (eFr (fLst (aCons (eC (.int 0)) aNil))) (eFr l__law_last_1))) (eFr l__law_last_2))) aNil)))
def b__law_last : Sx := A_b__law_last l__law_last_1 l__law_last_2
def m__law_last : FnS := fnS 1 2 b__law_last
def A_lb__law_weave_1 (m__law_draw : FnS) (m__law_line : FnS) : Sx := (sSeq (sSet 6 (eRet (rCall m__law_draw [.m, .b] (aCons (eVar 0) (aCons (eOp gAdd (eVar 2) (eC (.int 1))) aNil))))) (sSeq (sSet 7 (eIf (cOr (cB (eOp (gEq false) (eVar 6) (eVar 2))) (cB (eOp (gEq false) (eRet (rCall m__law_draw [.m, .b] (aCons (eVar 0) (aCons (eC (.int 2)) aNil)))) (eC (.int 0))))) (eC (.none)) (eOp gAdd (eOp gAdd (eVar 6) (eC (.int 1))) (eRet (rCall m__law_draw [.m, .b] (aCons (eVar 0) (aCons (eOp gSub (eVar 2) (eVar 6)) aNil))))))) (sDrop (eMt gApp (eVar 4) (aCons (eTup (aCons (eRet (rCall m__law_line [.m, .b] (aCons (eVar 0) (aCons (eVar 3) aNil)))) (aCons (eVar 6) (aCons (eVar 7) aNil)))) aNil)))))
def lb__law_weave_1 : Sx := A_lb__law_weave_1 m__law_draw m__law_line
def A_l__law_weave_1 (lb__law_weave_1 : Sx) : Sx := (sFor (iRng1 (aCons (eVar 1) aNil)) (gtName 5) lb__law_weave_1)
def l__law_weave_1 : Sx := A_l__law_weave_1 lb__law_weave_1
def A_b__law_weave (l__law_weave_1 : Sx) : Sx := (sSeq (sSet 4 (eOwn (fLst aNil))) (sSeq l__law_weave_1 (sRet (eVar 4))))
def b__law_weave : Sx := A_b__law_weave l__law_weave_1
def m__law_weave : FnS := fnS 4 8 b__law_weave
def A_lb__law_without_1 : Sx := (sIf (cB (eOp (gIn true) (eVar 4) (eVar 1))) (sDrop (eMt gApp (eVar 2) (aCons (eTup (aCons (eVar 3) (aCons (eVar 4) (aCons (eIf (cB (eOp (gIn false) (eVar 5) (eVar 1))) (eC (.none)) (eVar 5)) aNil)))) aNil))) sNext)
def lb__law_without_1 : Sx := A_lb__law_without_1 
def A_l__law_without_1 (lb__law_without_1 : Sx) : Sx := (sFor (iLst (eVar 0)) (gtTup 3 (gtCons (gtName 3) (gtCons (gtName 4) (gtCons (gtName 5) gtNil)))) lb__law_without_1)
def l__law_without_1 : Sx := A_l__law_without_1 lb__law_without_1
def A_b__law_without (l__law_without_1 : Sx) : Sx := (sSeq (sSet 2 (eOwn (fLst aNil))) (sSeq l__law_without_1 (sRet (eVar 2))))
def b__law_without : Sx := A_b__law_without l__law_without_1
def m__law_without : FnS := fnS 2 6 b__law_without
def A_b__law_numbers (m__law_shuffled : FnS) (m__law_draw : FnS) : Sx := (sSeq (sSet 2 (eRet (rCall m__law_shuffled [.m, .b] (aCons (eVar 0) (aCons (eFr (fRng2 (eC (.int 1)) (eOp gAdd (eVar 1) (eC (.int 3))))) aNil))))) (sRet (eIf (cB (eOp gGt (eRet (rCall m__law_draw [.m, .b] (aCons (eVar 0) (aCons (eC (.int 3)) aNil)))) (eC (.int 0)))) (eOwn (fSl (eVar 2) oNone (oSome (eRet (rCall m__law_draw [.m, .b] (aCons (eVar 0) (aCons (eOp gAdd (eCB gLen (aCons (eVar 2) aNil)) (eC (.int 1))) aNil))))))) (eOwn (fSl (eVar 2) oNone (oSome (eRet (rCall m__law_draw [.m, .b] (aCons (eVar 0) (aCons (eC (.int 3)) aNil))))))))))
def b__law_numbers : Sx := A_b__law_numbers m__law_shuffled m__law_draw
def m__law_numbers : FnS := fnS 2 3 b__law_numbers
def A_lc__law_joined_1 : Tx := (cB (eOp (gIn true) (eVar 2) (eVar 0)))
def lc__law_joined_1 : Tx := A_lc__law_joined_1 
def A_lm__law_joined_1 : Ex := (eVar 2)
def lm__law_joined_1 : Ex := A_lm__law_joined_1 
def A_l__law_joined_1 (lc__law_joined_1 : Tx) (lm__law_joined_1 : Ex) : Fx := (fComp (iLst (eVar 1)) (.nm 2) [2] lc__law_joined_1 lm__law_joined_1)
def l__law_joined_1 : Fx := A_l__law_joined_1 lc__law_joined_1 lm__law_joined_1
def A_b__law_joined (l__law_joined_1 : Fx) : Sx := (sRet (eOwn (fCat (eVar 0) (eFr l__law_joined_1))))
def b__law_joined : Sx := A_b__law_joined l__law_joined_1
def m__law_joined : FnS := fnS 2 3 b__law_joined
def A_lb__law_right_1 (m__law_same : Nat → FnS) (m_lines_at : FnS) (m__law_at : FnS) : Sx := (sIf (cOr (cNot (cB (eRet (rCall (m__law_same 12) [.b, .b] (aCons (eRet (rCall m_lines_at [.b, .b] (aCons (eVar 3) (aCons (eVar 4) aNil)))) (aCons (eRet (rCall m__law_at [.b, .b] (aCons (eVar 11) (aCons (eVar 4) aNil)))) aNil)))))) (cNot (cB (eRet (rCall (m__law_same 12) [.b, .b] (aCons (eRet (rCall m_lines_at [.b, .b] (aPr 2 (permL [1, 0]) (aCons (eVar 4) (aCons (eVar 1) aNil))))) (aCons (eRet (rCall m__law_at [.b, .b] (aCons (eVar 7) (aCons (eVar 4) aNil)))) aNil))))))) (sRet (eC (.bool false))) sNext)
def lb__law_right_1 : Sx := A_lb__law_right_1 m__law_same m_lines_at m__law_at
def A_l__law_right_1 (lb__law_right_1 : Sx) : Sx := (sFor (iRng1 (aCons (eOp gAdd (eVar 8) (eC (.int 2))) aNil)) (gtName 4) lb__law_right_1)
def l__law_right_1 : Sx := A_l__law_right_1 lb__law_right_1
def A_lc__law_right_2 : Tx := (cB (eOp (gIn true) (eVar 4) (eVar 9)))
def lc__law_right_2 : Tx := A_lc__law_right_2 
def A_lm__law_right_2 : Ex := (eVar 4)
def lm__law_right_2 : Ex := A_lm__law_right_2 
def A_l__law_right_2 (lc__law_right_2 : Tx) (lm__law_right_2 : Ex) : Fx := (fComp (iRng2 (aCons (eC (.int 1)) (aCons (eOp gAdd (eVar 8) (eC (.int 1))) aNil))) (.nm 4) [4] lc__law_right_2 lm__law_right_2)
def l__law_right_2 : Fx := A_l__law_right_2 lc__law_right_2 lm__law_right_2
def A_b__law_right (m__law_plain : Nat → FnS) (m__law_last : FnS) (m__law_numbers : FnS) (m__law_without : FnS) (m__law_joined : FnS) (m_left_out : FnS) (m__law_same : Nat → FnS) (l__law_right_1 : Sx) (l__law_right_2 : Fx) (m_lines_by : FnS) (m__law_at : FnS) (m_last_change : FnS) : Sx := (sSeq (sPar (aCons (eRet (rCall (m__law_plain 12) [.b] (aCons (eVar 1) aNil))) (aCons (eRet (rCall m__law_last [.b] (aCons (eVar 1) aNil))) aNil)) (gtCons (gtName 7) (gtCons (gtName 8) gtNil))) (sSeq (sPar (aCons (eRet (rCall m__law_numbers [.m, .b] (aCons (eVar 0) (aCons (eVar 8) aNil)))) (aCons (eRet (rCall m__law_numbers [.m, .b] (aCons (eVar 0) (aCons (eVar 8) aNil)))) aNil)) (gtCons (gtName 9) (gtCons (gtName 10) gtNil))) (sSeq (sSet 2 (eFr (fLst (aCons (eFr (fCB gList (aCons (eVar 9) aNil))) (aCons (eFr (fCB gList (aCons (eVar 10) aNil))) aNil))))) (sSeq (sPar (aCons (eRet (rCall m__law_without [.b, .b] (aCons (eVar 7) (aCons (eVar 9) aNil)))) (aCons (eRet (rCall m__law_without [.b, .b] (aCons (eVar 7) (aCons (eRet (rCall m__law_joined [.f, .b] (aCons (eVar 9) (aCons (eVar 10) aNil)))) aNil)))) aNil)) (gtCons (gtName 11) (gtCons (gtName 12) gtNil))) (sSeq (sSet 3 (eOwn (fRet (rCall m_left_out [.b, .b] (aCons (eVar 1) (aCons (eVar 9) aNil)))))) (sSeq (sIf (cOr (cNot (cB (eRet (rCall (m__law_same 12) [.b, .b] (aCons (eVar 3) (aCons (eVar 11) aNil)))))) (cNot (cB (eRet (rCall (m__law_same 12) [.b, .b] (aCons (eRet (rCall m_left_out [.b, .b] (aPr 2 (permL [1, 0]) (aCons (eVar 10) (aCons (eVar 3) aNil))))) (aCons (eVar 12) aNil))))))) (sRet (eC (.bool false))) sNext) (sSeq (sIf (cOr (cNot (cB (eRet (rCall (m__law_same 12) [.b, .b] (aCons (eRet (rCall m_left_out [.b, .b] (aCons (eRet (rCall m_left_out [.b, .b] (aCons (eVar 1) (aCons (eVar 10) aNil)))) (aCons (eVar 9) aNil)))) (aCons (eVar 12) aNil)))))) (cNot (cB (eRet (rCall (m__law_same 12) [.b, .b] (aCons (eRet (rCall m_left_out [.b, .b] (aCons (eVar 1) (aCons (eRet (rCall m__law_joined [.f, .b] (aCons (eVar 10) (aCons (eVar 9) aNil)))) aNil)))) (aCons (eVar 12) aNil))))))) (sRet (eC (.bool false))) sNext) (sSeq l__law_right_1 (sSeq (sSet 5 (eKeep false l__law_right_2)) (sSeq (sSet 6 (eOwn (fRet (rCall m_lines_by [.b, .b] (aCons (eVar 1) (aCons (eVar 9) aNil)))))) (sSeq (sIf (cOr (cNot (cB (eRet (rCall (m__law_same 12) [.b, .b] (aCons (eVar 6) (aCons (eRet (rCall m__law_at [.b, .b] (aCons (eRet (rCall m__law_without [.b, .b] (aCons (eVar 7) (aCons (eVar 5) aNil)))) (aCons (eVar 8) aNil)))) aNil)))))) (cNot (cB (eRet (rCall (m__law_same 12) [.b, .b] (aCons (eRet (rCall m_last_change [.b] (aCons (eVar 1) aNil))) (aCons (eVar 8) aNil))))))) (sRet (eC (.bool false))) sNext) (sSeq (sDrop (eMt gApp (eVar 3) (aCons (eTup (aCons (eC (.str "spoilt")) (aCons (eC (.int 0)) (aCons (eC (.none)) aNil)))) aNil))) (sSeq (sDrop (eMt gApp (eVar 6) (aCons (eC (.str "spoilt")) aNil))) (sSeq (sIf (cOr (cNot (cB (eRet (rCall (m__law_same 12) [.b, .b] (aCons (eRet (rCall m_left_out [.b, .b] (aCons (eVar 1) (aCons (eVar 9) aNil)))) (aCons (eVar 11) aNil)))))) (cNot (cB (eRet (rCall (m__law_same 12) [.b, .b] (aCons (eRet (rCall m_lines_by [.b, .b] (aPr 2 (permL [1, 0]) (aCons (eVar 9) (aCons (eVar 1) aNil))))) (aCons (eFr (fSl (eVar 6) oNone (oSome (eNeg (eC (.int 1)))))) aNil))))))) (sRet (eC (.bool false))) sNext) (sRet (eAnd (eRet (rCall (m__law_same 12) [.b, .b] (aCons (eFr (fLst (aCons (eVar 1) (aCons (eFr (fLst (aCons (eVar 9) (aCons (eVar 10) aNil)))) aNil)))) (aCons (eFr (fLst (aCons (eVar 7) (aCons (eVar 2) aNil)))) aNil)))) (eRet (rCall (m__law_same 12) [.b, .b] (aCons (eRet (rCall m_left_out [.b, .b] (aCons (eVar 1) (aCons (eFr (fLst aNil)) aNil)))) (aCons (eVar 7) aNil))))))))))))))))))))
def b__law_right : Sx := A_b__law_right m__law_plain m__law_last m__law_numbers m__law_without m__law_joined m_left_out m__law_same l__law_right_1 l__law_right_2 m_lines_by m__law_at m_last_change
def m__law_right : FnS := fnS 2 13 b__law_right
def A_lb_law_1 (m__law_purse : FnS) (m__law_draw : FnS) (m__law_weave : FnS) (m__law_one_of : FnS) (m__law_lists : FnS) (m__law_right : FnS) (m_woven_lines : FnS) : Sx := (sSeq (sSet 2 (eOwn (fRet (rCall m__law_purse [.b, .f] (aCons (eVar 0) (aCons (eVar 1) aNil)))))) (sSeq (sSet 3 (eFr (fSl (eFr (fLst (aCons (eC (.str "a")) (aCons (eC (.str "b")) (aCons (eC (.str "c")) (aCons (eC (.str "d")) aNil)))))) oNone (oSome (eOp gAdd (eC (.int 1)) (eRet (rCall m__law_draw [.m, .b] (aCons (eVar 2) (aCons (eC (.int 4)) aNil))))))))) (sSeq (sSet 4 (eRet (rCall m__law_weave [.m, .b, .b, .b] (aCons (eVar 2) (aCons (eRet (rCall m__law_draw [.m, .b] (aCons (eVar 2) (aCons (eRet (rCall m__law_one_of [.m, .b] (aCons (eVar 2) (aCons (eFr (fLst (aCons (eC (.int 4)) (aCons (eC (.int 20)) (aCons (eC (.int 81)) aNil))))) aNil)))) aNil)))) (aCons (eOp gAdd (eC (.int 1)) (eRet (rCall m__law_draw [.m, .b] (aCons (eVar 2) (aCons (eC (.int 12)) aNil))))) (aCons (eVar 3) aNil))))))) (sSeq (sSet 5 (eRet (rCall m__law_lists [.m, .b, .b] (aCons (eVar 2) (aCons (eOp gAdd (eC (.int 1)) (eRet (rCall m__law_draw [.m, .b] (aCons (eVar 2) (aCons (eC (.int 8)) aNil))))) (aCons (eVar 3) aNil)))))) (sIf (cOr (cNot (cB (eRet (rCall m__law_right [.m, .f] (aCons (eVar 2) (aCons (eVar 4) aNil)))))) (cNot (cB (eRet (rCall m__law_right [.m, .f] (aCons (eVar 2) (aCons (eFr (fSl (eRet (rCall m_woven_lines [.b] (aCons (eVar 5) aNil))) oNone (oSome (eC (.int 80))))) aNil))))))) (sRet (eC (.bool false))) sNext)))))
def lb_law_1 : Sx := A_lb_law_1 m__law_purse m__law_draw m__law_weave m__law_one_of m__law_lists m__law_right m_woven_lines
def A_l_law_1 (lb_law_1 : Sx) : Sx := (sFor (iRng1 (aCons (eC (.int 2)) aNil)) (gtName 1) lb_law_1)
def l_law_1 : Sx := A_l_law_1 lb_law_1
def A_b_law (l_law_1 : Sx) (m_lines_at : FnS) (m_last_change : FnS) (m_left_out : FnS) (m_lines_by : FnS) : Sx := (sSeq l_law_1 (sRet (eAnd (eOp (gEq false) (eRet (rCall m_lines_at [.b, .b] (aCons (eFr (fLst aNil)) (aCons (eC (.int 3)) aNil)))) (eFr (fLst aNil))) (eAnd (eOp (gEq false) (eRet (rCall m_last_change [.b] (aCons (eFr (fLst aNil)) aNil))) (eC (.int 0))) (eAnd (eOp (gEq false) (eRet (rCall m_left_out [.b, .b] (aCons (eFr (fLst aNil)) (aCons (eFr (fLst (aCons (eC (.int 7)) aNil))) aNil)))) (eFr (fLst aNil))) (eOp (gEq false) (eRet (rCall m_lines_by [.b, .b] (aCons (eFr (fLst (aCons (eTup (aCons (eC (.str "a")) (aCons (eC (.int 0)) (aCons (eC (.int 1)) aNil)))) (aCons (eTup (aCons (eC (.str "b")) (aCons (eC (.int 1)) (aCons (eC (.none)) aNil)))) aNil)))) (aCons (eFr (fLst aNil)) aNil)))) (eFr (fLst (aCons (eC (.str "a")) aNil)))))))))
def b_law : Sx := A_b_law l_law_1 m_lines_at m_last_change m_left_out m_lines_by
def m_law : FnS := fnS 1 6 b_law
end HdK

set_option Elab.async false
set_option linter.all false
set_option maxRecDepth 100000
set_option maxHeartbeats 4000000
namespace HdK
open PySem PySem.Spec PyProof.Rows L2 Vi
structure Bi (mg : Str → Option Value) : Prop where
  all : mg "all" = none
  bool : mg "bool" = none
  dict : mg "dict" = none
  enumerate : mg "enumerate" = none
  int : mg "int" = none
  isinstance : mg "isinstance" = none
  len : mg "len" = none
  list : mg "list" = none
  max : mg "max" = none
  range : mg "range" = none
  set : mg "set" = none
  str : mg "str" = none
  sum : mg "sum" = none
  tuple : mg "tuple" = none
  zip : mg "zip" = none
theorem sc_is_whole : FnScope ["value"] ["value"] (defScope (top 6)) := ⟨rfl, rfl, rfl, by decide +kernel, rfl, by decide +kernel, by decide +kernel⟩
theorem d_is_whole {K : Kc} {mg : Str → Option Value} {base : Heap} (B : Bi mg) {f : Addr} (cdv : Value) (A : Around) (outer : List Env) (s : Shared) (H : Hp) (E : XK) (hr : Room 0 (A.deeper (envOfC "is_whole" (defScope (top 6)) s.heap.objs.size f cdv))) : DSs (cxOf CX0 K.p K.w K.k mg base ["value"] "is_whole" (defScope (top 6)) f cdv A outer s H E).nox (defBody (top 6)) b_is_whole :=
  by
  delta b_is_whole
  delta A_b_is_whole
  exact (dss_one (ds_ret (de_and (de_is (by rfl) B.isinstance (by rfl) B.int boot_int (by decide) (dvn 0)) (de_and1 (de_not (de_is (by rfl) B.isinstance (by rfl) B.bool boot_bool (by decide) (dvn 0)))))))
theorem o_is_whole {K : Kc} {mg : Str → Option Value} {base : Heap} (B : Bi mg) {f : Addr} {fd : FuncData} (F : FunD K.k "is_whole" "is_whole" (defArgs (top 6)) (defBody (top 6)) (defScope (top 6)) [] [] f fd) : FnOk K.p K.w K.k mg base CX0 1 f fd ["value"] (spF K m_is_whole) := fn_okx F sc_is_whole fun cdv A outer s H E hr => d_is_whole B  cdv A outer s H E hr
theorem sc_is_count : FnScope ["value", "least"] ["value", "least"] (defScope (top 7)) := ⟨rfl, rfl, rfl, by decide +kernel, rfl, by decide +kernel, by decide +kernel⟩
theorem d_is_count {K : Kc} {mg : Str → Option Value} {base : Heap} (B : Bi mg) (g_is_whole_0 : Gd K mg base 1 "is_whole" m_is_whole []) {f : Addr} (cdv : Value) (A : Around) (outer : List Env) (s : Shared) (H : Hp) (E : XK) (hr : Room 1 (A.deeper (envOfC "is_count" (defScope (top 7)) s.heap.objs.size f cdv))) : DSs (cxOf CX0 K.p K.w K.k mg base ["value", "least"] "is_count" (defScope (top 7)) f cdv A outer s H E).nox (defBody (top 7)) b_is_count :=
  by
  delta b_is_count
  delta A_b_is_count
  exact (dss_one (ds_ret (de_and (de_ret (dr_g [.b] g_is_whole_0 hr (by decide) (by rfl) (da_cons (dvn 0) da_nil))) (de_and1 (de_cmp op_ge opv_ge (dvn 0) (de_cb (call_max2 rfl) cv_max2 (by rfl) B.max boot_max (da_cons (dvn 1) (da_cons de_int da_nil))) (by rfl))))))
theorem o_is_count {K : Kc} {mg : Str → Option Value} {base : Heap} (B : Bi mg) (g_is_whole_0 : Gd K mg base 1 "is_whole" m_is_whole []) {f : Addr} {fd : FuncData} (F : FunD K.k "is_count" "is_count" (defArgs (top 7)) (defBody (top 7)) (defScope (top 7)) [.int 0] [] f fd) : FnOk K.p K.w K.k mg base CX0 2 f fd ["value", "least"] (spF K m_is_count) := fn_okx F sc_is_count fun cdv A outer s H E hr => d_is_count B g_is_whole_0 cdv A outer s H E hr
theorem sc_is_text : FnScope ["value", "sign"] ["value"] (defScope (top 8)) := ⟨rfl, rfl, rfl, by decide +kernel, rfl, by decide +kernel, by decide +kernel⟩
theorem d_is_text {K : Kc} {mg : Str → Option Value} {base : Heap} (B : Bi mg) {f : Addr} (cdv : Value) (A : Around) (outer : List Env) (s : Shared) (H : Hp) (E : XK) (hr : Room 0 (A.deeper (envOfC "is_text" (defScope (top 8)) s.heap.objs.size f cdv))) : DSs (cxOf CX0 K.p K.w K.k mg base ["value", "sign"] "is_text" (defScope (top 8)) f cdv A outer s H E).nox (defBody (top 8)) b_is_text :=
  by
  delta b_is_text
  delta A_b_is_text
  delta l_is_text_1
  delta A_l_is_text_1
  delta lm_is_text_1
  delta A_lm_is_text_1
  exact (dss_one (ds_ret (de_and (de_is (by rfl) B.isinstance (by rfl) B.str boot_str (by decide) (dvn 0)) (de_and1 (de_cb (cr_all rfl) cv_all (by rfl) B.all boot_all (da_cons (de_fr (df_lc (own := [("sign", 1)]) rfl sc_is_text.nd (di_str (dvn 0)) (blkOk_by (N := ["value", "sign"]) (sc := defScope (top 8)) (by decide +kernel)) (fun _ _ _ _ _ => (dn_name sc_is_text.nd (i := 1) rfl (by first | exact .inl rfl | exact .inr rfl))) (fun _ _ _ _ _ => dts_nil) (fun _ _ _ _ _ => (de_or (de_chain opr_le opr_le opv_leV opv_leV de_str (dvn 1) de_str) (de_and1 (de_cmp (op_eqP hr.units) opv_eq (dvn 1) de_str (by rfl))))))) da_nil))))))
theorem o_is_text {K : Kc} {mg : Str → Option Value} {base : Heap} (B : Bi mg) {f : Addr} {fd : FuncData} (F : FunD K.k "is_text" "is_text" (defArgs (top 8)) (defBody (top 8)) (defScope (top 8)) [] [] f fd) : FnOk K.p K.w K.k mg base CX0 1 f fd ["value"] (spF K m_is_text) := fn_okx F sc_is_text fun cdv A outer s H E hr => d_is_text B  cdv A outer s H E hr
theorem sc_is_line : FnScope ["value"] ["value"] (defScope (top 9)) := ⟨rfl, rfl, rfl, by decide +kernel, rfl, by decide +kernel, by decide +kernel⟩
theorem d_is_line {K : Kc} {mg : Str → Option Value} {base : Heap} (B : Bi mg) (g_is_text_0 : Gd K mg base 1 "is_text" m_is_text []) {f : Addr} (cdv : Value) (A : Around) (outer : List Env) (s : Shared) (H : Hp) (E : XK) (hr : Room 1 (A.deeper (envOfC "is_line" (defScope (top 9)) s.heap.objs.size f cdv))) : DSs (cxOf CX0 K.p K.w K.k mg base ["value"] "is_line" (defScope (top 9)) f cdv A outer s H E).nox (defBody (top 9)) b_is_line :=
  by
  delta b_is_line
  delta A_b_is_line
  exact (dss_one (ds_ret (de_and (de_ret (dr_g [.b] g_is_text_0 hr (by decide) (by rfl) (da_cons (dvn 0) da_nil))) (de_and1 (de_cmp (op_notInP hr.units) opv_in de_str (dvn 0) (by rfl))))))
theorem o_is_line {K : Kc} {mg : Str → Option Value} {base : Heap} (B : Bi mg) (g_is_text_0 : Gd K mg base 1 "is_text" m_is_text []) {f : Addr} {fd : FuncData} (F : FunD K.k "is_line" "is_line" (defArgs (top 9)) (defBody (top 9)) (defScope (top 9)) [] [] f fd) : FnOk K.p K.w K.k mg base CX0 2 f fd ["value"] (spF K m_is_line) := fn_okx F sc_is_line fun cdv A outer s H E hr => d_is_line B g_is_text_0 cdv A outer s H E hr
theorem sc_is_tuple_of : FnScope ["value", "size"] ["value", "size"] (defScope (top 10)) := ⟨rfl, rfl, rfl, by decide +kernel, rfl, by decide +kernel, by decide +kernel⟩
theorem d_is_tuple_of {K : Kc} {mg : Str → Option Value} {base : Heap} (B : Bi mg) {f : Addr} (cdv : Value) (A : Around) (outer : List Env) (s : Shared) (H : Hp) (E : XK) (hr : Room 0 (A.deeper (envOfC "is_tuple_of" (defScope (top 10)) s.heap.objs.size f cdv))) : DSs (cxOf CX0 K.p K.w K.k mg base ["value", "size"] "is_tuple_of" (defScope (top 10)) f cdv A outer s H E).nox (defBody (top 10)) b_is_tuple_of :=
  by
  delta b_is_tuple_of
  delta A_b_is_tuple_of
  exact (dss_one (ds_ret (de_and (de_is (by rfl) B.isinstance (by rfl) B.tuple boot_tuple (by decide) (dvn 0)) (de_and1 (de_cmp (op_eqP hr.units) opv_eq (de_cb call_len cv_len (by rfl) B.len boot_len (da_cons (dvn 0) da_nil)) (dvn 1) (by rfl))))))
theorem o_is_tuple_of {K : Kc} {mg : Str → Option Value} {base : Heap} (B : Bi mg) {f : Addr} {fd : FuncData} (F : FunD K.k "is_tuple_of" "is_tuple_of" (defArgs (top 10)) (defBody (top 10)) (defScope (top 10)) [] [] f fd) : FnOk K.p K.w K.k mg base CX0 1 f fd ["value", "size"] (spF K m_is_tuple_of) := fn_okx F sc_is_tuple_of fun cdv A outer s H E hr => d_is_tuple_of B  cdv A outer s H E hr
theorem sc_check_count : FnScope ["value", "least", "below"] ["value", "least", "below"] (defScope (top 11)) := ⟨rfl, rfl, rfl, by decide +kernel, rfl, by decide +kernel, by decide +kernel⟩
theorem d_check_count {K : Kc} {mg : Str → Option Value} {base : Heap} (B : Bi mg) (g_is_count_0 : Gd K mg base 2 "is_count" m_is_count []) {f : Addr} (cdv : Value) (A : Around) (outer : List Env) (s : Shared) (H : Hp) (E : XK) (hr : Room 2 (A.deeper (envOfC "check_count" (defScope (top 11)) s.heap.objs.size f cdv))) : DSs (cxOf CX0 K.p K.w K.k mg base ["value", "least", "below"] "check_count" (defScope (top 11)) f cdv A outer s H E).nox (defBody (top 11)) b_check_count :=
  by
  delta b_check_count
  delta A_b_check_count
  exact (dss_one (ds_if (dt_w (dw_or (dt_not (dt_val (de_ret (dr_g [.b, .b] g_is_count_0 hr (by decide) (by rfl) (da_cons (dvn 0) (da_cons (dvn 1) da_nil)))))) (dw_or1 (dt_w (dw_and (dt_cmp op_notN opv_notN (dvn 2) de_non (by rfl)) (dw_and1 (dt_cmp op_ge opv_ge (dvn 0) (dvn 2) (by rfl))))))))
    (dss_one ds_never)
    dss_nil))
theorem o_check_count {K : Kc} {mg : Str → Option Value} {base : Heap} (B : Bi mg) (g_is_count_0 : Gd K mg base 2 "is_count" m_is_count []) {f : Addr} {fd : FuncData} (F : FunD K.k "check_count" "check_count" (defArgs (top 11)) (defBody (top 11)) (defScope (top 11)) [.int 0, .non] [] f fd) : FnOk K.p K.w K.k mg base CX0 3 f fd ["value", "least", "below"] (spF K m_check_count) := fn_okx F sc_check_count fun cdv A outer s H E hr => d_check_count B g_is_count_0 cdv A outer s H E hr
theorem sc_is_lines : FnScope ["value", "line"] ["value"] (defScope (top 16)) := ⟨rfl, rfl, rfl, by decide +kernel, rfl, by decide +kernel, by decide +kernel⟩
theorem d_is_lines {K : Kc} {mg : Str → Option Value} {base : Heap} (B : Bi mg) (g_is_line_0 : Gd K mg base 2 "is_line" m_is_line []) {f : Addr} (cdv : Value) (A : Around) (outer : List Env) (s : Shared) (H : Hp) (E : XK) (hr : Room 2 (A.deeper (envOfC "is_lines" (defScope (top 16)) s.heap.objs.size f cdv))) : DSs (cxOf CX0 K.p K.w K.k mg base ["value", "line"] "is_lines" (defScope (top 16)) f cdv A outer s H E).nox (defBody (top 16)) b_is_lines :=
  by
  delta b_is_lines
  delta A_b_is_lines
  delta l_is_lines_1
  delta A_l_is_lines_1
  delta lm_is_lines_1
  delta A_lm_is_lines_1
  exact (dss_one (ds_ret (de_and (de_is (by rfl) B.isinstance (by rfl) B.list boot_list (by decide) (dvn 0)) (de_and1 (de_cb (cr_all rfl) cv_all (by rfl) B.all boot_all (da_cons (de_fr (df_lc (own := [("line", 1)]) rfl sc_is_lines.nd (di_list (dvn 0)) (blkOk_by (N := ["value", "line"]) (sc := defScope (top 16)) (by decide +kernel)) (fun _ _ _ _ _ => (dn_name sc_is_lines.nd (i := 1) rfl (by first | exact .inl rfl | exact .inr rfl))) (fun _ _ _ _ _ => dts_nil) (fun _ _ _ _ _ => (de_ret (dr_g [.b] g_is_line_0 hr (by decide) (by rfl) (da_cons (dvn 1) da_nil)))))) da_nil))))))
theorem o_is_lines {K : Kc} {mg : Str → Option Value} {base : Heap} (B : Bi mg) (g_is_line_0 : Gd K mg base 2 "is_line" m_is_line []) {f : Addr} {fd : FuncData} (F : FunD K.k "is_lines" "is_lines" (defArgs (top 16)) (defBody (top 16)) (defScope (top 16)) [] [] f fd) : FnOk K.p K.w K.k mg base CX0 3 f fd ["value"] (spF K m_is_lines) := fn_okx F sc_is_lines fun cdv A outer s H E hr => d_is_lines B g_is_line_0 cdv A outer s H E hr
theorem sc_check_lines : FnScope ["value"] ["value"] (defScope (top 17)) := ⟨rfl, rfl, rfl, by decide +kernel, rfl, by decide +kernel, by decide +kernel⟩
theorem d_check_lines {K : Kc} {mg : Str → Option Value} {base : Heap} (B : Bi mg) (g_is_lines_0 : Gd K mg base 3 "is_lines" m_is_lines []) {f : Addr} (cdv : Value) (A : Around) (outer : List Env) (s : Shared) (H : Hp) (E : XK) (hr : Room 3 (A.deeper (envOfC "check_lines" (defScope (top 17)) s.heap.objs.size f cdv))) : DSs (cxOf CX0 K.p K.w K.k mg base ["value"] "check_lines" (defScope (top 17)) f cdv A outer s H E).nox (defBody (top 17)) b_check_lines :=
  by
  delta b_check_lines
  delta A_b_check_lines
  exact (dss_one (ds_if (dt_not (dt_val (de_ret (dr_g [.b] g_is_lines_0 hr (by decide) (by rfl) (da_cons (dvn 0) da_nil)))))
    (dss_one ds_never)
    dss_nil))
theorem o_check_lines {K : Kc} {mg : Str → Option Value} {base : Heap} (B : Bi mg) (g_is_lines_0 : Gd K mg base 3 "is_lines" m_is_lines []) {f : Addr} {fd : FuncData} (F : FunD K.k "check_lines" "check_lines" (defArgs (top 17)) (defBody (top 17)) (defScope (top 17)) [] [] f fd) : FnOk K.p K.w K.k mg base CX0 4 f fd ["value"] (spF K m_check_lines) := fn_okx F sc_check_lines fun cdv A outer s H E hr => d_check_lines B g_is_lines_0 cdv A outer s H E hr
theorem sc_most_behind : FnScope ["one", "other", "table", "line", "row", "late"] ["one", "other"] (defScope (top 18)) := ⟨rfl, rfl, rfl, by decide +kernel, rfl, by decide +kernel, by decide +kernel⟩
theorem d_most_behind {K : Kc} {mg : Str → Option Value} {base : Heap} (B : Bi mg) {f : Addr} (cdv : Value) (A : Around) (outer : List Env) (s : Shared) (H : Hp) (E : XK) (hr : Room 0 (A.deeper (envOfC "most_behind" (defScope (top 18)) s.heap.objs.size f cdv))) : DSs (cxOf CX0 K.p K.w K.k mg base ["one", "other", "table", "line", "row", "late"] "most_behind" (defScope (top 18)) f cdv A outer s H E).nox (defBody (top 18)) b_most_behind :=
  by
  delta b_most_behind
  delta A_b_most_behind
  delta l_most_behind_2
  delta A_l_most_behind_2
  delta lb_most_behind_2
  delta A_lb_most_behind_2
  delta l_most_behind_1
  delta A_l_most_behind_1
  delta lb_most_behind_1
  delta A_lb_most_behind_1
  exact (dss_cons (ds_set sc_most_behind.nd (i := 2) rfl (.inl rfl) (de_own (df_lst (da_cons (de_fr (df_rep (de_fr (df_lst (da_cons de_int da_nil))) (de_op opr_add opv_add (de_cb call_len cv_len (by rfl) B.len boot_len (da_cons (dvn 1) da_nil)) de_int))) da_nil))))
    (dss_cons (ds_for PassesOwn.never rfl (di_list (de_fr (df_rev (dvn 0)))) (dg_name sc_most_behind.nd (i := 3) rfl (.inl rfl))
    (dss_cons (ds_set sc_most_behind.nd (i := 4) rfl (.inl rfl) (de_own (df_rep (de_fr (df_lst (da_cons de_int da_nil))) (de_op opr_add opv_add (de_cb call_len cv_len (by rfl) B.len boot_len (da_cons (dvn 1) da_nil)) de_int))))
    (dss_cons (ds_for PassesOwn.never rfl (di_rngD (by rfl) B.range (da_cons (de_op op_sub opv_sub (de_cb call_len cv_len (by rfl) B.len boot_len (da_cons (dvn 1) da_nil)) de_int) (da_cons (de_neg de_int) (da_cons (de_neg de_int) da_nil)))) (dg_name sc_most_behind.nd (i := 5) rfl (.inl rfl))
    (dss_cons (ds_sub (dvn 4) (dvn 5) (de_cb (call_max2 rfl) cv_max2 (by rfl) B.max boot_max (da_cons (de_ix (dvn 4) (de_op opr_add opv_add (dvn 5) de_int) (fun _ _ => rfl)) (da_cons (de_ix (de_ix (dvn 2) (de_neg de_int) (fun _ _ => rfl)) (dvn 5) (fun _ _ => rfl)) da_nil))))
    (dss_one (ds_if (dt_cmp (op_eqP hr.units) opv_eq (dvn 3) (de_ix (dvn 1) (dvn 5) (fun _ _ => rfl)) (by rfl))
    (dss_one (ds_sub (dvn 4) (dvn 5) (de_op opr_add opv_add (de_ix (de_ix (dvn 2) (de_neg de_int) (fun _ _ => rfl)) (de_op opr_add opv_add (dvn 5) de_int) (fun _ _ => rfl)) de_int)))
    dss_nil))))
    (dss_one (ds_expr (de_app (dvn 2) (da_cons (de_fz (dvn 4)) da_nil)))))))
    (dss_one (ds_ret (de_own (df_rev (dvn 2)))))))
theorem o_most_behind {K : Kc} {mg : Str → Option Value} {base : Heap} (B : Bi mg) {f : Addr} {fd : FuncData} (F : FunD K.k "most_behind" "most_behind" (defArgs (top 18)) (defBody (top 18)) (defScope (top 18)) [] [] f fd) : FnOk K.p K.w K.k mg base CX0 1 f fd ["one", "other"] (spF K m_most_behind) := fn_okx F sc_most_behind fun cdv A outer s H E hr => d_most_behind B  cdv A outer s H E hr
theorem sc_longest_row : FnScope ["one", "other", "most", "found", "late", "at", "line", "left", "fits", "here"] ["one", "other"] (defScope (top 19)) := ⟨rfl, rfl, rfl, by decide +kernel, rfl, by decide +kernel, by decide +kernel⟩
theorem d_longest_row {K : Kc} {mg : Str → Option Value} {base : Heap} (B : Bi mg) (g_most_behind_0 : Gd K mg base 1 "most_behind" m_most_behind []) {f : Addr} (cdv : Value) (A : Around) (outer : List Env) (s : Shared) (H : Hp) (E : XK) (hr : Room 1 (A.deeper (envOfC "longest_row" (defScope (top 19)) s.heap.objs.size f cdv))) : DSs (cxOf CX0 K.p K.w K.k mg base ["one", "other", "most", "found", "late", "at", "line", "left", "fits", "here"] "longest_row" (defScope (top 19)) f cdv A outer s H E).nox (defBody (top 19)) b_longest_row :=
  by
  delta b_longest_row
  delta A_b_longest_row
  delta l_longest_row_2
  delta A_l_longest_row_2
  delta lb_longest_row_2
  delta A_lb_longest_row_2
  delta l_longest_row_1
  delta A_l_longest_row_1
  delta lm_longest_row_1
  delta A_lm_longest_row_1
  delta lc_longest_row_1
  delta A_lc_longest_row_1
  exact (dss_cons (ds_set sc_longest_row.nd (i := 2) rfl (.inr rfl) (de_ret (dr_g [.b, .b] g_most_behind_0 hr (by decide) (by rfl) (da_cons (dvn 0) (da_cons (dvn 1) da_nil)))))
    (dss_cons (ds_set sc_longest_row.nd (i := 3) rfl (.inl rfl) (de_own (df_lst da_nil)))
    (dss_cons (ds_set sc_longest_row.nd (i := 4) rfl (.inl rfl) de_int)
    (dss_cons (ds_for PassesOwn.never rfl (di_enum (by rfl) B.enumerate (dvn 0)) (dg_tup rfl (dgs_cons (dg_name sc_longest_row.nd (i := 5) rfl (.inr rfl)) (dgs_cons (dg_name sc_longest_row.nd (i := 6) rfl (.inr rfl)) dgs_nil)))
    (dss_cons (ds_set sc_longest_row.nd (i := 7) rfl (.inr rfl) (de_op op_sub opv_sub (de_ix (de_ix (dvn 2) de_int (fun _ _ => rfl)) de_int (fun _ _ => rfl)) (de_cb call_len cv_len (by rfl) B.len boot_len (da_cons (dvn 3) da_nil))))
    (dss_cons (ds_setLc (own := [("here", 9)]) (i := 8) (k := false) rfl sc_longest_row.nd rfl rfl rfl (di_rng2 (by rfl) B.range (da_cons (dvn 4) (da_cons (de_cb call_len cv_len (by rfl) B.len boot_len (da_cons (dvn 1) da_nil)) da_nil))) (blkOk_by (N := ["one", "other", "most", "found", "late", "at", "line", "left", "fits", "here"]) (sc := defScope (top 19)) (by decide +kernel)) (fun _ _ _ _ _ => (dn_name sc_longest_row.nd (i := 9) rfl (by first | exact .inl rfl | exact .inr rfl))) (fun _ _ _ _ _ => (dts_one (dt_w (dw_and (dt_cmp (op_eqP hr.units) opv_eq (dvn 6) (de_ix (dvn 1) (dvn 9) (fun _ _ => rfl)) (by rfl)) (dw_and1 (dt_cmp (op_eqP hr.units) opv_eq (de_ix (de_ix (dvn 2) (de_op opr_add opv_add (dvn 5) de_int) (fun _ _ => rfl)) (de_op opr_add opv_add (dvn 9) de_int) (fun _ _ => rfl)) (de_op op_sub opv_sub (dvn 7) de_int) (by rfl))))))) (fun _ _ _ _ _ => (dvn 9)))
    (dss_one (ds_if (dt_cmp (op_neP hr.units) opv_eq (dvn 8) (de_fr (df_lst da_nil)) (by rfl))
    (dss_cons (ds_expr (de_app (dvn 3) (da_cons (de_tup (da_cons (dvn 5) (da_cons (de_ix (dvn 8) de_int (fun _ _ => rfl)) da_nil))) da_nil)))
    (dss_one (ds_set sc_longest_row.nd (i := 4) rfl (.inl rfl) (de_op opr_add opv_add (de_ix (dvn 8) de_int (fun _ _ => rfl)) de_int))))
    dss_nil)))))
    (dss_one (ds_ret (dvn 3)))))))
theorem o_longest_row {K : Kc} {mg : Str → Option Value} {base : Heap} (B : Bi mg) (g_most_behind_0 : Gd K mg base 1 "most_behind" m_most_behind []) {f : Addr} {fd : FuncData} (F : FunD K.k "longest_row" "longest_row" (defArgs (top 19)) (defBody (top 19)) (defScope (top 19)) [] [] f fd) : FnOk K.p K.w K.k mg base CX0 2 f fd ["one", "other"] (spF K m_longest_row) := fn_okx F sc_longest_row fun cdv A outer s H E hr => d_longest_row B g_most_behind_0 cdv A outer s H E hr
theorem sc_common_row : FnScope ["one", "other"] ["one", "other"] (defScope (top 20)) := ⟨rfl, rfl, rfl, by decide +kernel, rfl, by decide +kernel, by decide +kernel⟩
theorem d_common_row {K : Kc} {mg : Str → Option Value} {base : Heap} (B : Bi mg) (g_check_lines_0 : Gd K mg base 4 "check_lines" m_check_lines []) (g_longest_row_0 : Gd K mg base 2 "longest_row" m_longest_row []) {f : Addr} (cdv : Value) (A : Around) (outer : List Env) (s : Shared) (H : Hp) (E : XK) (hr : Room 4 (A.deeper (envOfC "common_row" (defScope (top 20)) s.heap.objs.size f cdv))) : DSs (cxOf CX0 K.p K.w K.k mg base ["one", "other"] "common_row" (defScope (top 20)) f cdv A outer s H E).nox (defBody (top 20)) b_common_row :=
  by
  delta b_common_row
  delta A_b_common_row
  exact (dss_cons (ds_expr (de_ret (dr_g [.b] g_check_lines_0 hr (by decide) (by rfl) (da_cons (dvn 0) da_nil))))
    (dss_cons (ds_expr (de_ret (dr_g [.b] g_check_lines_0 hr (by decide) (by rfl) (da_cons (dvn 1) da_nil))))
    (dss_one (ds_ret (de_back (dr_g [.b, .b] g_longest_row_0 hr (by decide) (by rfl) (da_cons (dvn 0) (da_cons (dvn 1) da_nil))))))))
theorem o_common_row {K : Kc} {mg : Str → Option Value} {base : Heap} (B : Bi mg) (g_check_lines_0 : Gd K mg base 4 "check_lines" m_check_lines []) (g_longest_row_0 : Gd K mg base 2 "longest_row" m_longest_row []) {f : Addr} {fd : FuncData} (F : FunD K.k "common_row" "common_row" (defArgs (top 20)) (defBody (top 20)) (defScope (top 20)) [] [] f fd) : FnOk K.p K.w K.k mg base CX0 5 f fd ["one", "other"] (spF K m_common_row) := fn_okx F sc_common_row fun cdv A outer s H E hr => d_common_row B g_check_lines_0 g_longest_row_0 cdv A outer s H E hr
theorem sc_is_thread : FnScope ["value"] ["value"] (defScope (top 22)) := ⟨rfl, rfl, rfl, by decide +kernel, rfl, by decide +kernel, by decide +kernel⟩
theorem d_is_thread {K : Kc} {mg : Str → Option Value} {base : Heap} (B : Bi mg) (g_is_count_0 : Gd K mg base 2 "is_count" m_is_count []) (g_is_count_1 : Gd K mg base 2 "is_count" m_is_count [.int 0]) (g_is_line_0 : Gd K mg base 2 "is_line" m_is_line []) (g_is_tuple_of_0 : Gd K mg base 1 "is_tuple_of" m_is_tuple_of []) {f : Addr} (cdv : Value) (A : Around) (outer : List Env) (s : Shared) (H : Hp) (E : XK) (hr : Room 2 (A.deeper (envOfC "is_thread" (defScope (top 22)) s.heap.objs.size f cdv))) : DSs (cxOf CX0 K.p K.w K.k mg base ["value"] "is_thread" (defScope (top 22)) f cdv A outer s H E).nox (defBody (top 22)) b_is_thread :=
  by
  delta b_is_thread
  delta A_b_is_thread
  exact (dss_cons (ds_if (dt_w (dw_or (dt_not (dt_val (de_ret (dr_g [.b, .b] g_is_tuple_of_0 hr (by decide) (by rfl) (da_cons (dvn 0) (da_cons de_int da_nil)))))) (dw_or (dt_not (dt_val (de_ret (dr_g [.b] g_is_line_0 hr (by decide) (by rfl) (da_cons (de_ix (dvn 0) de_int (fun _ _ => rfl)) da_nil))))) (dw_or1 (dt_not (dt_val (de_ret (dr_gd [.b, .b] g_is_count_1 hr (by decide) (by rfl) (da_cons (de_ix (dvn 0) de_int (fun _ _ => rfl)) da_nil)))))))))
    (dss_one (ds_ret de_bl))
    dss_nil)
    (dss_one (ds_ret (de_or (de_cmp op_isN opv_isN (de_ix (dvn 0) de_int (fun _ _ => rfl)) de_non (by rfl)) (de_and1 (de_ret (dr_g [.b, .b] g_is_count_0 hr (by decide) (by rfl) (da_cons (de_ix (dvn 0) de_int (fun _ _ => rfl)) (da_cons (de_op opr_add opv_add (de_ix (dvn 0) de_int (fun _ _ => rfl)) de_int) da_nil)))))))))
theorem o_is_thread {K : Kc} {mg : Str → Option Value} {base : Heap} (B : Bi mg) (g_is_count_0 : Gd K mg base 2 "is_count" m_is_count []) (g_is_count_1 : Gd K mg base 2 "is_count" m_is_count [.int 0]) (g_is_line_0 : Gd K mg base 2 "is_line" m_is_line []) (g_is_tuple_of_0 : Gd K mg base 1 "is_tuple_of" m_is_tuple_of []) {f : Addr} {fd : FuncData} (F : FunD K.k "is_thread" "is_thread" (defArgs (top 22)) (defBody (top 22)) (defScope (top 22)) [] [] f fd) : FnOk K.p K.w K.k mg base CX0 3 f fd ["value"] (spF K m_is_thread) := fn_okx F sc_is_thread fun cdv A outer s H E hr => d_is_thread B g_is_count_0 g_is_count_1 g_is_line_0 g_is_tuple_of_0 cdv A outer s H E hr
theorem sc_is_weave : FnScope ["value", "thread"] ["value"] (defScope (top 23)) := ⟨rfl, rfl, rfl, by decide +kernel, rfl, by decide +kernel, by decide +kernel⟩
theorem d_is_weave {K : Kc} {mg : Str → Option Value} {base : Heap} (B : Bi mg) (g_is_thread_0 : Gd K mg base 3 "is_thread" m_is_thread []) {f : Addr} (cdv : Value) (A : Around) (outer : List Env) (s : Shared) (H : Hp) (E : XK) (hr : Room 3 (A.deeper (envOfC "is_weave" (defScope (top 23)) s.heap.objs.size f cdv))) : DSs (cxOf CX0 K.p K.w K.k mg base ["value", "thread"] "is_weave" (defScope (top 23)) f cdv A outer s H E).nox (defBody (top 23)) b_is_weave :=
  by
  delta b_is_weave
  delta A_b_is_weave
  delta l_is_weave_1
  delta A_l_is_weave_1
  delta lm_is_weave_1
  delta A_lm_is_weave_1
  exact (dss_one (ds_ret (de_and (de_is (by rfl) B.isinstance (by rfl) B.list boot_list (by decide) (dvn 0)) (de_and1 (de_cb (cr_all rfl) cv_all (by rfl) B.all boot_all (da_cons (de_fr (df_lc (own := [("thread", 1)]) rfl sc_is_weave.nd (di_list (dvn 0)) (blkOk_by (N := ["value", "thread"]) (sc := defScope (top 23)) (by decide +kernel)) (fun _ _ _ _ _ => (dn_name sc_is_weave.nd (i := 1) rfl (by first | exact .inl rfl | exact .inr rfl))) (fun _ _ _ _ _ => dts_nil) (fun _ _ _ _ _ => (de_ret (dr_g [.b] g_is_thread_0 hr (by decide) (by rfl) (da_cons (dvn 1) da_nil)))))) da_nil))))))
theorem o_is_weave {K : Kc} {mg : Str → Option Value} {base : Heap} (B : Bi mg) (g_is_thread_0 : Gd K mg base 3 "is_thread" m_is_thread []) {f : Addr} {fd : FuncData} (F : FunD K.k "is_weave" "is_weave" (defArgs (top 23)) (defBody (top 23)) (defScope (top 23)) [] [] f fd) : FnOk K.p K.w K.k mg base CX0 4 f fd ["value"] (spF K m_is_weave) := fn_okx F sc_is_weave fun cdv A outer s H E hr => d_is_weave B g_is_thread_0 cdv A outer s H E hr
theorem sc_check_weave : FnScope ["weave"] ["weave"] (defScope (top 24)) := ⟨rfl, rfl, rfl, by decide +kernel, rfl, by decide +kernel, by decide +kernel⟩
theorem d_check_weave {K : Kc} {mg : Str → Option Value} {base : Heap} (B : Bi mg) (g_is_weave_0 : Gd K mg base 4 "is_weave" m_is_weave []) {f : Addr} (cdv : Value) (A : Around) (outer : List Env) (s : Shared) (H : Hp) (E : XK) (hr : Room 4 (A.deeper (envOfC "check_weave" (defScope (top 24)) s.heap.objs.size f cdv))) : DSs (cxOf CX0 K.p K.w K.k mg base ["weave"] "check_weave" (defScope (top 24)) f cdv A outer s H E).nox (defBody (top 24)) b_check_weave :=
  by
  delta b_check_weave
  delta A_b_check_weave
  exact (dss_one (ds_if (dt_not (dt_val (de_ret (dr_g [.b] g_is_weave_0 hr (by decide) (by rfl) (da_cons (dvn 0) da_nil)))))
    (dss_one ds_never)
    dss_nil))
theorem o_check_weave {K : Kc} {mg : Str → Option Value} {base : Heap} (B : Bi mg) (g_is_weave_0 : Gd K mg base 4 "is_weave" m_is_weave []) {f : Addr} {fd : FuncData} (F : FunD K.k "check_weave" "check_weave" (defArgs (top 24)) (defBody (top 24)) (defScope (top 24)) [] [] f fd) : FnOk K.p K.w K.k mg base CX0 5 f fd ["weave"] (spF K m_check_weave) := fn_okx F sc_check_weave fun cdv A outer s H E hr => d_check_weave B g_is_weave_0 cdv A outer s H E hr
theorem sc_check_numbers : FnScope ["numbers", "number"] ["numbers"] (defScope (top 25)) := ⟨rfl, rfl, rfl, by decide +kernel, rfl, by decide +kernel, by decide +kernel⟩
theorem d_check_numbers {K : Kc} {mg : Str → Option Value} {base : Heap} (B : Bi mg) (g_is_count_0 : Gd K mg base 2 "is_count" m_is_count []) {f : Addr} (cdv : Value) (A : Around) (outer : List Env) (s : Shared) (H : Hp) (E : XK) (hr : Room 2 (A.deeper (envOfC "check_numbers" (defScope (top 25)) s.heap.objs.size f cdv))) : DSs (cxOf CX0 K.p K.w K.k mg base ["numbers", "number"] "check_numbers" (defScope (top 25)) f cdv A outer s H E).nox (defBody (top 25)) b_check_numbers :=
  by
  delta b_check_numbers
  delta A_b_check_numbers
  delta l_check_numbers_1
  delta A_l_check_numbers_1
  delta lm_check_numbers_1
  delta A_lm_check_numbers_1
  exact (dss_cons (ds_if (dt_w (dw_or (dt_not (dt_val (de_is (by rfl) B.isinstance (by rfl) B.list boot_list (by decide) (dvn 0)))) (dw_or1 (dt_not (dt_val (de_cb (cr_all rfl) cv_all (by rfl) B.all boot_all (da_cons (de_fr (df_lc (own := [("number", 1)]) rfl sc_check_numbers.nd (di_list (dvn 0)) (blkOk_by (N := ["numbers", "number"]) (sc := defScope (top 25)) (by decide +kernel)) (fun _ _ _ _ _ => (dn_name sc_check_numbers.nd (i := 1) rfl (by first | exact .inl rfl | exact .inr rfl))) (fun _ _ _ _ _ => dts_nil) (fun _ _ _ _ _ => (de_ret (dr_g [.b, .b] g_is_count_0 hr (by decide) (by rfl) (da_cons (dvn 1) (da_cons de_int da_nil))))))) da_nil)))))))
    (dss_one ds_never)
    dss_nil)
    (dss_one (ds_if (dt_cmp op_lt opv_lt (de_lenSet rfl (by rfl) B.len (by rfl) B.set (dvn 0)) (de_cb call_len cv_len (by rfl) B.len boot_len (da_cons (dvn 0) da_nil)) (by rfl))
    (dss_one ds_never)
    dss_nil)))
theorem o_check_numbers {K : Kc} {mg : Str → Option Value} {base : Heap} (B : Bi mg) (g_is_count_0 : Gd K mg base 2 "is_count" m_is_count []) {f : Addr} {fd : FuncData} (F : FunD K.k "check_numbers" "check_numbers" (defArgs (top 25)) (defBody (top 25)) (defScope (top 25)) [] [] f fd) : FnOk K.p K.w K.k mg base CX0 3 f fd ["numbers"] (spF K m_check_numbers) := fn_okx F sc_check_numbers fun cdv A outer s H E hr => d_check_numbers B g_is_count_0 cdv A outer s H E hr
theorem sc_stands_at : FnScope ["thread", "k"] ["thread", "k"] (defScope (top 26)) := ⟨rfl, rfl, rfl, by decide +kernel, rfl, by decide +kernel, by decide +kernel⟩
theorem d_stands_at {K : Kc} {mg : Str → Option Value} {base : Heap} (B : Bi mg) {f : Addr} (cdv : Value) (A : Around) (outer : List Env) (s : Shared) (H : Hp) (E : XK) (hr : Room 0 (A.deeper (envOfC "stands_at" (defScope (top 26)) s.heap.objs.size f cdv))) : DSs (cxOf CX0 K.p K.w K.k mg base ["thread", "k"] "stands_at" (defScope (top 26)) f cdv A outer s H E).nox (defBody (top 26)) b_stands_at :=
  by
  delta b_stands_at
  delta A_b_stands_at
  exact (dss_one (ds_ret (de_and (de_cmp op_le opv_le (de_ix (dvn 0) de_int (fun _ _ => rfl)) (dvn 1) (by rfl)) (de_and1 (de_or (de_cmp op_isN opv_isN (de_ix (dvn 0) de_int (fun _ _ => rfl)) de_non (by rfl)) (de_and1 (de_cmp op_gt opv_gt (de_ix (dvn 0) de_int (fun _ _ => rfl)) (dvn 1) (by rfl))))))))
theorem o_stands_at {K : Kc} {mg : Str → Option Value} {base : Heap} (B : Bi mg) {f : Addr} {fd : FuncData} (F : FunD K.k "stands_at" "stands_at" (defArgs (top 26)) (defBody (top 26)) (defScope (top 26)) [] [] f fd) : FnOk K.p K.w K.k mg base CX0 1 f fd ["thread", "k"] (spF K m_stands_at) := fn_okx F sc_stands_at fun cdv A outer s H E hr => d_stands_at B  cdv A outer s H E hr
theorem sc_greatest_number : FnScope ["weave", "line", "put", "gone"] ["weave"] (defScope (top 27)) := ⟨rfl, rfl, rfl, by decide +kernel, rfl, by decide +kernel, by decide +kernel⟩
theorem d_greatest_number {K : Kc} {mg : Str → Option Value} {base : Heap} (B : Bi mg) {f : Addr} (cdv : Value) (A : Around) (outer : List Env) (s : Shared) (H : Hp) (E : XK) (hr : Room 0 (A.deeper (envOfC "greatest_number" (defScope (top 27)) s.heap.objs.size f cdv))) : DSs (cxOf CX0 K.p K.w K.k mg base ["weave", "line", "put", "gone"] "greatest_number" (defScope (top 27)) f cdv A outer s H E).nox (defBody (top 27)) b_greatest_number :=
  by
  delta b_greatest_number
  delta A_b_greatest_number
  delta l_greatest_number_1
  delta A_l_greatest_number_1
  delta lm_greatest_number_1
  delta A_lm_greatest_number_1
  exact (dss_one (ds_ret (de_cb (cr_max rfl) cv_maxL (by rfl) B.max boot_max (da_cons (de_fr (df_cat (de_fr (df_lst (da_cons de_int da_nil))) (de_fr (df_lc (own := [("line", 1), ("put", 2), ("gone", 3)]) rfl sc_greatest_number.nd (di_list (dvn 0)) (blkOk_by (N := ["weave", "line", "put", "gone"]) (sc := defScope (top 27)) (by decide +kernel)) (fun _ _ _ _ _ => (dn_tup rfl (dns_cons sc_greatest_number.nd (i := 1) rfl (by first | exact .inl rfl | exact .inr rfl) (dns_cons sc_greatest_number.nd (i := 2) rfl (by first | exact .inl rfl | exact .inr rfl) (dns_cons sc_greatest_number.nd (i := 3) rfl (by first | exact .inl rfl | exact .inr rfl) dns_nil))))) (fun _ _ _ _ _ => dts_nil) (fun _ _ _ _ _ => (de_if (dt_cmp op_isN opv_isN (dvn 3) de_non (by rfl)) (dvn 2) (dvn 3))))))) da_nil))))
theorem o_greatest_number {K : Kc} {mg : Str → Option Value} {base : Heap} (B : Bi mg) {f : Addr} {fd : FuncData} (F : FunD K.k "greatest_number" "greatest_number" (defArgs (top 27)) (defBody (top 27)) (defScope (top 27)) [] [] f fd) : FnOk K.p K.w K.k mg base CX0 1 f fd ["weave"] (spF K m_greatest_number) := fn_okx F sc_greatest_number fun cdv A outer s H E hr => d_greatest_number B  cdv A outer s H E hr
theorem sc_lines_at : FnScope ["weave", "k", "thread"] ["weave", "k"] (defScope (top 28)) := ⟨rfl, rfl, rfl, by decide +kernel, rfl, by decide +kernel, by decide +kernel⟩
theorem d_lines_at {K : Kc} {mg : Str → Option Value} {base : Heap} (B : Bi mg) (g_check_count_2 : Gd K mg base 3 "check_count" m_check_count [.int 0, .none]) (g_check_weave_0 : Gd K mg base 5 "check_weave" m_check_weave []) (g_stands_at_0 : Gd K mg base 1 "stands_at" m_stands_at []) {f : Addr} (cdv : Value) (A : Around) (outer : List Env) (s : Shared) (H : Hp) (E : XK) (hr : Room 5 (A.deeper (envOfC "lines_at" (defScope (top 28)) s.heap.objs.size f cdv))) : DSs (cxOf CX0 K.p K.w K.k mg base ["weave", "k", "thread"] "lines_at" (defScope (top 28)) f cdv A outer s H E).nox (defBody (top 28)) b_lines_at :=
  by
  delta b_lines_at
  delta A_b_lines_at
  delta l_lines_at_1
  delta A_l_lines_at_1
  delta lm_lines_at_1
  delta A_lm_lines_at_1
  delta lc_lines_at_1
  delta A_lc_lines_at_1
  exact (dss_cons (ds_expr (de_ret (dr_g [.b] g_check_weave_0 hr (by decide) (by rfl) (da_cons (dvn 0) da_nil))))
    (dss_cons (ds_expr (de_ret (dr_gd [.b, .b, .b] g_check_count_2 hr (by decide) (by rfl) (da_cons (dvn 1) da_nil))))
    (dss_one (ds_ret (de_own (df_lc (own := [("thread", 2)]) rfl sc_lines_at.nd (di_list (dvn 0)) (blkOk_by (N := ["weave", "k", "thread"]) (sc := defScope (top 28)) (by decide +kernel)) (fun _ _ _ _ _ => (dn_name sc_lines_at.nd (i := 2) rfl (by first | exact .inl rfl | exact .inr rfl))) (fun _ _ _ _ _ => (dts_one (dt_val (de_ret (dr_g [.b, .b] g_stands_at_0 hr (by decide) (by rfl) (da_cons (dvn 2) (da_cons (dvn 1) da_nil))))))) (fun _ _ _ _ _ => (de_ix (dvn 2) de_int (fun _ _ => rfl)))))))))
theorem o_lines_at {K : Kc} {mg : Str → Option Value} {base : Heap} (B : Bi mg) (g_check_count_2 : Gd K mg base 3 "check_count" m_check_count [.int 0, .none]) (g_check_weave_0 : Gd K mg base 5 "check_weave" m_check_weave []) (g_stands_at_0 : Gd K mg base 1 "stands_at" m_stands_at []) {f : Addr} {fd : FuncData} (F : FunD K.k "lines_at" "lines_at" (defArgs (top 28)) (defBody (top 28)) (defScope (top 28)) [] [] f fd) : FnOk K.p K.w K.k mg base CX0 6 f fd ["weave", "k"] (spF K m_lines_at) := fn_okx F sc_lines_at fun cdv A outer s H E hr => d_lines_at B g_check_count_2 g_check_weave_0 g_stands_at_0 cdv A outer s H E hr
theorem sc_last_change : FnScope ["weave"] ["weave"] (defScope (top 29)) := ⟨rfl, rfl, rfl, by decide +kernel, rfl, by decide +kernel, by decide +kernel⟩
theorem d_last_change {K : Kc} {mg : Str → Option Value} {base : Heap} (B : Bi mg) (g_check_weave_0 : Gd K mg base 5 "check_weave" m_check_weave []) (g_greatest_number_0 : Gd K mg base 1 "greatest_number" m_greatest_number []) {f : Addr} (cdv : Value) (A : Around) (outer : List Env) (s : Shared) (H : Hp) (E : XK) (hr : Room 5 (A.deeper (envOfC "last_change" (defScope (top 29)) s.heap.objs.size f cdv))) : DSs (cxOf CX0 K.p K.w K.k mg base ["weave"] "last_change" (defScope (top 29)) f cdv A outer s H E).nox (defBody (top 29)) b_last_change :=
  by
  delta b_last_change
  delta A_b_last_change
  exact (dss_cons (ds_expr (de_ret (dr_g [.b] g_check_weave_0 hr (by decide) (by rfl) (da_cons (dvn 0) da_nil))))
    (dss_one (ds_ret (de_back (dr_g [.b] g_greatest_number_0 hr (by decide) (by rfl) (da_cons (dvn 0) da_nil))))))
theorem o_last_change {K : Kc} {mg : Str → Option Value} {base : Heap} (B : Bi mg) (g_check_weave_0 : Gd K mg base 5 "check_weave" m_check_weave []) (g_greatest_number_0 : Gd K mg base 1 "greatest_number" m_greatest_number []) {f : Addr} {fd : FuncData} (F : FunD K.k "last_change" "last_change" (defArgs (top 29)) (defBody (top 29)) (defScope (top 29)) [] [] f fd) : FnOk K.p K.w K.k mg base CX0 6 f fd ["weave"] (spF K m_last_change) := fn_okx F sc_last_change fun cdv A outer s H E hr => d_last_change B g_check_weave_0 g_greatest_number_0 cdv A outer s H E hr
theorem sc_woven_on : FnScope ["weave", "newer", "k", "elder", "kept", "found", "put", "behind", "late", "line", "place", "thread", "at"] ["weave", "newer", "k"] (defScope (top 30)) := ⟨rfl, rfl, rfl, by decide +kernel, rfl, by decide +kernel, by decide +kernel⟩
theorem d_woven_on {K : Kc} {mg : Str → Option Value} {base : Heap} (B : Bi mg) (g_common_row_0 : Gd K mg base 5 "common_row" m_common_row []) (g_stands_at_0 : Gd K mg base 1 "stands_at" m_stands_at []) {f : Addr} (cdv : Value) (A : Around) (outer : List Env) (s : Shared) (H : Hp) (E : XK) (hr : Room 5 (A.deeper (envOfC "woven_on" (defScope (top 30)) s.heap.objs.size f cdv))) : DSs (cxOf CX0 K.p K.w K.k mg base ["weave", "newer", "k", "elder", "kept", "found", "put", "behind", "late", "line", "place", "thread", "at"] "woven_on" (defScope (top 30)) f cdv A outer s H E).nox (defBody (top 30)) b_woven_on :=
  by
  delta b_woven_on
  delta A_b_woven_on
  delta l_woven_on_5
  delta A_l_woven_on_5
  delta lb_woven_on_5
  delta A_lb_woven_on_5
  delta l_woven_on_4
  delta A_l_woven_on_4
  delta lb_woven_on_4
  delta A_lb_woven_on_4
  delta l_woven_on_3
  delta A_l_woven_on_3
  delta lm_woven_on_3
  delta A_lm_woven_on_3
  delta lk_woven_on_3
  delta A_lk_woven_on_3
  delta l_woven_on_2
  delta A_l_woven_on_2
  delta lm_woven_on_2
  delta A_lm_woven_on_2
  delta l_woven_on_1
  delta A_l_woven_on_1
  delta lm_woven_on_1
  delta A_lm_woven_on_1
  delta lc_woven_on_1
  delta A_lc_woven_on_1
  exact (dss_cons (ds_set sc_woven_on.nd (i := 3) rfl (.inr rfl) (de_fr (df_lc (own := [("place", 10), ("thread", 11)]) rfl sc_woven_on.nd (di_enum (by rfl) B.enumerate (dvn 0)) (blkOk_by (N := ["weave", "newer", "k", "elder", "kept", "found", "put", "behind", "late", "line", "place", "thread", "at"]) (sc := defScope (top 30)) (by decide +kernel)) (fun _ _ _ _ _ => (dn_tup rfl (dns_cons sc_woven_on.nd (i := 10) rfl (by first | exact .inl rfl | exact .inr rfl) (dns_cons sc_woven_on.nd (i := 11) rfl (by first | exact .inl rfl | exact .inr rfl) dns_nil)))) (fun _ _ _ _ _ => (dts_one (dt_val (de_ret (dr_g [.b, .b] g_stands_at_0 hr (by decide) (by rfl) (da_cons (dvn 11) (da_cons (de_op op_sub opv_sub (dvn 2) de_int) da_nil))))))) (fun _ _ _ _ _ => (dvn 10)))))
    (dss_cons (ds_setDc (own := [("at", 12), ("late", 8)]) (i := 4) (kp := true) rfl sc_woven_on.nd rfl rfl rfl (di_list (de_ret (dr_g [.b, .b] g_common_row_0 hr (by decide) (by rfl) (da_cons (de_fr (df_lc (own := [("place", 10)]) rfl sc_woven_on.nd (di_list (dvn 3)) (blkOk_by (N := ["weave", "newer", "k", "elder", "kept", "found", "put", "behind", "late", "line", "place", "thread", "at"]) (sc := defScope (top 30)) (by decide +kernel)) (fun _ _ _ _ _ => (dn_name sc_woven_on.nd (i := 10) rfl (by first | exact .inl rfl | exact .inr rfl))) (fun _ _ _ _ _ => dts_nil) (fun _ _ _ _ _ => (de_ix (de_ix (dvn 0) (dvn 10) (fun _ _ => rfl)) de_int (fun _ _ => rfl))))) (da_cons (dvn 1) da_nil))))) (blkOk_by (N := ["weave", "newer", "k", "elder", "kept", "found", "put", "behind", "late", "line", "place", "thread", "at"]) (sc := defScope (top 30)) (by decide +kernel)) (fun _ _ _ _ _ => (dn_tup rfl (dns_cons sc_woven_on.nd (i := 12) rfl (by first | exact .inl rfl | exact .inr rfl) (dns_cons sc_woven_on.nd (i := 8) rfl (by first | exact .inl rfl | exact .inr rfl) dns_nil)))) (fun _ _ _ _ _ => dts_nil) (fun _ _ _ _ _ => (dvn 8)) (fun _ _ _ _ _ => (de_ix (dvn 3) (dvn 12) (fun _ _ => rfl))))
    (dss_cons (ds_par rfl sc_woven_on.nd (i := 6) (j := 7) rfl rfl (by decide) rfl rfl (da_cons (de_own (df_ndisp (de_own (df_lst da_nil)))) (da_cons de_non da_nil)))
    (dss_cons (ds_for PassesOwn.never rfl (di_enum (by rfl) B.enumerate (dvn 1)) (dg_tup rfl (dgs_cons (dg_name sc_woven_on.nd (i := 8) rfl (.inl rfl)) (dgs_cons (dg_name sc_woven_on.nd (i := 9) rfl (.inl rfl)) dgs_nil)))
    (dss_one (ds_if (dt_din (hu_of hr) (dvn 8) (dvn 4) (by rfl))
    (dss_cons (ds_set sc_woven_on.nd (i := 7) rfl (.inl rfl) (de_dget (hu_of hr) (dvn 4) (dvn 8) (fun _ _ => rfl)))
    (dss_one (ds_dput (hu_of hr) (dvn 6) (dvn 7) (de_own (df_lst da_nil)) (by rfl))))
    (dss_one (ds_expr (de_app (de_dget (hu_of hr) (dvn 6) (dvn 7) (fun _ _ => rfl)) (da_cons (de_tup (da_cons (dvn 9) (da_cons (dvn 2) (da_cons de_non da_nil)))) da_nil)))))))
    (dss_cons (ds_set sc_woven_on.nd (i := 5) rfl (.inl rfl) (de_dget (hu_of hr) (dvn 6) de_non (fun _ _ => rfl)))
    (dss_cons (ds_for PassesOwn.never rfl (di_enum (by rfl) B.enumerate (dvn 0)) (dg_tup rfl (dgs_cons (dg_name sc_woven_on.nd (i := 10) rfl (.inl rfl)) (dgs_cons (dg_name sc_woven_on.nd (i := 11) rfl (.inl rfl)) dgs_nil)))
    (dss_cons (ds_if (dt_w (dw_and (dt_val (de_ret (dr_g [.b, .b] g_stands_at_0 hr (by decide) (by rfl) (da_cons (dvn 11) (da_cons (de_op op_sub opv_sub (dvn 2) de_int) da_nil))))) (dw_and1 (dt_dnotin (hu_of hr) (dvn 10) (dvn 6) (by rfl)))))
    (dss_one (ds_set sc_woven_on.nd (i := 11) rfl (.inl rfl) (de_tup (da_cons (de_ix (dvn 11) de_int (fun _ _ => rfl)) (da_cons (de_ix (dvn 11) de_int (fun _ _ => rfl)) (da_cons (dvn 2) da_nil))))))
    dss_nil)
    (dss_one (ds_set sc_woven_on.nd (i := 5) rfl (.inl rfl) (de_fr (df_cat (de_fr (df_cat (dvn 5) (de_fr (df_lst (da_cons (dvn 11) da_nil))))) (de_dget2 (hu_of hr) (dvn 6) (dvn 10) (de_fr (df_lst da_nil)) ⟨rfl, rfl, rfl, rfl⟩)))))))
    (dss_one (ds_ret (dvn 5)))))))))
theorem o_woven_on {K : Kc} {mg : Str → Option Value} {base : Heap} (B : Bi mg) (g_common_row_0 : Gd K mg base 5 "common_row" m_common_row []) (g_stands_at_0 : Gd K mg base 1 "stands_at" m_stands_at []) {f : Addr} {fd : FuncData} (F : FunD K.k "woven_on" "woven_on" (defArgs (top 30)) (defBody (top 30)) (defScope (top 30)) [] [] f fd) : FnOk K.p K.w K.k mg base CX0 6 f fd ["weave", "newer", "k"] (spF K m_woven_on) := fn_okx F sc_woven_on fun cdv A outer s H E hr => d_woven_on B g_common_row_0 g_stands_at_0 cdv A outer s H E hr
theorem sc_is_list_of_lines : FnScope ["value", "line"] ["value"] (defScope (top 31)) := ⟨rfl, rfl, rfl, by decide +kernel, rfl, by decide +kernel, by decide +kernel⟩
theorem d_is_list_of_lines {K : Kc} {mg : Str → Option Value} {base : Heap} (B : Bi mg) (g_is_line_0 : Gd K mg base 2 "is_line" m_is_line []) {f : Addr} (cdv : Value) (A : Around) (outer : List Env) (s : Shared) (H : Hp) (E : XK) (hr : Room 2 (A.deeper (envOfC "is_list_of_lines" (defScope (top 31)) s.heap.objs.size f cdv))) : DSs (cxOf CX0 K.p K.w K.k mg base ["value", "line"] "is_list_of_lines" (defScope (top 31)) f cdv A outer s H E).nox (defBody (top 31)) b_is_list_of_lines :=
  by
  delta b_is_list_of_lines
  delta A_b_is_list_of_lines
  delta l_is_list_of_lines_1
  delta A_l_is_list_of_lines_1
  delta lm_is_list_of_lines_1
  delta A_lm_is_list_of_lines_1
  exact (dss_one (ds_ret (de_and (de_is (by rfl) B.isinstance (by rfl) B.list boot_list (by decide) (dvn 0)) (de_and1 (de_cb (cr_all rfl) cv_all (by rfl) B.all boot_all (da_cons (de_fr (df_lc (own := [("line", 1)]) rfl sc_is_list_of_lines.nd (di_list (dvn 0)) (blkOk_by (N := ["value", "line"]) (sc := defScope (top 31)) (by decide +kernel)) (fun _ _ _ _ _ => (dn_name sc_is_list_of_lines.nd (i := 1) rfl (by first | exact .inl rfl | exact .inr rfl))) (fun _ _ _ _ _ => dts_nil) (fun _ _ _ _ _ => (de_ret (dr_g [.b] g_is_line_0 hr (by decide) (by rfl) (da_cons (dvn 1) da_nil)))))) da_nil))))))
theorem o_is_list_of_lines {K : Kc} {mg : Str → Option Value} {base : Heap} (B : Bi mg) (g_is_line_0 : Gd K mg base 2 "is_line" m_is_line []) {f : Addr} {fd : FuncData} (F : FunD K.k "is_list_of_lines" "is_list_of_lines" (defArgs (top 31)) (defBody (top 31)) (defScope (top 31)) [] [] f fd) : FnOk K.p K.w K.k mg base CX0 3 f fd ["value"] (spF K m_is_list_of_lines) := fn_okx F sc_is_list_of_lines fun cdv A outer s H E hr => d_is_list_of_lines B g_is_line_0 cdv A outer s H E hr
theorem sc_woven_lines : FnScope ["lists", "weave", "k", "line", "lines"] ["lists"] (defScope (top 32)) := ⟨rfl, rfl, rfl, by decide +kernel, rfl, by decide +kernel, by decide +kernel⟩
theorem d_woven_lines {K : Kc} {mg : Str → Option Value} {base : Heap} (B : Bi mg) (g_is_list_of_lines_0 : Gd K mg base 3 "is_list_of_lines" m_is_list_of_lines []) (g_woven_on_0 : Gd K mg base 6 "woven_on" m_woven_on []) {f : Addr} (cdv : Value) (A : Around) (outer : List Env) (s : Shared) (H : Hp) (E : XK) (hr : Room 6 (A.deeper (envOfC "woven_lines" (defScope (top 32)) s.heap.objs.size f cdv))) : DSs (cxOf CX0 K.p K.w K.k mg base ["lists", "weave", "k", "line", "lines"] "woven_lines" (defScope (top 32)) f cdv A outer s H E).nox (defBody (top 32)) b_woven_lines :=
  by
  delta b_woven_lines
  delta A_b_woven_lines
  delta l_woven_lines_3
  delta A_l_woven_lines_3
  delta lb_woven_lines_3
  delta A_lb_woven_lines_3
  delta l_woven_lines_2
  delta A_l_woven_lines_2
  delta lm_woven_lines_2
  delta A_lm_woven_lines_2
  delta l_woven_lines_1
  delta A_l_woven_lines_1
  delta lm_woven_lines_1
  delta A_lm_woven_lines_1
  exact (dss_cons (ds_if (dt_w (dw_or (dt_not (dt_val (de_is (by rfl) B.isinstance (by rfl) B.list boot_list (by decide) (dvn 0)))) (dw_or (dt_cmp (op_eqP hr.units) opv_eq (dvn 0) (de_fr (df_lst da_nil)) (by rfl)) (dw_or1 (dt_not (dt_val (de_cb (cr_all rfl) cv_all (by rfl) B.all boot_all (da_cons (de_fr (df_lc (own := [("lines", 4)]) rfl sc_woven_lines.nd (di_list (dvn 0)) (blkOk_by (N := ["lists", "weave", "k", "line", "lines"]) (sc := defScope (top 32)) (by decide +kernel)) (fun _ _ _ _ _ => (dn_name sc_woven_lines.nd (i := 4) rfl (by first | exact .inl rfl | exact .inr rfl))) (fun _ _ _ _ _ => dts_nil) (fun _ _ _ _ _ => (de_ret (dr_g [.b] g_is_list_of_lines_0 hr (by decide) (by rfl) (da_cons (dvn 4) da_nil)))))) da_nil))))))))
    (dss_one ds_never)
    dss_nil)
    (dss_cons (ds_setLc (own := [("line", 3)]) (i := 1) (k := false) rfl sc_woven_lines.nd rfl rfl rfl (di_list (de_ix (dvn 0) de_int (fun _ _ => rfl))) (blkOk_by (N := ["lists", "weave", "k", "line", "lines"]) (sc := defScope (top 32)) (by decide +kernel)) (fun _ _ _ _ _ => (dn_name sc_woven_lines.nd (i := 3) rfl (by first | exact .inl rfl | exact .inr rfl))) (fun _ _ _ _ _ => dts_nil) (fun _ _ _ _ _ => (de_tup (da_cons (dvn 3) (da_cons de_int (da_cons de_non da_nil))))))
    (dss_cons (ds_for PassesOwn.never rfl (di_rng2 (by rfl) B.range (da_cons de_int (da_cons (de_cb call_len cv_len (by rfl) B.len boot_len (da_cons (dvn 0) da_nil)) da_nil))) (dg_name sc_woven_lines.nd (i := 2) rfl (.inl rfl))
    (dss_one (ds_set sc_woven_lines.nd (i := 1) rfl (.inl rfl) (de_ret (dr_g [.b, .b, .f] g_woven_on_0 hr (by decide) (by rfl) (da_cons (dvn 1) (da_cons (de_ix (dvn 0) (dvn 2) (fun _ _ => rfl)) (da_cons (dvn 2) da_nil))))))))
    (dss_one (ds_ret (dvn 1))))))
theorem o_woven_lines {K : Kc} {mg : Str → Option Value} {base : Heap} (B : Bi mg) (g_is_list_of_lines_0 : Gd K mg base 3 "is_list_of_lines" m_is_list_of_lines []) (g_woven_on_0 : Gd K mg base 6 "woven_on" m_woven_on []) {f : Addr} {fd : FuncData} (F : FunD K.k "woven_lines" "woven_lines" (defArgs (top 32)) (defBody (top 32)) (defScope (top 32)) [] [] f fd) : FnOk K.p K.w K.k mg base CX0 7 f fd ["lists"] (spF K m_woven_lines) := fn_okx F sc_woven_lines fun cdv A outer s H E hr => d_woven_lines B g_is_list_of_lines_0 g_woven_on_0 cdv A outer s H E hr
theorem sc_all_left_out : FnScope ["weave", "numbers", "line", "put", "gone"] ["weave", "numbers"] (defScope (top 33)) := ⟨rfl, rfl, rfl, by decide +kernel, rfl, by decide +kernel, by decide +kernel⟩
theorem d_all_left_out {K : Kc} {mg : Str → Option Value} {base : Heap} (B : Bi mg) {f : Addr} (cdv : Value) (A : Around) (outer : List Env) (s : Shared) (H : Hp) (E : XK) (hr : Room 0 (A.deeper (envOfC "all_left_out" (defScope (top 33)) s.heap.objs.size f cdv))) : DSs (cxOf CX0 K.p K.w K.k mg base ["weave", "numbers", "line", "put", "gone"] "all_left_out" (defScope (top 33)) f cdv A outer s H E).nox (defBody (top 33)) b_all_left_out :=
  by
  delta b_all_left_out
  delta A_b_all_left_out
  delta l_all_left_out_1
  delta A_l_all_left_out_1
  delta lm_all_left_out_1
  delta A_lm_all_left_out_1
  delta lc_all_left_out_1
  delta A_lc_all_left_out_1
  exact (dss_one (ds_ret (de_own (df_lc (own := [("line", 2), ("put", 3), ("gone", 4)]) rfl sc_all_left_out.nd (di_list (dvn 0)) (blkOk_by (N := ["weave", "numbers", "line", "put", "gone"]) (sc := defScope (top 33)) (by decide +kernel)) (fun _ _ _ _ _ => (dn_tup rfl (dns_cons sc_all_left_out.nd (i := 2) rfl (by first | exact .inl rfl | exact .inr rfl) (dns_cons sc_all_left_out.nd (i := 3) rfl (by first | exact .inl rfl | exact .inr rfl) (dns_cons sc_all_left_out.nd (i := 4) rfl (by first | exact .inl rfl | exact .inr rfl) dns_nil))))) (fun _ _ _ _ _ => (dts_one (dt_cmp (op_notInP hr.units) opv_in (dvn 3) (dvn 1) (by rfl)))) (fun _ _ _ _ _ => (de_tup (da_cons (dvn 2) (da_cons (dvn 3) (da_cons (de_if (dt_cmp (op_inP hr.units) opv_in (dvn 4) (dvn 1) (by rfl)) de_non (dvn 4)) da_nil)))))))))
theorem o_all_left_out {K : Kc} {mg : Str → Option Value} {base : Heap} (B : Bi mg) {f : Addr} {fd : FuncData} (F : FunD K.k "all_left_out" "all_left_out" (defArgs (top 33)) (defBody (top 33)) (defScope (top 33)) [] [] f fd) : FnOk K.p K.w K.k mg base CX0 1 f fd ["weave", "numbers"] (spF K m_all_left_out) := fn_okx F sc_all_left_out fun cdv A outer s H E hr => d_all_left_out B  cdv A outer s H E hr
theorem sc_left_out : FnScope ["weave", "numbers"] ["weave", "numbers"] (defScope (top 34)) := ⟨rfl, rfl, rfl, by decide +kernel, rfl, by decide +kernel, by decide +kernel⟩
theorem d_left_out {K : Kc} {mg : Str → Option Value} {base : Heap} (B : Bi mg) (g_all_left_out_0 : Gd K mg base 1 "all_left_out" m_all_left_out []) (g_check_numbers_0 : Gd K mg base 3 "check_numbers" m_check_numbers []) (g_check_weave_0 : Gd K mg base 5 "check_weave" m_check_weave []) {f : Addr} (cdv : Value) (A : Around) (outer : List Env) (s : Shared) (H : Hp) (E : XK) (hr : Room 5 (A.deeper (envOfC "left_out" (defScope (top 34)) s.heap.objs.size f cdv))) : DSs (cxOf CX0 K.p K.w K.k mg base ["weave", "numbers"] "left_out" (defScope (top 34)) f cdv A outer s H E).nox (defBody (top 34)) b_left_out :=
  by
  delta b_left_out
  delta A_b_left_out
  exact (dss_cons (ds_expr (de_ret (dr_g [.b] g_check_weave_0 hr (by decide) (by rfl) (da_cons (dvn 0) da_nil))))
    (dss_cons (ds_expr (de_ret (dr_g [.b] g_check_numbers_0 hr (by decide) (by rfl) (da_cons (dvn 1) da_nil))))
    (dss_one (ds_ret (de_back (dr_g [.b, .b] g_all_left_out_0 hr (by decide) (by rfl) (da_cons (dvn 0) (da_cons (dvn 1) da_nil))))))))
theorem o_left_out {K : Kc} {mg : Str → Option Value} {base : Heap} (B : Bi mg) (g_all_left_out_0 : Gd K mg base 1 "all_left_out" m_all_left_out []) (g_check_numbers_0 : Gd K mg base 3 "check_numbers" m_check_numbers []) (g_check_weave_0 : Gd K mg base 5 "check_weave" m_check_weave []) {f : Addr} {fd : FuncData} (F : FunD K.k "left_out" "left_out" (defArgs (top 34)) (defBody (top 34)) (defScope (top 34)) [] [] f fd) : FnOk K.p K.w K.k mg base CX0 6 f fd ["weave", "numbers"] (spF K m_left_out) := fn_okx F sc_left_out fun cdv A outer s H E hr => d_left_out B g_all_left_out_0 g_check_numbers_0 g_check_weave_0 cdv A outer s H E hr
theorem sc_lines_by : FnScope ["weave", "numbers", "others", "k", "line", "put", "gone"] ["weave", "numbers"] (defScope (top 35)) := ⟨rfl, rfl, rfl, by decide +kernel, rfl, by decide +kernel, by decide +kernel⟩
theorem d_lines_by {K : Kc} {mg : Str → Option Value} {base : Heap} (B : Bi mg) (g_all_left_out_0 : Gd K mg base 1 "all_left_out" m_all_left_out []) (g_check_numbers_0 : Gd K mg base 3 "check_numbers" m_check_numbers []) (g_check_weave_0 : Gd K mg base 5 "check_weave" m_check_weave []) (g_greatest_number_0 : Gd K mg base 1 "greatest_number" m_greatest_number []) {f : Addr} (cdv : Value) (A : Around) (outer : List Env) (s : Shared) (H : Hp) (E : XK) (hr : Room 5 (A.deeper (envOfC "lines_by" (defScope (top 35)) s.heap.objs.size f cdv))) : DSs (cxOf CX0 K.p K.w K.k mg base ["weave", "numbers", "others", "k", "line", "put", "gone"] "lines_by" (defScope (top 35)) f cdv A outer s H E).nox (defBody (top 35)) b_lines_by :=
  by
  delta b_lines_by
  delta A_b_lines_by
  delta l_lines_by_2
  delta A_l_lines_by_2
  delta lm_lines_by_2
  delta A_lm_lines_by_2
  delta lc_lines_by_2
  delta A_lc_lines_by_2
  delta l_lines_by_1
  delta A_l_lines_by_1
  delta lm_lines_by_1
  delta A_lm_lines_by_1
  delta lc_lines_by_1
  delta A_lc_lines_by_1
  exact (dss_cons (ds_expr (de_ret (dr_g [.b] g_check_weave_0 hr (by decide) (by rfl) (da_cons (dvn 0) da_nil))))
    (dss_cons (ds_expr (de_ret (dr_g [.b] g_check_numbers_0 hr (by decide) (by rfl) (da_cons (dvn 1) da_nil))))
    (dss_cons (ds_setLc (own := [("k", 3)]) (i := 2) (k := false) rfl sc_lines_by.nd rfl rfl rfl (di_rng2 (by rfl) B.range (da_cons de_int (da_cons (de_op opr_add opv_add (de_ret (dr_g [.b] g_greatest_number_0 hr (by decide) (by rfl) (da_cons (dvn 0) da_nil))) de_int) da_nil))) (blkOk_by (N := ["weave", "numbers", "others", "k", "line", "put", "gone"]) (sc := defScope (top 35)) (by decide +kernel)) (fun _ _ _ _ _ => (dn_name sc_lines_by.nd (i := 3) rfl (by first | exact .inl rfl | exact .inr rfl))) (fun _ _ _ _ _ => (dts_one (dt_cmp (op_notInP hr.units) opv_in (dvn 3) (dvn 1) (by rfl)))) (fun _ _ _ _ _ => (dvn 3)))
    (dss_one (ds_ret (de_own (df_lc (own := [("line", 4), ("put", 5), ("gone", 6)]) rfl sc_lines_by.nd (di_list (de_ret (dr_g [.b, .b] g_all_left_out_0 hr (by decide) (by rfl) (da_cons (dvn 0) (da_cons (dvn 2) da_nil))))) (blkOk_by (N := ["weave", "numbers", "others", "k", "line", "put", "gone"]) (sc := defScope (top 35)) (by decide +kernel)) (fun _ _ _ _ _ => (dn_tup rfl (dns_cons sc_lines_by.nd (i := 4) rfl (by first | exact .inl rfl | exact .inr rfl) (dns_cons sc_lines_by.nd (i := 5) rfl (by first | exact .inl rfl | exact .inr rfl) (dns_cons sc_lines_by.nd (i := 6) rfl (by first | exact .inl rfl | exact .inr rfl) dns_nil))))) (fun _ _ _ _ _ => (dts_one (dt_cmp op_isN opv_isN (dvn 6) de_non (by rfl)))) (fun _ _ _ _ _ => (dvn 4)))))))))
theorem o_lines_by {K : Kc} {mg : Str → Option Value} {base : Heap} (B : Bi mg) (g_all_left_out_0 : Gd K mg base 1 "all_left_out" m_all_left_out []) (g_check_numbers_0 : Gd K mg base 3 "check_numbers" m_check_numbers []) (g_check_weave_0 : Gd K mg base 5 "check_weave" m_check_weave []) (g_greatest_number_0 : Gd K mg base 1 "greatest_number" m_greatest_number []) {f : Addr} {fd : FuncData} (F : FunD K.k "lines_by" "lines_by" (defArgs (top 35)) (defBody (top 35)) (defScope (top 35)) [] [] f fd) : FnOk K.p K.w K.k mg base CX0 6 f fd ["weave", "numbers"] (spF K m_lines_by) := fn_okx F sc_lines_by fun cdv A outer s H E hr => d_lines_by B g_all_left_out_0 g_check_numbers_0 g_check_weave_0 g_greatest_number_0 cdv A outer s H E hr
theorem sc__law_purse : FnScope ["script", "at", "seed"] ["script", "at"] (defScope (top 37)) := ⟨rfl, rfl, rfl, by decide +kernel, rfl, by decide +kernel, by decide +kernel⟩
theorem d__law_purse {K : Kc} {mg : Str → Option Value} {base : Heap} (B : Bi mg) {f : Addr} (cdv : Value) (A : Around) (outer : List Env) (s : Shared) (H : Hp) (E : XK) (hr : Room 0 (A.deeper (envOfC "_law_purse" (defScope (top 37)) s.heap.objs.size f cdv))) : DSs (cxOf CX0 K.p K.w K.k mg base ["script", "at", "seed"] "_law_purse" (defScope (top 37)) f cdv A outer s H E).nox (defBody (top 37)) b__law_purse :=
  by
  delta b__law_purse
  delta A_b__law_purse
  exact (dss_cons (ds_set sc__law_purse.nd (i := 2) rfl (.inl rfl) (de_cb (cr_sum rfl) cv_sum (by rfl) B.sum boot_sum (da_cons (de_fr (df_sl (dvn 0) (do_some (dvn 1)) (do_some (de_op opr_add opv_add (dvn 1) de_int)))) da_nil)))
    (dss_one (ds_ret (de_own (df_lst (da_cons (de_op op_mod opv_mod (de_ct call_int1 cv_int (by rfl) B.int boot_int (da_cons (de_cb (call_max2 rfl) cv_max2 (by rfl) B.max boot_max (da_cons (de_op op_sub opv_sub (dvn 2) (de_op op_pow opv_pow de_int de_int)) (da_cons de_int da_nil))) da_nil)) (de_op op_powW opv_powW (de_op op_pow opv_pow de_int de_int) de_int)) (da_cons (de_op op_mod opv_mod (de_ct call_int1 cv_int (by rfl) B.int boot_int (da_cons (dvn 2) da_nil)) de_int) (da_cons de_int (da_cons (dvn 1) da_nil)))))))))
theorem o__law_purse {K : Kc} {mg : Str → Option Value} {base : Heap} (B : Bi mg) {f : Addr} {fd : FuncData} (F : FunD K.k "_law_purse" "_law_purse" (defArgs (top 37)) (defBody (top 37)) (defScope (top 37)) [] [] f fd) : FnOk K.p K.w K.k mg base CX0 1 f fd ["script", "at"] (spF K m__law_purse) := fn_okx F sc__law_purse fun cdv A outer s H E hr => d__law_purse B  cdv A outer s H E hr
theorem sc__law_mixed : FnScope ["seed", "spin", "at", "mixed"] ["seed", "spin", "at"] (defScope (top 38)) := ⟨rfl, rfl, rfl, by decide +kernel, rfl, by decide +kernel, by decide +kernel⟩
theorem d__law_mixed {K : Kc} {mg : Str → Option Value} {base : Heap} (B : Bi mg) {f : Addr} (cdv : Value) (A : Around) (outer : List Env) (s : Shared) (H : Hp) (E : XK) (hr : Room 0 (A.deeper (envOfC "_law_mixed" (defScope (top 38)) s.heap.objs.size f cdv))) : DSs (cxOf CX0 K.p K.w K.k mg base ["seed", "spin", "at", "mixed"] "_law_mixed" (defScope (top 38)) f cdv A outer s H E).nox (defBody (top 38)) b__law_mixed :=
  by
  delta b__law_mixed
  delta A_b__law_mixed
  exact (dss_cons (ds_set sc__law_mixed.nd (i := 3) rfl (.inl rfl) (de_op opr_add opv_add (de_op op_mul opv_mul (dvn 0) de_int) (de_op op_mul opv_mul (de_op op_mul opv_mul de_int (dvn 1)) (dvn 1))))
    (dss_cons (ds_set sc__law_mixed.nd (i := 3) rfl (.inl rfl) (de_op op_mod opv_mod (de_ct call_int1 cv_int (by rfl) B.int boot_int (da_cons (de_op opr_add opv_add (de_op opr_add opv_add (dvn 3) (de_op op_mul opv_mul de_int (dvn 2))) (dvn 1)) da_nil)) de_int))
    (dss_cons (ds_set sc__law_mixed.nd (i := 3) rfl (.inl rfl) (de_op op_mod opv_mod (de_ct call_int1 cv_int (by rfl) B.int boot_int (da_cons (de_op opr_add opv_add (de_op op_mul opv_mul (dvn 3) (dvn 3)) de_int) da_nil)) de_int))
    (dss_one (ds_ret (de_op op_mod opv_mod (de_ct call_int1 cv_int (by rfl) B.int boot_int (da_cons (de_op op_mul opv_mul (dvn 3) de_int) da_nil)) de_int))))))
theorem o__law_mixed {K : Kc} {mg : Str → Option Value} {base : Heap} (B : Bi mg) {f : Addr} {fd : FuncData} (F : FunD K.k "_law_mixed" "_law_mixed" (defArgs (top 38)) (defBody (top 38)) (defScope (top 38)) [] [] f fd) : FnOk K.p K.w K.k mg base CX0 1 f fd ["seed", "spin", "at"] (spF K m__law_mixed) := fn_okx F sc__law_mixed fun cdv A outer s H E hr => d__law_mixed B  cdv A outer s H E hr
theorem sc__law_draw : FnScope ["purse", "many", "found", "piece", "drawn"] ["purse", "many"] (defScope (top 39)) := ⟨rfl, rfl, rfl, by decide +kernel, rfl, by decide +kernel, by decide +kernel⟩
theorem d__law_draw {K : Kc} {mg : Str → Option Value} {base : Heap} (B : Bi mg) (g__law_mixed_0 : Gd K mg base 1 "_law_mixed" m__law_mixed []) {f : Addr} (cdv : Value) (A : Around) (outer : List Env) (s : Shared) (H : Hp) (E : XK) (hr : Room 1 (A.deeper (envOfC "_law_draw" (defScope (top 39)) s.heap.objs.size f cdv))) : DSs (cxOf CX0 K.p K.w K.k mg base ["purse", "many", "found", "piece", "drawn"] "_law_draw" (defScope (top 39)) f cdv A outer s H E).nox (defBody (top 39)) b__law_draw :=
  by
  delta b__law_draw
  delta A_b__law_draw
  delta l__law_draw_1
  delta A_l__law_draw_1
  delta lb__law_draw_1
  delta A_lb__law_draw_1
  exact (dss_cons (ds_if (dt_cmp op_gt opv_gt (de_ix (dvn 0) de_int (fun _ _ => rfl)) de_int (by rfl))
    (dss_cons (ds_set sc__law_draw.nd (i := 4) rfl (.inl rfl) (de_op op_mod opv_mod (de_ct call_int1 cv_int (by rfl) B.int boot_int (da_cons (de_ix (dvn 0) de_int (fun _ _ => rfl)) da_nil)) (dvn 1)))
    (dss_cons (ds_sub (dvn 0) de_int (de_op op_fdiv opv_div (de_ix (dvn 0) de_int (fun _ _ => rfl)) (dvn 1)))
    (dss_one (ds_ret (dvn 4)))))
    dss_nil)
    (dss_cons (ds_set sc__law_draw.nd (i := 2) rfl (.inl rfl) de_int)
    (dss_cons (ds_for PassesOwn.never rfl (di_rng1 (by rfl) B.range (da_cons (de_op opr_add opv_add de_int (de_op op_fdiv opv_div (de_bits (dvn 1)) de_int)) da_nil)) (dg_name sc__law_draw.nd (i := 3) rfl (.inl rfl))
    (dss_cons (ds_sub (dvn 0) de_int (de_op opr_add opv_add (de_ix (dvn 0) de_int (fun _ _ => rfl)) de_int))
    (dss_one (ds_set sc__law_draw.nd (i := 2) rfl (.inl rfl) (de_op opr_add opv_add (de_op op_mul opv_mul (dvn 2) de_int) (de_ret (dr_g [.b, .b, .b] g__law_mixed_0 hr (by decide) (by rfl) (da_cons (de_ix (dvn 0) de_int (fun _ _ => rfl)) (da_cons (de_ix (dvn 0) de_int (fun _ _ => rfl)) (da_cons (de_ix (dvn 0) de_int (fun _ _ => rfl)) da_nil))))))))))
    (dss_one (ds_ret (de_op op_mod opv_mod (de_ct call_int1 cv_int (by rfl) B.int boot_int (da_cons (dvn 2) da_nil)) (dvn 1)))))))
theorem o__law_draw {K : Kc} {mg : Str → Option Value} {base : Heap} (B : Bi mg) (g__law_mixed_0 : Gd K mg base 1 "_law_mixed" m__law_mixed []) {f : Addr} {fd : FuncData} (F : FunD K.k "_law_draw" "_law_draw" (defArgs (top 39)) (defBody (top 39)) (defScope (top 39)) [] [] f fd) : FnOk K.p K.w K.k mg base CX0 2 f fd ["purse", "many"] (spF K m__law_draw) := fn_okx F sc__law_draw fun cdv A outer s H E hr => d__law_draw B g__law_mixed_0 cdv A outer s H E hr
theorem sc__law_one_of : FnScope ["purse", "some"] ["purse", "some"] (defScope (top 40)) := ⟨rfl, rfl, rfl, by decide +kernel, rfl, by decide +kernel, by decide +kernel⟩
theorem d__law_one_of {K : Kc} {mg : Str → Option Value} {base : Heap} (B : Bi mg) (g__law_draw_0 : Gd K mg base 2 "_law_draw" m__law_draw []) {f : Addr} (cdv : Value) (A : Around) (outer : List Env) (s : Shared) (H : Hp) (E : XK) (hr : Room 2 (A.deeper (envOfC "_law_one_of" (defScope (top 40)) s.heap.objs.size f cdv))) : DSs (cxOf CX0 K.p K.w K.k mg base ["purse", "some"] "_law_one_of" (defScope (top 40)) f cdv A outer s H E).nox (defBody (top 40)) b__law_one_of :=
  by
  delta b__law_one_of
  delta A_b__law_one_of
  exact (dss_one (ds_ret (de_ix (dvn 1) (de_ret (dr_g [.m, .b] g__law_draw_0 hr (by decide) (by rfl) (da_cons (dvn 0) (da_cons (de_cb call_len cv_len (by rfl) B.len boot_len (da_cons (dvn 1) da_nil)) da_nil)))) (fun _ _ => rfl))))
theorem o__law_one_of {K : Kc} {mg : Str → Option Value} {base : Heap} (B : Bi mg) (g__law_draw_0 : Gd K mg base 2 "_law_draw" m__law_draw []) {f : Addr} {fd : FuncData} (F : FunD K.k "_law_one_of" "_law_one_of" (defArgs (top 40)) (defBody (top 40)) (defScope (top 40)) [] [] f fd) : FnOk K.p K.w K.k mg base CX0 3 f fd ["purse", "some"] (spF K m__law_one_of) := fn_okx F sc__law_one_of fun cdv A outer s H E hr => d__law_one_of B g__law_draw_0 cdv A outer s H E hr
theorem sc__law_shuffled : FnScope ["purse", "some", "found", "item"] ["purse", "some"] (defScope (top 41)) := ⟨rfl, rfl, rfl, by decide +kernel, rfl, by decide +kernel, by decide +kernel⟩
theorem d__law_shuffled {K : Kc} {mg : Str → Option Value} {base : Heap} (B : Bi mg) (g__law_draw_0 : Gd K mg base 2 "_law_draw" m__law_draw []) {f : Addr} (cdv : Value) (A : Around) (outer : List Env) (s : Shared) (H : Hp) (E : XK) (hr : Room 2 (A.deeper (envOfC "_law_shuffled" (defScope (top 41)) s.heap.objs.size f cdv))) : DSs (cxOf CX0 K.p K.w K.k mg base ["purse", "some", "found", "item"] "_law_shuffled" (defScope (top 41)) f cdv A outer s H E).nox (defBody (top 41)) b__law_shuffled :=
  by
  delta b__law_shuffled
  delta A_b__law_shuffled
  delta l__law_shuffled_1
  delta A_l__law_shuffled_1
  delta lb__law_shuffled_1
  delta A_lb__law_shuffled_1
  exact (dss_cons (ds_set sc__law_shuffled.nd (i := 2) rfl (.inl rfl) (de_own (df_lst da_nil)))
    (dss_cons (ds_for PassesOwn.never rfl (di_list (dvn 1)) (dg_name sc__law_shuffled.nd (i := 3) rfl (.inl rfl))
    (dss_one (ds_expr (de_ins (dvn 2) (da_cons (de_ret (dr_g [.m, .b] g__law_draw_0 hr (by decide) (by rfl) (da_cons (dvn 0) (da_cons (de_op opr_add opv_add (de_cb call_len cv_len (by rfl) B.len boot_len (da_cons (dvn 2) da_nil)) de_int) da_nil)))) (da_cons (dvn 3) da_nil))))))
    (dss_one (ds_ret (dvn 2)))))
theorem o__law_shuffled {K : Kc} {mg : Str → Option Value} {base : Heap} (B : Bi mg) (g__law_draw_0 : Gd K mg base 2 "_law_draw" m__law_draw []) {f : Addr} {fd : FuncData} (F : FunD K.k "_law_shuffled" "_law_shuffled" (defArgs (top 41)) (defBody (top 41)) (defScope (top 41)) [] [] f fd) : FnOk K.p K.w K.k mg base CX0 3 f fd ["purse", "some"] (spF K m__law_shuffled) := fn_okx F sc__law_shuffled fun cdv A outer s H E hr => d__law_shuffled B g__law_draw_0 cdv A outer s H E hr
theorem sc__law_plain : FnScope ["thing", "item", "key"] ["thing"] (defScope (top 42)) := ⟨rfl, rfl, rfl, by decide +kernel, rfl, by decide +kernel, by decide +kernel⟩
theorem d__law_plain {K : Kc} {mg : Str → Option Value} {base : Heap} (B : Bi mg) (self : FnS) (k : Nat) (hk : 1 ≤ k + 1) (gself : Gd K mg base k "_law_plain" self []) {f : Addr} (cdv : Value) (A : Around) (outer : List Env) (s : Shared) (H : Hp) (E : XK) (hr : Room k (A.deeper (envOfC "_law_plain" (defScope (top 42)) s.heap.objs.size f cdv))) : DSs (cxOf CX0 K.p K.w K.k mg base ["thing", "item", "key"] "_law_plain" (defScope (top 42)) f cdv A outer s H E).nox (defBody (top 42)) (b__law_plain self) :=
  by
  delta b__law_plain
  delta A_b__law_plain
  delta l__law_plain_2
  delta A_l__law_plain_2
  delta lm__law_plain_2
  delta A_lm__law_plain_2
  delta l__law_plain_1
  delta A_l__law_plain_1
  delta lm__law_plain_1
  delta A_lm__law_plain_1
  exact (dss_cons (ds_if (dt_val (de_is (by rfl) B.isinstance (by rfl) B.list boot_list (by decide) (dvn 0)))
    (dss_one (ds_ret (de_own (df_lc (own := [("item", 1)]) rfl sc__law_plain.nd (di_list (dvn 0)) (blkOk_by (N := ["thing", "item", "key"]) (sc := defScope (top 42)) (by decide +kernel)) (fun _ _ _ _ _ => (dn_name sc__law_plain.nd (i := 1) rfl (by first | exact .inl rfl | exact .inr rfl))) (fun _ _ _ _ _ => dts_nil) (fun _ _ _ _ _ => (de_ret (dr_g [.b] gself hr (by omega) (by rfl) (da_cons (dvn 1) da_nil))))))))
    dss_nil)
    (dss_cons (ds_if (dt_val (de_is (by rfl) B.isinstance (by rfl) B.tuple boot_tuple (by decide) (dvn 0)))
    (dss_one (ds_ret (de_ct call_tuple_of cv_tuple (by rfl) B.tuple boot_tuple (da_cons (de_fr (df_lc (own := [("item", 1)]) rfl sc__law_plain.nd (di_tup (dvn 0)) (blkOk_by (N := ["thing", "item", "key"]) (sc := defScope (top 42)) (by decide +kernel)) (fun _ _ _ _ _ => (dn_name sc__law_plain.nd (i := 1) rfl (by first | exact .inl rfl | exact .inr rfl))) (fun _ _ _ _ _ => dts_nil) (fun _ _ _ _ _ => (de_ret (dr_g [.b] gself hr (by omega) (by rfl) (da_cons (dvn 1) da_nil)))))) da_nil))))
    dss_nil)
    (dss_cons (ds_if (dt_val (de_is (by rfl) B.isinstance (by rfl) B.dict boot_dict (by decide) (dvn 0))) dss_never
    dss_nil)
    (dss_one (ds_ret (dvn 0))))))
theorem pm__law_plain : ∀ n, PureF (m__law_plain n)
  | 0 => pure_no
  | _ + 1 => pureF_fnS
theorem o__law_plain {K : Kc} {mg : Str → Option Value} {base : Heap} (B : Bi mg) {f : Addr} {fd : FuncData} (F : FunD K.k "_law_plain" "_law_plain" (defArgs (top 42)) (defBody (top 42)) (defScope (top 42)) [] [] f fd) (h1 : mg "_law_plain" = some (.ref f)) : ∀ n, FnOk K.p K.w K.k mg base CX0 (1 + n) f fd ["thing"] (spF K (m__law_plain n))
  | 0 => fn_no F sc__law_plain
  | n + 1 => fn_okx F sc__law_plain fun cdv A outer s H E hr => d__law_plain B  _ _ (by omega) (Gd.of (pm__law_plain n) h1 F (o__law_plain B  F h1 n) fun _ _ _ _ _ _ us hl => match us, hl with | [_], _ => rfl) cdv A outer s H E hr
theorem sc__law_same : FnScope ["told", "due", "is_like", "key", "one", "other"] ["told", "due"] (defScope (top 43)) := ⟨rfl, rfl, rfl, by decide +kernel, rfl, by decide +kernel, by decide +kernel⟩
theorem d__law_same {K : Kc} {mg : Str → Option Value} {base : Heap} (B : Bi mg) (self : FnS) (k : Nat) (hk : 1 ≤ k + 1) (gself : Gd K mg base k "_law_same" self []) {f : Addr} (cdv : Value) (A : Around) (outer : List Env) (s : Shared) (H : Hp) (E : XK) (hr : Room k (A.deeper (envOfC "_law_same" (defScope (top 43)) s.heap.objs.size f cdv))) : DSs (cxOf CX0 K.p K.w K.k mg base ["told", "due", "is_like", "key", "one", "other"] "_law_same" (defScope (top 43)) f cdv A outer s H E).nox (defBody (top 43)) (b__law_same self) :=
  by
  delta b__law_same
  delta A_b__law_same
  delta l__law_same_1
  delta A_l__law_same_1
  delta lm__law_same_1
  delta A_lm__law_same_1
  exact (dss_cons (ds_if (dt_val (de_is (by rfl) B.isinstance (by rfl) B.dict boot_dict (by decide) (dvn 1))) dss_never
    dss_nil)
    (dss_cons (ds_if (dt_val (de_isT (by rfl) B.isinstance (by rfl) B.list boot_list (by rfl) B.tuple boot_tuple (by decide) (dvn 1)))
    (dss_cons (ds_set sc__law_same.nd (i := 2) rfl (.inl rfl) (de_and (de_cmp (op_eqP hr.units) opv_eq (de_is (by rfl) B.isinstance (by rfl) B.list boot_list (by decide) (dvn 0)) (de_is (by rfl) B.isinstance (by rfl) B.list boot_list (by decide) (dvn 1)) (by rfl)) (de_and1 (de_cmp (op_eqP hr.units) opv_eq (de_is (by rfl) B.isinstance (by rfl) B.tuple boot_tuple (by decide) (dvn 0)) (de_is (by rfl) B.isinstance (by rfl) B.tuple boot_tuple (by decide) (dvn 1)) (by rfl)))))
    (dss_one (ds_ret (de_and (dvn 2) (de_and (de_cmp (op_eqP hr.units) opv_eq (de_cb call_len cv_len (by rfl) B.len boot_len (da_cons (dvn 0) da_nil)) (de_cb call_len cv_len (by rfl) B.len boot_len (da_cons (dvn 1) da_nil)) (by rfl)) (de_and1 (de_cb (cr_all rfl) cv_all (by rfl) B.all boot_all (da_cons (de_fr (df_lc (own := [("one", 4), ("other", 5)]) rfl sc__law_same.nd (di_zipA (by rfl) B.zip (da_cons (dvn 0) (da_cons (dvn 1) da_nil))) (blkOk_by (N := ["told", "due", "is_like", "key", "one", "other"]) (sc := defScope (top 43)) (by decide +kernel)) (fun _ _ _ _ _ => (dn_tup rfl (dns_cons sc__law_same.nd (i := 4) rfl (by first | exact .inl rfl | exact .inr rfl) (dns_cons sc__law_same.nd (i := 5) rfl (by first | exact .inl rfl | exact .inr rfl) dns_nil)))) (fun _ _ _ _ _ => dts_nil) (fun _ _ _ _ _ => (de_ret (dr_g [.b, .b] gself hr (by omega) (by rfl) (da_cons (dvn 4) (da_cons (dvn 5) da_nil))))))) da_nil))))))))
    dss_nil)
    (dss_cons (ds_if (dt_w (dw_or (dt_val (de_isT3 (by rfl) B.isinstance (by rfl) B.list boot_list (by rfl) B.tuple boot_tuple (by rfl) B.dict boot_dict (by decide) (dvn 0))) (dw_or1 (dt_cmp (op_neP hr.units) opv_eq (de_cmp op_isN opv_isN (dvn 0) de_non (by rfl)) (de_cmp op_isN opv_isN (dvn 1) de_non (by rfl)) (by rfl)))))
    (dss_one (ds_ret de_bl))
    dss_nil)
    (dss_cons (ds_set sc__law_same.nd (i := 2) rfl (.inl rfl) (de_and (de_cmp (op_eqP hr.units) opv_eq (de_is (by rfl) B.isinstance (by rfl) B.int boot_int (by decide) (dvn 0)) (de_is (by rfl) B.isinstance (by rfl) B.int boot_int (by decide) (dvn 1)) (by rfl)) (de_and1 (de_cmp (op_eqP hr.units) opv_eq (de_is (by rfl) B.isinstance (by rfl) B.str boot_str (by decide) (dvn 0)) (de_is (by rfl) B.isinstance (by rfl) B.str boot_str (by decide) (dvn 1)) (by rfl)))))
    (dss_one (ds_ret (de_and (dvn 2) (de_and (de_cmp (op_eqP hr.units) opv_eq (de_is (by rfl) B.isinstance (by rfl) B.bool boot_bool (by decide) (dvn 0)) (de_is (by rfl) B.isinstance (by rfl) B.bool boot_bool (by decide) (dvn 1)) (by rfl)) (de_and1 (de_cmp (op_eqP hr.units) opv_eq (dvn 0) (dvn 1) (by rfl)))))))))))
theorem pm__law_same : ∀ n, PureF (m__law_same n)
  | 0 => pure_no
  | _ + 1 => pureF_fnS
theorem o__law_same {K : Kc} {mg : Str → Option Value} {base : Heap} (B : Bi mg) {f : Addr} {fd : FuncData} (F : FunD K.k "_law_same" "_law_same" (defArgs (top 43)) (defBody (top 43)) (defScope (top 43)) [] [] f fd) (h1 : mg "_law_same" = some (.ref f)) : ∀ n, FnOk K.p K.w K.k mg base CX0 (1 + n) f fd ["told", "due"] (spF K (m__law_same n))
  | 0 => fn_no F sc__law_same
  | n + 1 => fn_okx F sc__law_same fun cdv A outer s H E hr => d__law_same B  _ _ (by omega) (Gd.of (pm__law_same n) h1 F (o__law_same B  F h1 n) fun _ _ _ _ _ _ us hl => match us, hl with | [_, _], _ => rfl) cdv A outer s H E hr
theorem sc__law_line : FnScope ["purse", "few"] ["purse", "few"] (defScope (top 44)) := ⟨rfl, rfl, rfl, by decide +kernel, rfl, by decide +kernel, by decide +kernel⟩
theorem d__law_line {K : Kc} {mg : Str → Option Value} {base : Heap} (B : Bi mg) (g__law_draw_0 : Gd K mg base 2 "_law_draw" m__law_draw []) (g__law_one_of_0 : Gd K mg base 3 "_law_one_of" m__law_one_of []) {f : Addr} (cdv : Value) (A : Around) (outer : List Env) (s : Shared) (H : Hp) (E : XK) (hr : Room 3 (A.deeper (envOfC "_law_line" (defScope (top 44)) s.heap.objs.size f cdv))) : DSs (cxOf CX0 K.p K.w K.k mg base ["purse", "few"] "_law_line" (defScope (top 44)) f cdv A outer s H E).nox (defBody (top 44)) b__law_line :=
  by
  delta b__law_line
  delta A_b__law_line
  exact (dss_cons (ds_if (dt_cmp op_gt opv_gt (de_ret (dr_g [.m, .b] g__law_draw_0 hr (by decide) (by rfl) (da_cons (dvn 0) (da_cons de_int da_nil)))) de_int (by rfl))
    (dss_one (ds_ret (de_back (dr_g [.m, .b] g__law_one_of_0 hr (by decide) (by rfl) (da_cons (dvn 0) (da_cons (dvn 1) da_nil))))))
    dss_nil)
    (dss_one (ds_ret (de_back (dr_g [.m, .b] g__law_one_of_0 hr (by decide) (by rfl) (da_cons (dvn 0) (da_cons (de_fr (df_lst (da_cons de_str (da_cons de_str (da_cons de_str (da_cons de_str (da_cons de_str (da_cons de_str (da_cons (de_op op_repS opv_repS de_str de_int) da_nil))))))))) da_nil)))))))
theorem o__law_line {K : Kc} {mg : Str → Option Value} {base : Heap} (B : Bi mg) (g__law_draw_0 : Gd K mg base 2 "_law_draw" m__law_draw []) (g__law_one_of_0 : Gd K mg base 3 "_law_one_of" m__law_one_of []) {f : Addr} {fd : FuncData} (F : FunD K.k "_law_line" "_law_line" (defArgs (top 44)) (defBody (top 44)) (defScope (top 44)) [] [] f fd) : FnOk K.p K.w K.k mg base CX0 4 f fd ["purse", "few"] (spF K m__law_line) := fn_okx F sc__law_line fun cdv A outer s H E hr => d__law_line B g__law_draw_0 g__law_one_of_0 cdv A outer s H E hr
theorem sc__law_turned : FnScope ["purse", "lines", "few", "at", "found", "way", "spin"] ["purse", "lines", "few"] (defScope (top 45)) := ⟨rfl, rfl, rfl, by decide +kernel, rfl, by decide +kernel, by decide +kernel⟩
theorem d__law_turned {K : Kc} {mg : Str → Option Value} {base : Heap} (B : Bi mg) (g__law_draw_0 : Gd K mg base 2 "_law_draw" m__law_draw []) (g__law_line_0 : Gd K mg base 4 "_law_line" m__law_line []) {f : Addr} (cdv : Value) (A : Around) (outer : List Env) (s : Shared) (H : Hp) (E : XK) (hr : Room 4 (A.deeper (envOfC "_law_turned" (defScope (top 45)) s.heap.objs.size f cdv))) : DSs (cxOf CX0 K.p K.w K.k mg base ["purse", "lines", "few", "at", "found", "way", "spin"] "_law_turned" (defScope (top 45)) f cdv A outer s H E).nox (defBody (top 45)) b__law_turned :=
  by
  delta b__law_turned
  delta A_b__law_turned
  delta l__law_turned_2
  delta A_l__law_turned_2
  delta lm__law_turned_2
  delta A_lm__law_turned_2
  delta l__law_turned_1
  delta A_l__law_turned_1
  delta lm__law_turned_1
  delta A_lm__law_turned_1
  exact (dss_cons (ds_par rfl sc__law_turned.nd (i := 4) (j := 5) rfl rfl (by decide) rfl rfl (da_cons (de_fr (df_ct call_list_of cf_list (by rfl) B.list boot_list (da_cons (dvn 1) da_nil))) (da_cons (de_ret (dr_g [.m, .b] g__law_draw_0 hr (by decide) (by rfl) (da_cons (dvn 0) (da_cons de_int da_nil)))) da_nil)))
    (dss_cons (ds_set sc__law_turned.nd (i := 3) rfl (.inl rfl) (de_ret (dr_g [.m, .b] g__law_draw_0 hr (by decide) (by rfl) (da_cons (dvn 0) (da_cons (de_op opr_add opv_add (de_cb call_len cv_len (by rfl) B.len boot_len (da_cons (dvn 4) da_nil)) de_int) da_nil)))))
    (dss_cons (ds_if (dt_cmp op_lt opv_lt (dvn 5) de_int (by rfl))
    (dss_one (ds_ret (de_own (df_cat (de_fr (df_cat (de_fr (df_sl (dvn 4) do_none (do_some (dvn 3)))) (de_fr (df_lc (own := [("spin", 6)]) rfl sc__law_turned.nd (di_rng1 (by rfl) B.range (da_cons (de_op opr_add opv_add de_int (de_ret (dr_g [.m, .b] g__law_draw_0 hr (by decide) (by rfl) (da_cons (dvn 0) (da_cons de_int da_nil))))) da_nil)) (blkOk_by (N := ["purse", "lines", "few", "at", "found", "way", "spin"]) (sc := defScope (top 45)) (by decide +kernel)) (fun _ _ _ _ _ => (dn_name sc__law_turned.nd (i := 6) rfl (by first | exact .inl rfl | exact .inr rfl))) (fun _ _ _ _ _ => dts_nil) (fun _ _ _ _ _ => (de_ret (dr_g [.m, .b] g__law_line_0 hr (by decide) (by rfl) (da_cons (dvn 0) (da_cons (dvn 2) da_nil))))))))) (de_fr (df_sl (dvn 4) (do_some (dvn 3)) do_none))))))
    dss_nil)
    (dss_cons (ds_if (dt_cmp op_lt opv_lt (dvn 5) de_int (by rfl))
    (dss_one (ds_ret (de_own (df_cat (de_fr (df_sl (dvn 4) do_none (do_some (dvn 3)))) (de_fr (df_sl (dvn 4) (do_some (de_op opr_add opv_add (de_op opr_add opv_add (dvn 3) de_int) (de_ret (dr_g [.m, .b] g__law_draw_0 hr (by decide) (by rfl) (da_cons (dvn 0) (da_cons de_int da_nil)))))) do_none))))))
    dss_nil)
    (dss_cons (ds_if (dt_w (dw_and (dt_cmp (op_eqP hr.units) opv_eq (dvn 5) de_int (by rfl)) (dw_and1 (dt_cmp op_lt opv_lt (dvn 3) (de_cb call_len cv_len (by rfl) B.len boot_len (da_cons (dvn 4) da_nil)) (by rfl)))))
    (dss_one (ds_ret (de_own (df_cat (de_fr (df_cat (de_fr (df_sl (dvn 4) do_none (do_some (dvn 3)))) (de_fr (df_lc (own := [("spin", 6)]) rfl sc__law_turned.nd (di_rng1 (by rfl) B.range (da_cons (de_op opr_add opv_add de_int (de_ret (dr_g [.m, .b] g__law_draw_0 hr (by decide) (by rfl) (da_cons (dvn 0) (da_cons de_int da_nil))))) da_nil)) (blkOk_by (N := ["purse", "lines", "few", "at", "found", "way", "spin"]) (sc := defScope (top 45)) (by decide +kernel)) (fun _ _ _ _ _ => (dn_name sc__law_turned.nd (i := 6) rfl (by first | exact .inl rfl | exact .inr rfl))) (fun _ _ _ _ _ => dts_nil) (fun _ _ _ _ _ => (de_ret (dr_g [.m, .b] g__law_line_0 hr (by decide) (by rfl) (da_cons (dvn 0) (da_cons (dvn 2) da_nil))))))))) (de_fr (df_sl (dvn 4) (do_some (de_op opr_add opv_add (dvn 3) de_int)) do_none))))))
    dss_nil)
    (dss_one (ds_ret (de_own (df_cat (de_fr (df_sl (dvn 4) (do_some (dvn 3)) do_none)) (de_fr (df_sl (dvn 4) do_none (do_some (dvn 3)))))))))))))
theorem o__law_turned {K : Kc} {mg : Str → Option Value} {base : Heap} (B : Bi mg) (g__law_draw_0 : Gd K mg base 2 "_law_draw" m__law_draw []) (g__law_line_0 : Gd K mg base 4 "_law_line" m__law_line []) {f : Addr} {fd : FuncData} (F : FunD K.k "_law_turned" "_law_turned" (defArgs (top 45)) (defBody (top 45)) (defScope (top 45)) [] [] f fd) : FnOk K.p K.w K.k mg base CX0 5 f fd ["purse", "lines", "few"] (spF K m__law_turned) := fn_okx F sc__law_turned fun cdv A outer s H E hr => d__law_turned B g__law_draw_0 g__law_line_0 cdv A outer s H E hr
theorem sc__law_lists : FnScope ["purse", "many", "few", "lists", "turn", "newer", "spin"] ["purse", "many", "few"] (defScope (top 46)) := ⟨rfl, rfl, rfl, by decide +kernel, rfl, by decide +kernel, by decide +kernel⟩
theorem d__law_lists {K : Kc} {mg : Str → Option Value} {base : Heap} (B : Bi mg) (g__law_draw_0 : Gd K mg base 2 "_law_draw" m__law_draw []) (g__law_line_0 : Gd K mg base 4 "_law_line" m__law_line []) (g__law_one_of_0 : Gd K mg base 3 "_law_one_of" m__law_one_of []) (g__law_turned_0 : Gd K mg base 5 "_law_turned" m__law_turned []) {f : Addr} (cdv : Value) (A : Around) (outer : List Env) (s : Shared) (H : Hp) (E : XK) (hr : Room 5 (A.deeper (envOfC "_law_lists" (defScope (top 46)) s.heap.objs.size f cdv))) : DSs (cxOf CX0 K.p K.w K.k mg base ["purse", "many", "few", "lists", "turn", "newer", "spin"] "_law_lists" (defScope (top 46)) f cdv A outer s H E).nox (defBody (top 46)) b__law_lists :=
  by
  delta b__law_lists
  delta A_b__law_lists
  delta l__law_lists_3
  delta A_l__law_lists_3
  delta lb__law_lists_3
  delta A_lb__law_lists_3
  delta l__law_lists_2
  delta A_l__law_lists_2
  delta lb__law_lists_2
  delta A_lb__law_lists_2
  delta l__law_lists_1
  delta A_l__law_lists_1
  delta lm__law_lists_1
  delta A_lm__law_lists_1
  exact (dss_cons (ds_set sc__law_lists.nd (i := 3) rfl (.inl rfl) (de_own (df_lst (da_cons (de_fr (df_lc (own := [("spin", 6)]) rfl sc__law_lists.nd (di_rng1 (by rfl) B.range (da_cons (de_ret (dr_g [.m, .b] g__law_draw_0 hr (by decide) (by rfl) (da_cons (dvn 0) (da_cons (de_ret (dr_g [.m, .b] g__law_one_of_0 hr (by decide) (by rfl) (da_cons (dvn 0) (da_cons (de_fr (df_lst (da_cons de_int (da_cons de_int (da_cons de_int da_nil))))) da_nil)))) da_nil)))) da_nil)) (blkOk_by (N := ["purse", "many", "few", "lists", "turn", "newer", "spin"]) (sc := defScope (top 46)) (by decide +kernel)) (fun _ _ _ _ _ => (dn_name sc__law_lists.nd (i := 6) rfl (by first | exact .inl rfl | exact .inr rfl))) (fun _ _ _ _ _ => dts_nil) (fun _ _ _ _ _ => (de_ret (dr_g [.m, .b] g__law_line_0 hr (by decide) (by rfl) (da_cons (dvn 0) (da_cons (dvn 2) da_nil))))))) da_nil))))
    (dss_cons (ds_for PassesOwn.never rfl (di_rng1 (by rfl) B.range (da_cons (dvn 1) da_nil)) (dg_name sc__law_lists.nd (i := 4) rfl (.inl rfl))
    (dss_cons (ds_set sc__law_lists.nd (i := 5) rfl (.inl rfl) (de_fr (df_ct call_list_of cf_list (by rfl) B.list boot_list (da_cons (de_ix (dvn 3) (de_neg de_int) (fun _ _ => rfl)) da_nil))))
    (dss_cons (ds_for PassesOwn.never rfl (di_rng1 (by rfl) B.range (da_cons (de_ret (dr_g [.m, .b] g__law_draw_0 hr (by decide) (by rfl) (da_cons (dvn 0) (da_cons de_int da_nil)))) da_nil)) (dg_name sc__law_lists.nd (i := 6) rfl (.inl rfl))
    (dss_one (ds_set sc__law_lists.nd (i := 5) rfl (.inl rfl) (de_ret (dr_g [.m, .b, .b] g__law_turned_0 hr (by decide) (by rfl) (da_cons (dvn 0) (da_cons (dvn 5) (da_cons (dvn 2) da_nil))))))))
    (dss_cons (ds_if (dt_cmp (op_eqP hr.units) opv_eq (de_ret (dr_g [.m, .b] g__law_draw_0 hr (by decide) (by rfl) (da_cons (dvn 0) (da_cons de_int da_nil)))) de_int (by rfl))
    (dss_one (ds_set sc__law_lists.nd (i := 5) rfl (.inl rfl) (de_fr (df_ct call_list_of cf_list (by rfl) B.list boot_list (da_cons (de_ret (dr_g [.m, .b] g__law_one_of_0 hr (by decide) (by rfl) (da_cons (dvn 0) (da_cons (dvn 3) da_nil)))) da_nil)))))
    dss_nil)
    (dss_one (ds_expr (de_app (dvn 3) (da_cons (de_fr (df_sl (dvn 5) do_none (do_some de_int))) da_nil))))))))
    (dss_one (ds_ret (dvn 3)))))
theorem o__law_lists {K : Kc} {mg : Str → Option Value} {base : Heap} (B : Bi mg) (g__law_draw_0 : Gd K mg base 2 "_law_draw" m__law_draw []) (g__law_line_0 : Gd K mg base 4 "_law_line" m__law_line []) (g__law_one_of_0 : Gd K mg base 3 "_law_one_of" m__law_one_of []) (g__law_turned_0 : Gd K mg base 5 "_law_turned" m__law_turned []) {f : Addr} {fd : FuncData} (F : FunD K.k "_law_lists" "_law_lists" (defArgs (top 46)) (defBody (top 46)) (defScope (top 46)) [] [] f fd) : FnOk K.p K.w K.k mg base CX0 6 f fd ["purse", "many", "few"] (spF K m__law_lists) := fn_okx F sc__law_lists fun cdv A outer s H E hr => d__law_lists B g__law_draw_0 g__law_line_0 g__law_one_of_0 g__law_turned_0 cdv A outer s H E hr
theorem sc__law_at : FnScope ["weave", "k", "found", "line", "put", "gone"] ["weave", "k"] (defScope (top 47)) := ⟨rfl, rfl, rfl, by decide +kernel, rfl, by decide +kernel, by decide +kernel⟩
theorem d__law_at {K : Kc} {mg : Str → Option Value} {base : Heap} (B : Bi mg) {f : Addr} (cdv : Value) (A : Around) (outer : List Env) (s : Shared) (H : Hp) (E : XK) (hr : Room 0 (A.deeper (envOfC "_law_at" (defScope (top 47)) s.heap.objs.size f cdv))) : DSs (cxOf CX0 K.p K.w K.k mg base ["weave", "k", "found", "line", "put", "gone"] "_law_at" (defScope (top 47)) f cdv A outer s H E).nox (defBody (top 47)) b__law_at :=
  by
  delta b__law_at
  delta A_b__law_at
  delta l__law_at_1
  delta A_l__law_at_1
  delta lb__law_at_1
  delta A_lb__law_at_1
  exact (dss_cons (ds_set sc__law_at.nd (i := 2) rfl (.inl rfl) (de_own (df_lst da_nil)))
    (dss_cons (ds_for PassesOwn.never rfl (di_list (dvn 0)) (dg_tup rfl (dgs_cons (dg_name sc__law_at.nd (i := 3) rfl (.inl rfl)) (dgs_cons (dg_name sc__law_at.nd (i := 4) rfl (.inl rfl)) (dgs_cons (dg_name sc__law_at.nd (i := 5) rfl (.inl rfl)) dgs_nil))))
    (dss_one (ds_if (dt_w (dw_and (dt_cmp op_le opv_le (dvn 4) (dvn 1) (by rfl)) (dw_and1 (dt_w (dw_or (dt_cmp op_isN opv_isN (dvn 5) de_non (by rfl)) (dw_or1 (dt_cmp op_gt opv_gt (dvn 5) (dvn 1) (by rfl))))))))
    (dss_one (ds_expr (de_app (dvn 2) (da_cons (dvn 3) da_nil))))
    dss_nil)))
    (dss_one (ds_ret (dvn 2)))))
theorem o__law_at {K : Kc} {mg : Str → Option Value} {base : Heap} (B : Bi mg) {f : Addr} {fd : FuncData} (F : FunD K.k "_law_at" "_law_at" (defArgs (top 47)) (defBody (top 47)) (defScope (top 47)) [] [] f fd) : FnOk K.p K.w K.k mg base CX0 1 f fd ["weave", "k"] (spF K m__law_at) := fn_okx F sc__law_at fun cdv A outer s H E hr => d__law_at B  cdv A outer s H E hr
theorem sc__law_last : FnScope ["weave", "thread"] ["weave"] (defScope (top 48)) := ⟨rfl, rfl, rfl, by decide +kernel, rfl, by decide +kernel, by decide +kernel⟩
theorem d__law_last {K : Kc} {mg : Str → Option Value} {base : Heap} (B : Bi mg) {f : Addr} (cdv : Value) (A : Around) (outer : List Env) (s : Shared) (H : Hp) (E : XK) (hr : Room 0 (A.deeper (envOfC "_law_last" (defScope (top 48)) s.heap.objs.size f cdv))) : DSs (cxOf CX0 K.p K.w K.k mg base ["weave", "thread"] "_law_last" (defScope (top 48)) f cdv A outer s H E).nox (defBody (top 48)) b__law_last :=
  by
  delta b__law_last
  delta A_b__law_last
  delta l__law_last_2
  delta A_l__law_last_2
  delta lm__law_last_2
  delta A_lm__law_last_2
  delta lc__law_last_2
  delta A_lc__law_last_2
  delta l__law_last_1
  delta A_l__law_last_1
  delta lm__law_last_1
  delta A_lm__law_last_1
  exact (dss_one (ds_ret (de_cb (cr_max rfl) cv_maxL (by rfl) B.max boot_max (da_cons (de_fr (df_cat (de_fr (df_cat (de_fr (df_lst (da_cons de_int da_nil))) (de_fr (df_lc (own := [("thread", 1)]) rfl sc__law_last.nd (di_list (dvn 0)) (blkOk_by (N := ["weave", "thread"]) (sc := defScope (top 48)) (by decide +kernel)) (fun _ _ _ _ _ => (dn_name sc__law_last.nd (i := 1) rfl (by first | exact .inl rfl | exact .inr rfl))) (fun _ _ _ _ _ => dts_nil) (fun _ _ _ _ _ => (de_ix (dvn 1) de_int (fun _ _ => rfl))))))) (de_fr (df_lc (own := [("thread", 1)]) rfl sc__law_last.nd (di_list (dvn 0)) (blkOk_by (N := ["weave", "thread"]) (sc := defScope (top 48)) (by decide +kernel)) (fun _ _ _ _ _ => (dn_name sc__law_last.nd (i := 1) rfl (by first | exact .inl rfl | exact .inr rfl))) (fun _ _ _ _ _ => (dts_one (dt_cmp op_notN opv_notN (de_ix (dvn 1) de_int (fun _ _ => rfl)) de_non (by rfl)))) (fun _ _ _ _ _ => (de_ix (dvn 1) de_int (fun _ _ => rfl))))))) da_nil))))
theorem o__law_last {K : Kc} {mg : Str → Option Value} {base : Heap} (B : Bi mg) {f : Addr} {fd : FuncData} (F : FunD K.k "_law_last" "_law_last" (defArgs (top 48)) (defBody (top 48)) (defScope (top 48)) [] [] f fd) : FnOk K.p K.w K.k mg base CX0 1 f fd ["weave"] (spF K m__law_last) := fn_okx F sc__law_last fun cdv A outer s H E hr => d__law_last B  cdv A outer s H E hr
theorem sc__law_weave : FnScope ["purse", "many", "changes", "few", "found", "turn", "put", "gone"] ["purse", "many", "changes", "few"] (defScope (top 49)) := ⟨rfl, rfl, rfl, by decide +kernel, rfl, by decide +kernel, by decide +kernel⟩
theorem d__law_weave {K : Kc} {mg : Str → Option Value} {base : Heap} (B : Bi mg) (g__law_draw_0 : Gd K mg base 2 "_law_draw" m__law_draw []) (g__law_line_0 : Gd K mg base 4 "_law_line" m__law_line []) {f : Addr} (cdv : Value) (A : Around) (outer : List Env) (s : Shared) (H : Hp) (E : XK) (hr : Room 4 (A.deeper (envOfC "_law_weave" (defScope (top 49)) s.heap.objs.size f cdv))) : DSs (cxOf CX0 K.p K.w K.k mg base ["purse", "many", "changes", "few", "found", "turn", "put", "gone"] "_law_weave" (defScope (top 49)) f cdv A outer s H E).nox (defBody (top 49)) b__law_weave :=
  by
  delta b__law_weave
  delta A_b__law_weave
  delta l__law_weave_1
  delta A_l__law_weave_1
  delta lb__law_weave_1
  delta A_lb__law_weave_1
  exact (dss_cons (ds_set sc__law_weave.nd (i := 4) rfl (.inl rfl) (de_own (df_lst da_nil)))
    (dss_cons (ds_for PassesOwn.never rfl (di_rng1 (by rfl) B.range (da_cons (dvn 1) da_nil)) (dg_name sc__law_weave.nd (i := 5) rfl (.inl rfl))
    (dss_cons (ds_set sc__law_weave.nd (i := 6) rfl (.inl rfl) (de_ret (dr_g [.m, .b] g__law_draw_0 hr (by decide) (by rfl) (da_cons (dvn 0) (da_cons (de_op opr_add opv_add (dvn 2) de_int) da_nil)))))
    (dss_cons (ds_set sc__law_weave.nd (i := 7) rfl (.inl rfl) (de_if (dt_w (dw_or (dt_cmp (op_eqP hr.units) opv_eq (dvn 6) (dvn 2) (by rfl)) (dw_or1 (dt_cmp (op_eqP hr.units) opv_eq (de_ret (dr_g [.m, .b] g__law_draw_0 hr (by decide) (by rfl) (da_cons (dvn 0) (da_cons de_int da_nil)))) de_int (by rfl))))) de_non (de_op opr_add opv_add (de_op opr_add opv_add (dvn 6) de_int) (de_ret (dr_g [.m, .b] g__law_draw_0 hr (by decide) (by rfl) (da_cons (dvn 0) (da_cons (de_op op_sub opv_sub (dvn 2) (dvn 6)) da_nil)))))))
    (dss_one (ds_expr (de_app (dvn 4) (da_cons (de_tup (da_cons (de_ret (dr_g [.m, .b] g__law_line_0 hr (by decide) (by rfl) (da_cons (dvn 0) (da_cons (dvn 3) da_nil)))) (da_cons (dvn 6) (da_cons (dvn 7) da_nil)))) da_nil)))))))
    (dss_one (ds_ret (dvn 4)))))
theorem o__law_weave {K : Kc} {mg : Str → Option Value} {base : Heap} (B : Bi mg) (g__law_draw_0 : Gd K mg base 2 "_law_draw" m__law_draw []) (g__law_line_0 : Gd K mg base 4 "_law_line" m__law_line []) {f : Addr} {fd : FuncData} (F : FunD K.k "_law_weave" "_law_weave" (defArgs (top 49)) (defBody (top 49)) (defScope (top 49)) [] [] f fd) : FnOk K.p K.w K.k mg base CX0 5 f fd ["purse", "many", "changes", "few"] (spF K m__law_weave) := fn_okx F sc__law_weave fun cdv A outer s H E hr => d__law_weave B g__law_draw_0 g__law_line_0 cdv A outer s H E hr
theorem sc__law_without : FnScope ["weave", "numbers", "found", "line", "put", "gone"] ["weave", "numbers"] (defScope (top 50)) := ⟨rfl, rfl, rfl, by decide +kernel, rfl, by decide +kernel, by decide +kernel⟩
theorem d__law_without {K : Kc} {mg : Str → Option Value} {base : Heap} (B : Bi mg) {f : Addr} (cdv : Value) (A : Around) (outer : List Env) (s : Shared) (H : Hp) (E : XK) (hr : Room 0 (A.deeper (envOfC "_law_without" (defScope (top 50)) s.heap.objs.size f cdv))) : DSs (cxOf CX0 K.p K.w K.k mg base ["weave", "numbers", "found", "line", "put", "gone"] "_law_without" (defScope (top 50)) f cdv A outer s H E).nox (defBody (top 50)) b__law_without :=
  by
  delta b__law_without
  delta A_b__law_without
  delta l__law_without_1
  delta A_l__law_without_1
  delta lb__law_without_1
  delta A_lb__law_without_1
  exact (dss_cons (ds_set sc__law_without.nd (i := 2) rfl (.inl rfl) (de_own (df_lst da_nil)))
    (dss_cons (ds_for PassesOwn.never rfl (di_list (dvn 0)) (dg_tup rfl (dgs_cons (dg_name sc__law_without.nd (i := 3) rfl (.inl rfl)) (dgs_cons (dg_name sc__law_without.nd (i := 4) rfl (.inl rfl)) (dgs_cons (dg_name sc__law_without.nd (i := 5) rfl (.inl rfl)) dgs_nil))))
    (dss_one (ds_if (dt_cmp (op_notInP hr.units) opv_in (dvn 4) (dvn 1) (by rfl))
    (dss_one (ds_expr (de_app (dvn 2) (da_cons (de_tup (da_cons (dvn 3) (da_cons (dvn 4) (da_cons (de_if (dt_cmp (op_inP hr.units) opv_in (dvn 5) (dvn 1) (by rfl)) de_non (dvn 5)) da_nil)))) da_nil))))
    dss_nil)))
    (dss_one (ds_ret (dvn 2)))))
theorem o__law_without {K : Kc} {mg : Str → Option Value} {base : Heap} (B : Bi mg) {f : Addr} {fd : FuncData} (F : FunD K.k "_law_without" "_law_without" (defArgs (top 50)) (defBody (top 50)) (defScope (top 50)) [] [] f fd) : FnOk K.p K.w K.k mg base CX0 1 f fd ["weave", "numbers"] (spF K m__law_without) := fn_okx F sc__law_without fun cdv A outer s H E hr => d__law_without B  cdv A outer s H E hr
theorem sc__law_numbers : FnScope ["purse", "last", "some"] ["purse", "last"] (defScope (top 51)) := ⟨rfl, rfl, rfl, by decide +kernel, rfl, by decide +kernel, by decide +kernel⟩
theorem d__law_numbers {K : Kc} {mg : Str → Option Value} {base : Heap} (B : Bi mg) (g__law_draw_0 : Gd K mg base 2 "_law_draw" m__law_draw []) (g__law_shuffled_0 : Gd K mg base 3 "_law_shuffled" m__law_shuffled []) {f : Addr} (cdv : Value) (A : Around) (outer : List Env) (s : Shared) (H : Hp) (E : XK) (hr : Room 3 (A.deeper (envOfC "_law_numbers" (defScope (top 51)) s.heap.objs.size f cdv))) : DSs (cxOf CX0 K.p K.w K.k mg base ["purse", "last", "some"] "_law_numbers" (defScope (top 51)) f cdv A outer s H E).nox (defBody (top 51)) b__law_numbers :=
  by
  delta b__law_numbers
  delta A_b__law_numbers
  exact (dss_cons (ds_set sc__law_numbers.nd (i := 2) rfl (.inl rfl) (de_ret (dr_g [.m, .b] g__law_shuffled_0 hr (by decide) (by rfl) (da_cons (dvn 0) (da_cons (de_fr (df_listRg2 rfl (by rfl) B.list (by rfl) B.range de_int (de_op opr_add opv_add (dvn 1) de_int))) da_nil)))))
    (dss_one (ds_ret (de_if (dt_cmp op_gt opv_gt (de_ret (dr_g [.m, .b] g__law_draw_0 hr (by decide) (by rfl) (da_cons (dvn 0) (da_cons de_int da_nil)))) de_int (by rfl)) (de_own (df_sl (dvn 2) do_none (do_some (de_ret (dr_g [.m, .b] g__law_draw_0 hr (by decide) (by rfl) (da_cons (dvn 0) (da_cons (de_op opr_add opv_add (de_cb call_len cv_len (by rfl) B.len boot_len (da_cons (dvn 2) da_nil)) de_int) da_nil))))))) (de_own (df_sl (dvn 2) do_none (do_some (de_ret (dr_g [.m, .b] g__law_draw_0 hr (by decide) (by rfl) (da_cons (dvn 0) (da_cons de_int da_nil)))))))))))
theorem o__law_numbers {K : Kc} {mg : Str → Option Value} {base : Heap} (B : Bi mg) (g__law_draw_0 : Gd K mg base 2 "_law_draw" m__law_draw []) (g__law_shuffled_0 : Gd K mg base 3 "_law_shuffled" m__law_shuffled []) {f : Addr} {fd : FuncData} (F : FunD K.k "_law_numbers" "_law_numbers" (defArgs (top 51)) (defBody (top 51)) (defScope (top 51)) [] [] f fd) : FnOk K.p K.w K.k mg base CX0 4 f fd ["purse", "last"] (spF K m__law_numbers) := fn_okx F sc__law_numbers fun cdv A outer s H E hr => d__law_numbers B g__law_draw_0 g__law_shuffled_0 cdv A outer s H E hr
theorem sc__law_joined : FnScope ["one", "other", "number"] ["one", "other"] (defScope (top 52)) := ⟨rfl, rfl, rfl, by decide +kernel, rfl, by decide +kernel, by decide +kernel⟩
theorem d__law_joined {K : Kc} {mg : Str → Option Value} {base : Heap} (B : Bi mg) {f : Addr} (cdv : Value) (A : Around) (outer : List Env) (s : Shared) (H : Hp) (E : XK) (hr : Room 0 (A.deeper (envOfC "_law_joined" (defScope (top 52)) s.heap.objs.size f cdv))) : DSs (cxOf CX0 K.p K.w K.k mg base ["one", "other", "number"] "_law_joined" (defScope (top 52)) f cdv A outer s H E).nox (defBody (top 52)) b__law_joined :=
  by
  delta b__law_joined
  delta A_b__law_joined
  delta l__law_joined_1
  delta A_l__law_joined_1
  delta lm__law_joined_1
  delta A_lm__law_joined_1
  delta lc__law_joined_1
  delta A_lc__law_joined_1
  exact (dss_one (ds_ret (de_own (df_cat (dvn 0) (de_fr (df_lc (own := [("number", 2)]) rfl sc__law_joined.nd (di_list (dvn 1)) (blkOk_by (N := ["one", "other", "number"]) (sc := defScope (top 52)) (by decide +kernel)) (fun _ _ _ _ _ => (dn_name sc__law_joined.nd (i := 2) rfl (by first | exact .inl rfl | exact .inr rfl))) (fun _ _ _ _ _ => (dts_one (dt_cmp (op_notInP hr.units) opv_in (dvn 2) (dvn 0) (by rfl)))) (fun _ _ _ _ _ => (dvn 2))))))))
theorem o__law_joined {K : Kc} {mg : Str → Option Value} {base : Heap} (B : Bi mg) {f : Addr} {fd : FuncData} (F : FunD K.k "_law_joined" "_law_joined" (defArgs (top 52)) (defBody (top 52)) (defScope (top 52)) [] [] f fd) : FnOk K.p K.w K.k mg base CX0 1 f fd ["one", "other"] (spF K m__law_joined) := fn_okx F sc__law_joined fun cdv A outer s H E hr => d__law_joined B  cdv A outer s H E hr
theorem sc__law_right : FnScope ["purse", "weave", "handed", "told", "k", "others", "mine", "kept", "last", "one", "other", "due", "both"] ["purse", "weave"] (defScope (top 53)) := ⟨rfl, rfl, rfl, by decide +kernel, rfl, by decide +kernel, by decide +kernel⟩
theorem d__law_right {K : Kc} {mg : Str → Option Value} {base : Heap} (B : Bi mg) (g__law_at_0 : Gd K mg base 1 "_law_at" m__law_at []) (g__law_joined_0 : Gd K mg base 1 "_law_joined" m__law_joined []) (g__law_last_0 : Gd K mg base 1 "_law_last" m__law_last []) (g__law_numbers_0 : Gd K mg base 4 "_law_numbers" m__law_numbers []) (g__law_plain_0 : Gd K mg base 13 "_law_plain" (m__law_plain 12) []) (g__law_same_0 : Gd K mg base 13 "_law_same" (m__law_same 12) []) (g__law_without_0 : Gd K mg base 1 "_law_without" m__law_without []) (g_last_change_0 : Gd K mg base 6 "last_change" m_last_change []) (g_left_out_0 : Gd K mg base 6 "left_out" m_left_out []) (g_lines_at_0 : Gd K mg base 6 "lines_at" m_lines_at []) (g_lines_by_0 : Gd K mg base 6 "lines_by" m_lines_by []) (gk_left_out_numbers_weave : Gk K mg base 6 "left_out" m_left_out ["numbers", "weave"] (permL [1, 0])) (gk_lines_at_k_weave : Gk K mg base 6 "lines_at" m_lines_at ["k", "weave"] (permL [1, 0])) (gk_lines_by_numbers_weave : Gk K mg base 6 "lines_by" m_lines_by ["numbers", "weave"] (permL [1, 0])) {f : Addr} (cdv : Value) (A : Around) (outer : List Env) (s : Shared) (H : Hp) (E : XK) (hr : Room 13 (A.deeper (envOfC "_law_right" (defScope (top 53)) s.heap.objs.size f cdv))) : DSs (cxOf CX0 K.p K.w K.k mg base ["purse", "weave", "handed", "told", "k", "others", "mine", "kept", "last", "one", "other", "due", "both"] "_law_right" (defScope (top 53)) f cdv A outer s H E).nox (defBody (top 53)) b__law_right :=
  by
  delta b__law_right
  delta A_b__law_right
  delta l__law_right_2
  delta A_l__law_right_2
  delta lm__law_right_2
  delta A_lm__law_right_2
  delta lc__law_right_2
  delta A_lc__law_right_2
  delta l__law_right_1
  delta A_l__law_right_1
  delta lb__law_right_1
  delta A_lb__law_right_1
  exact (dss_cons (ds_par rfl sc__law_right.nd (i := 7) (j := 8) rfl rfl (by decide) rfl rfl (da_cons (de_ret (dr_g [.b] g__law_plain_0 hr (by decide) (by rfl) (da_cons (dvn 1) da_nil))) (da_cons (de_ret (dr_g [.b] g__law_last_0 hr (by decide) (by rfl) (da_cons (dvn 1) da_nil))) da_nil)))
    (dss_cons (ds_parT (n := 2) rfl (da_cons (de_ret (dr_g [.m, .b] g__law_numbers_0 hr (by decide) (by rfl) (da_cons (dvn 0) (da_cons (dvn 8) da_nil)))) (da_cons (de_ret (dr_g [.m, .b] g__law_numbers_0 hr (by decide) (by rfl) (da_cons (dvn 0) (da_cons (dvn 8) da_nil)))) da_nil)) (dgs_cons (dg_name sc__law_right.nd (i := 9) rfl (.inr rfl)) (dgs_cons (dg_name sc__law_right.nd (i := 10) rfl (.inl rfl)) dgs_nil)) rfl rfl rfl (by rfl) (by rfl) (by rfl) (aLenE (aLenS (aLenS aLen0)) (by decide)))
    (dss_cons (ds_set sc__law_right.nd (i := 2) rfl (.inl rfl) (de_fr (df_lst (da_cons (de_fr (df_ct call_list_of cf_list (by rfl) B.list boot_list (da_cons (dvn 9) da_nil))) (da_cons (de_fr (df_ct call_list_of cf_list (by rfl) B.list boot_list (da_cons (dvn 10) da_nil))) da_nil)))))
    (dss_cons (ds_par rfl sc__law_right.nd (i := 11) (j := 12) rfl rfl (by decide) rfl rfl (da_cons (de_ret (dr_g [.b, .b] g__law_without_0 hr (by decide) (by rfl) (da_cons (dvn 7) (da_cons (dvn 9) da_nil)))) (da_cons (de_ret (dr_g [.b, .b] g__law_without_0 hr (by decide) (by rfl) (da_cons (dvn 7) (da_cons (de_ret (dr_g [.f, .b] g__law_joined_0 hr (by decide) (by rfl) (da_cons (dvn 9) (da_cons (dvn 10) da_nil)))) da_nil)))) da_nil)))
    (dss_cons (ds_set sc__law_right.nd (i := 3) rfl (.inl rfl) (de_own (df_ret (dr_g [.b, .b] g_left_out_0 hr (by decide) (by rfl) (da_cons (dvn 1) (da_cons (dvn 9) da_nil))))))
    (dss_cons (ds_if (dt_w (dw_or (dt_not (dt_val (de_ret (dr_g [.b, .b] g__law_same_0 hr (by decide) (by rfl) (da_cons (dvn 3) (da_cons (dvn 11) da_nil)))))) (dw_or1 (dt_not (dt_val (de_ret (dr_g [.b, .b] g__law_same_0 hr (by decide) (by rfl) (da_cons (de_ret (dr_gk (ks := ["numbers", "weave"]) (pr := permL [1, 0]) [.b, .b] gk_left_out_numbers_weave hr (by decide) (by rfl) (dk_cons (dvn 10) (dk_cons (dvn 3) dk_nil)))) (da_cons (dvn 12) da_nil)))))))))
    (dss_one (ds_ret de_bl))
    dss_nil)
    (dss_cons (ds_if (dt_w (dw_or (dt_not (dt_val (de_ret (dr_g [.b, .b] g__law_same_0 hr (by decide) (by rfl) (da_cons (de_ret (dr_g [.b, .b] g_left_out_0 hr (by decide) (by rfl) (da_cons (de_ret (dr_g [.b, .b] g_left_out_0 hr (by decide) (by rfl) (da_cons (dvn 1) (da_cons (dvn 10) da_nil)))) (da_cons (dvn 9) da_nil)))) (da_cons (dvn 12) da_nil)))))) (dw_or1 (dt_not (dt_val (de_ret (dr_g [.b, .b] g__law_same_0 hr (by decide) (by rfl) (da_cons (de_ret (dr_g [.b, .b] g_left_out_0 hr (by decide) (by rfl) (da_cons (dvn 1) (da_cons (de_ret (dr_g [.f, .b] g__law_joined_0 hr (by decide) (by rfl) (da_cons (dvn 10) (da_cons (dvn 9) da_nil)))) da_nil)))) (da_cons (dvn 12) da_nil)))))))))
    (dss_one (ds_ret de_bl))
    dss_nil)
    (dss_cons (ds_for PassesOwn.never rfl (di_rng1 (by rfl) B.range (da_cons (de_op opr_add opv_add (dvn 8) de_int) da_nil)) (dg_name sc__law_right.nd (i := 4) rfl (.inl rfl))
    (dss_one (ds_if (dt_w (dw_or (dt_not (dt_val (de_ret (dr_g [.b, .b] g__law_same_0 hr (by decide) (by rfl) (da_cons (de_ret (dr_g [.b, .b] g_lines_at_0 hr (by decide) (by rfl) (da_cons (dvn 3) (da_cons (dvn 4) da_nil)))) (da_cons (de_ret (dr_g [.b, .b] g__law_at_0 hr (by decide) (by rfl) (da_cons (dvn 11) (da_cons (dvn 4) da_nil)))) da_nil)))))) (dw_or1 (dt_not (dt_val (de_ret (dr_g [.b, .b] g__law_same_0 hr (by decide) (by rfl) (da_cons (de_ret (dr_gk (ks := ["k", "weave"]) (pr := permL [1, 0]) [.b, .b] gk_lines_at_k_weave hr (by decide) (by rfl) (dk_cons (dvn 4) (dk_cons (dvn 1) dk_nil)))) (da_cons (de_ret (dr_g [.b, .b] g__law_at_0 hr (by decide) (by rfl) (da_cons (dvn 7) (da_cons (dvn 4) da_nil)))) da_nil)))))))))
    (dss_one (ds_ret de_bl))
    dss_nil)))
    (dss_cons (ds_setLc (own := [("k", 4)]) (i := 5) (k := false) rfl sc__law_right.nd rfl rfl rfl (di_rng2 (by rfl) B.range (da_cons de_int (da_cons (de_op opr_add opv_add (dvn 8) de_int) da_nil))) (blkOk_by (N := ["purse", "weave", "handed", "told", "k", "others", "mine", "kept", "last", "one", "other", "due", "both"]) (sc := defScope (top 53)) (by decide +kernel)) (fun _ _ _ _ _ => (dn_name sc__law_right.nd (i := 4) rfl (by first | exact .inl rfl | exact .inr rfl))) (fun _ _ _ _ _ => (dts_one (dt_cmp (op_notInP hr.units) opv_in (dvn 4) (dvn 9) (by rfl)))) (fun _ _ _ _ _ => (dvn 4)))
    (dss_cons (ds_set sc__law_right.nd (i := 6) rfl (.inl rfl) (de_own (df_ret (dr_g [.b, .b] g_lines_by_0 hr (by decide) (by rfl) (da_cons (dvn 1) (da_cons (dvn 9) da_nil))))))
    (dss_cons (ds_if (dt_w (dw_or (dt_not (dt_val (de_ret (dr_g [.b, .b] g__law_same_0 hr (by decide) (by rfl) (da_cons (dvn 6) (da_cons (de_ret (dr_g [.b, .b] g__law_at_0 hr (by decide) (by rfl) (da_cons (de_ret (dr_g [.b, .b] g__law_without_0 hr (by decide) (by rfl) (da_cons (dvn 7) (da_cons (dvn 5) da_nil)))) (da_cons (dvn 8) da_nil)))) da_nil)))))) (dw_or1 (dt_not (dt_val (de_ret (dr_g [.b, .b] g__law_same_0 hr (by decide) (by rfl) (da_cons (de_ret (dr_g [.b] g_last_change_0 hr (by decide) (by rfl) (da_cons (dvn 1) da_nil))) (da_cons (dvn 8) da_nil)))))))))
    (dss_one (ds_ret de_bl))
    dss_nil)
    (dss_cons (ds_expr (de_app (dvn 3) (da_cons (de_tup (da_cons de_str (da_cons de_int (da_cons de_non da_nil)))) da_nil)))
    (dss_cons (ds_expr (de_app (dvn 6) (da_cons de_str da_nil)))
    (dss_cons (ds_if (dt_w (dw_or (dt_not (dt_val (de_ret (dr_g [.b, .b] g__law_same_0 hr (by decide) (by rfl) (da_cons (de_ret (dr_g [.b, .b] g_left_out_0 hr (by decide) (by rfl) (da_cons (dvn 1) (da_cons (dvn 9) da_nil)))) (da_cons (dvn 11) da_nil)))))) (dw_or1 (dt_not (dt_val (de_ret (dr_g [.b, .b] g__law_same_0 hr (by decide) (by rfl) (da_cons (de_ret (dr_gk (ks := ["numbers", "weave"]) (pr := permL [1, 0]) [.b, .b] gk_lines_by_numbers_weave hr (by decide) (by rfl) (dk_cons (dvn 9) (dk_cons (dvn 1) dk_nil)))) (da_cons (de_fr (df_sl (dvn 6) do_none (do_some (de_neg de_int)))) da_nil)))))))))
    (dss_one (ds_ret de_bl))
    dss_nil)
    (dss_one (ds_ret (de_and (de_ret (dr_g [.b, .b] g__law_same_0 hr (by decide) (by rfl) (da_cons (de_fr (df_lst (da_cons (dvn 1) (da_cons (de_fr (df_lst (da_cons (dvn 9) (da_cons (dvn 10) da_nil)))) da_nil)))) (da_cons (de_fr (df_lst (da_cons (dvn 7) (da_cons (dvn 2) da_nil)))) da_nil)))) (de_and1 (de_ret (dr_g [.b, .b] g__law_same_0 hr (by decide) (by rfl) (da_cons (de_ret (dr_g [.b, .b] g_left_out_0 hr (by decide) (by rfl) (da_cons (dvn 1) (da_cons (de_fr (df_lst da_nil)) da_nil)))) (da_cons (dvn 7) da_nil))))))))))))))))))))))
theorem o__law_right {K : Kc} {mg : Str → Option Value} {base : Heap} (B : Bi mg) (g__law_at_0 : Gd K mg base 1 "_law_at" m__law_at []) (g__law_joined_0 : Gd K mg base 1 "_law_joined" m__law_joined []) (g__law_last_0 : Gd K mg base 1 "_law_last" m__law_last []) (g__law_numbers_0 : Gd K mg base 4 "_law_numbers" m__law_numbers []) (g__law_plain_0 : Gd K mg base 13 "_law_plain" (m__law_plain 12) []) (g__law_same_0 : Gd K mg base 13 "_law_same" (m__law_same 12) []) (g__law_without_0 : Gd K mg base 1 "_law_without" m__law_without []) (g_last_change_0 : Gd K mg base 6 "last_change" m_last_change []) (g_left_out_0 : Gd K mg base 6 "left_out" m_left_out []) (g_lines_at_0 : Gd K mg base 6 "lines_at" m_lines_at []) (g_lines_by_0 : Gd K mg base 6 "lines_by" m_lines_by []) (gk_left_out_numbers_weave : Gk K mg base 6 "left_out" m_left_out ["numbers", "weave"] (permL [1, 0])) (gk_lines_at_k_weave : Gk K mg base 6 "lines_at" m_lines_at ["k", "weave"] (permL [1, 0])) (gk_lines_by_numbers_weave : Gk K mg base 6 "lines_by" m_lines_by ["numbers", "weave"] (permL [1, 0])) {f : Addr} {fd : FuncData} (F : FunD K.k "_law_right" "_law_right" (defArgs (top 53)) (defBody (top 53)) (defScope (top 53)) [] [] f fd) : FnOk K.p K.w K.k mg base CX0 14 f fd ["purse", "weave"] (spF K m__law_right) := fn_okx F sc__law_right fun cdv A outer s H E hr => d__law_right B g__law_at_0 g__law_joined_0 g__law_last_0 g__law_numbers_0 g__law_plain_0 g__law_same_0 g__law_without_0 g_last_change_0 g_left_out_0 g_lines_at_0 g_lines_by_0 gk_left_out_numbers_weave gk_lines_at_k_weave gk_lines_by_numbers_weave cdv A outer s H E hr
theorem sc_law : FnScope ["script", "spot", "purse", "few", "weave", "lists"] ["script"] (defScope (top 54)) := ⟨rfl, rfl, rfl, by decide +kernel, rfl, by decide +kernel, by decide +kernel⟩
theorem d_law {K : Kc} {mg : Str → Option Value} {base : Heap} (B : Bi mg) (g__law_draw_0 : Gd K mg base 2 "_law_draw" m__law_draw []) (g__law_lists_0 : Gd K mg base 6 "_law_lists" m__law_lists []) (g__law_one_of_0 : Gd K mg base 3 "_law_one_of" m__law_one_of []) (g__law_purse_0 : Gd K mg base 1 "_law_purse" m__law_purse []) (g__law_right_0 : Gd K mg base 14 "_law_right" m__law_right []) (g__law_weave_0 : Gd K mg base 5 "_law_weave" m__law_weave []) (g_last_change_0 : Gd K mg base 6 "last_change" m_last_change []) (g_left_out_0 : Gd K mg base 6 "left_out" m_left_out []) (g_lines_at_0 : Gd K mg base 6 "lines_at" m_lines_at []) (g_lines_by_0 : Gd K mg base 6 "lines_by" m_lines_by []) (g_woven_lines_0 : Gd K mg base 7 "woven_lines" m_woven_lines []) {f : Addr} (cdv : Value) (A : Around) (outer : List Env) (s : Shared) (H : Hp) (E : XK) (hr : Room 14 (A.deeper (envOfC "law" (defScope (top 54)) s.heap.objs.size f cdv))) : DSs (cxOf CX0 K.p K.w K.k mg base ["script", "spot", "purse", "few", "weave", "lists"] "law" (defScope (top 54)) f cdv A outer s H E).nox (defBody (top 54)) b_law :=
  by
  delta b_law
  delta A_b_law
  delta l_law_1
  delta A_l_law_1
  delta lb_law_1
  delta A_lb_law_1
  exact (dss_cons (ds_for PassesOwn.never rfl (di_rng1 (by rfl) B.range (da_cons de_int da_nil)) (dg_name sc_law.nd (i := 1) rfl (.inl rfl))
    (dss_cons (ds_set sc_law.nd (i := 2) rfl (.inl rfl) (de_own (df_ret (dr_g [.b, .f] g__law_purse_0 hr (by decide) (by rfl) (da_cons (dvn 0) (da_cons (dvn 1) da_nil))))))
    (dss_cons (ds_set sc_law.nd (i := 3) rfl (.inl rfl) (de_fr (df_sl (de_fr (df_lst (da_cons de_str (da_cons de_str (da_cons de_str (da_cons de_str da_nil)))))) do_none (do_some (de_op opr_add opv_add de_int (de_ret (dr_g [.m, .b] g__law_draw_0 hr (by decide) (by rfl) (da_cons (dvn 2) (da_cons de_int da_nil)))))))))
    (dss_cons (ds_set sc_law.nd (i := 4) rfl (.inl rfl) (de_ret (dr_g [.m, .b, .b, .b] g__law_weave_0 hr (by decide) (by rfl) (da_cons (dvn 2) (da_cons (de_ret (dr_g [.m, .b] g__law_draw_0 hr (by decide) (by rfl) (da_cons (dvn 2) (da_cons (de_ret (dr_g [.m, .b] g__law_one_of_0 hr (by decide) (by rfl) (da_cons (dvn 2) (da_cons (de_fr (df_lst (da_cons de_int (da_cons de_int (da_cons de_int da_nil))))) da_nil)))) da_nil)))) (da_cons (de_op opr_add opv_add de_int (de_ret (dr_g [.m, .b] g__law_draw_0 hr (by decide) (by rfl) (da_cons (dvn 2) (da_cons de_int da_nil))))) (da_cons (dvn 3) da_nil)))))))
    (dss_cons (ds_set sc_law.nd (i := 5) rfl (.inl rfl) (de_ret (dr_g [.m, .b, .b] g__law_lists_0 hr (by decide) (by rfl) (da_cons (dvn 2) (da_cons (de_op opr_add opv_add de_int (de_ret (dr_g [.m, .b] g__law_draw_0 hr (by decide) (by rfl) (da_cons (dvn 2) (da_cons de_int da_nil))))) (da_cons (dvn 3) da_nil))))))
    (dss_one (ds_if (dt_w (dw_or (dt_not (dt_val (de_ret (dr_g [.m, .f] g__law_right_0 hr (by decide) (by rfl) (da_cons (dvn 2) (da_cons (dvn 4) da_nil)))))) (dw_or1 (dt_not (dt_val (de_ret (dr_g [.m, .f] g__law_right_0 hr (by decide) (by rfl) (da_cons (dvn 2) (da_cons (de_fr (df_sl (de_ret (dr_g [.b] g_woven_lines_0 hr (by decide) (by rfl) (da_cons (dvn 5) da_nil))) do_none (do_some de_int))) da_nil)))))))))
    (dss_one (ds_ret de_bl))
    dss_nil)))))))
    (dss_one (ds_ret (de_and (de_cmp (op_eqP hr.units) opv_eq (de_ret (dr_g [.b, .b] g_lines_at_0 hr (by decide) (by rfl) (da_cons (de_fr (df_lst da_nil)) (da_cons de_int da_nil)))) (de_fr (df_lst da_nil)) (by rfl)) (de_and (de_cmp (op_eqP hr.units) opv_eq (de_ret (dr_g [.b] g_last_change_0 hr (by decide) (by rfl) (da_cons (de_fr (df_lst da_nil)) da_nil))) de_int (by rfl)) (de_and (de_cmp (op_eqP hr.units) opv_eq (de_ret (dr_g [.b, .b] g_left_out_0 hr (by decide) (by rfl) (da_cons (de_fr (df_lst da_nil)) (da_cons (de_fr (df_lst (da_cons de_int da_nil))) da_nil)))) (de_fr (df_lst da_nil)) (by rfl)) (de_and1 (de_cmp (op_eqP hr.units) opv_eq (de_ret (dr_g [.b, .b] g_lines_by_0 hr (by decide) (by rfl) (da_cons (de_fr (df_lst (da_cons (de_tup (da_cons de_str (da_cons de_int (da_cons de_int da_nil)))) (da_cons (de_tup (da_cons de_str (da_cons de_int (da_cons de_non da_nil)))) da_nil)))) (da_cons (de_fr (df_lst da_nil)) da_nil)))) (de_fr (df_lst (da_cons de_str da_nil))) (by rfl)))))))))
theorem o_law {K : Kc} {mg : Str → Option Value} {base : Heap} (B : Bi mg) (g__law_draw_0 : Gd K mg base 2 "_law_draw" m__law_draw []) (g__law_lists_0 : Gd K mg base 6 "_law_lists" m__law_lists []) (g__law_one_of_0 : Gd K mg base 3 "_law_one_of" m__law_one_of []) (g__law_purse_0 : Gd K mg base 1 "_law_purse" m__law_purse []) (g__law_right_0 : Gd K mg base 14 "_law_right" m__law_right []) (g__law_weave_0 : Gd K mg base 5 "_law_weave" m__law_weave []) (g_last_change_0 : Gd K mg base 6 "last_change" m_last_change []) (g_left_out_0 : Gd K mg base 6 "left_out" m_left_out []) (g_lines_at_0 : Gd K mg base 6 "lines_at" m_lines_at []) (g_lines_by_0 : Gd K mg base 6 "lines_by" m_lines_by []) (g_woven_lines_0 : Gd K mg base 7 "woven_lines" m_woven_lines []) {f : Addr} {fd : FuncData} (F : FunD K.k "law" "law" (defArgs (top 54)) (defBody (top 54)) (defScope (top 54)) [] [] f fd) : FnOk K.p K.w K.k mg base CX0 15 f fd ["script"] (spF K m_law) := fn_okx F sc_law fun cdv A outer s H E hr => d_law B g__law_draw_0 g__law_lists_0 g__law_one_of_0 g__law_purse_0 g__law_right_0 g__law_weave_0 g_last_change_0 g_left_out_0 g_lines_at_0 g_lines_by_0 g_woven_lines_0 cdv A outer s H E hr
end HdK

set_option Elab.async false
set_option linter.all false
set_option maxRecDepth 100000
set_option maxHeartbeats 4000000
namespace HdK
open PySem PySem.Spec PyProof.Rows L2 Vi

theorem all {K : Kc} {h : Heap} {mg : Str → Option Value} {f : Addr} (X : K.k.In h) (G : h.Ns mainGlobals mg) (hfa : mg ("law" : Str) = some (.ref f)) (c : He.SaysD fa fn K.k) :
    ∃ fd : FuncData, (∀ (s : Shared) (v : Value), BindsTo s fd ⟨[v], []⟩ [("script", v)]) ∧ ∀ base : Heap, FnOk K.p K.w K.k mg base CX0 15 f fd ["script"] (spF K m_law) := by
  have B : Bi mg := ⟨He.free_ok X G (c.fact 44 (f := .free "all") rfl), He.free_ok X G (c.fact 45 (f := .free "bool") rfl), He.free_ok X G (c.fact 46 (f := .free "dict") rfl), He.free_ok X G (c.fact 47 (f := .free "enumerate") rfl), He.free_ok X G (c.fact 48 (f := .free "int") rfl), He.free_ok X G (c.fact 49 (f := .free "isinstance") rfl), He.free_ok X G (c.fact 50 (f := .free "len") rfl), He.free_ok X G (c.fact 51 (f := .free "list") rfl), He.free_ok X G (c.fact 52 (f := .free "max") rfl), He.free_ok X G (c.fact 53 (f := .free "range") rfl), He.free_ok X G (c.fact 54 (f := .free "set") rfl), He.free_ok X G (c.fact 55 (f := .free "str") rfl), He.free_ok X G (c.fact 56 (f := .free "sum") rfl), He.free_ok X G (c.fact 57 (f := .free "tuple") rfl), He.free_ok X G (c.fact 58 (f := .free "zip") rfl)⟩
  obtain ⟨fd_is_whole, F_is_whole0⟩ := c.def_ 0 rfl
  have F_is_whole : FunD K.k "is_whole" "is_whole" (defArgs (top 6)) (defBody (top 6)) (defScope (top 6)) [] [] (He.fAd K.k ("is_whole", none)) fd_is_whole := F_is_whole0
  have h_is_whole : mg "is_whole" = some (.ref (He.fAd K.k ("is_whole", none))) := He.glo_ok X G (c.fact 0 (f := .glo "is_whole") rfl)
  obtain ⟨fd_is_count, F_is_count0⟩ := c.def_ 1 rfl
  have F_is_count : FunD K.k "is_count" "is_count" (defArgs (top 7)) (defBody (top 7)) (defScope (top 7)) [.int 0] [] (He.fAd K.k ("is_count", none)) fd_is_count := F_is_count0
  have h_is_count : mg "is_count" = some (.ref (He.fAd K.k ("is_count", none))) := He.glo_ok X G (c.fact 1 (f := .glo "is_count") rfl)
  obtain ⟨fd_is_text, F_is_text0⟩ := c.def_ 2 rfl
  have F_is_text : FunD K.k "is_text" "is_text" (defArgs (top 8)) (defBody (top 8)) (defScope (top 8)) [] [] (He.fAd K.k ("is_text", none)) fd_is_text := F_is_text0
  have h_is_text : mg "is_text" = some (.ref (He.fAd K.k ("is_text", none))) := He.glo_ok X G (c.fact 2 (f := .glo "is_text") rfl)
  obtain ⟨fd_is_line, F_is_line0⟩ := c.def_ 3 rfl
  have F_is_line : FunD K.k "is_line" "is_line" (defArgs (top 9)) (defBody (top 9)) (defScope (top 9)) [] [] (He.fAd K.k ("is_line", none)) fd_is_line := F_is_line0
  have h_is_line : mg "is_line" = some (.ref (He.fAd K.k ("is_line", none))) := He.glo_ok X G (c.fact 3 (f := .glo "is_line") rfl)
  obtain ⟨fd_is_tuple_of, F_is_tuple_of0⟩ := c.def_ 4 rfl
  have F_is_tuple_of : FunD K.k "is_tuple_of" "is_tuple_of" (defArgs (top 10)) (defBody (top 10)) (defScope (top 10)) [] [] (He.fAd K.k ("is_tuple_of", none)) fd_is_tuple_of := F_is_tuple_of0
  have h_is_tuple_of : mg "is_tuple_of" = some (.ref (He.fAd K.k ("is_tuple_of", none))) := He.glo_ok X G (c.fact 4 (f := .glo "is_tuple_of") rfl)
  obtain ⟨fd_check_count, F_check_count0⟩ := c.def_ 5 rfl
  have F_check_count : FunD K.k "check_count" "check_count" (defArgs (top 11)) (defBody (top 11)) (defScope (top 11)) [.int 0, .non] [] (He.fAd K.k ("check_count", none)) fd_check_count := F_check_count0
  have h_check_count : mg "check_count" = some (.ref (He.fAd K.k ("check_count", none))) := He.glo_ok X G (c.fact 5 (f := .glo "check_count") rfl)
  obtain ⟨fd_is_lines, F_is_lines0⟩ := c.def_ 6 rfl
  have F_is_lines : FunD K.k "is_lines" "is_lines" (defArgs (top 16)) (defBody (top 16)) (defScope (top 16)) [] [] (He.fAd K.k ("is_lines", none)) fd_is_lines := F_is_lines0
  have h_is_lines : mg "is_lines" = some (.ref (He.fAd K.k ("is_lines", none))) := He.glo_ok X G (c.fact 6 (f := .glo "is_lines") rfl)
  obtain ⟨fd_check_lines, F_check_lines0⟩ := c.def_ 7 rfl
  have F_check_lines : FunD K.k "check_lines" "check_lines" (defArgs (top 17)) (defBody (top 17)) (defScope (top 17)) [] [] (He.fAd K.k ("check_lines", none)) fd_check_lines := F_check_lines0
  have h_check_lines : mg "check_lines" = some (.ref (He.fAd K.k ("check_lines", none))) := He.glo_ok X G (c.fact 7 (f := .glo "check_lines") rfl)
  obtain ⟨fd_most_behind, F_most_behind0⟩ := c.def_ 8 rfl
  have F_most_behind : FunD K.k "most_behind" "most_behind" (defArgs (top 18)) (defBody (top 18)) (defScope (top 18)) [] [] (He.fAd K.k ("most_behind", none)) fd_most_behind := F_most_behind0
  have h_most_behind : mg "most_behind" = some (.ref (He.fAd K.k ("most_behind", none))) := He.glo_ok X G (c.fact 8 (f := .glo "most_behind") rfl)
  obtain ⟨fd_longest_row, F_longest_row0⟩ := c.def_ 9 rfl
  have F_longest_row : FunD K.k "longest_row" "longest_row" (defArgs (top 19)) (defBody (top 19)) (defScope (top 19)) [] [] (He.fAd K.k ("longest_row", none)) fd_longest_row := F_longest_row0
  have h_longest_row : mg "longest_row" = some (.ref (He.fAd K.k ("longest_row", none))) := He.glo_ok X G (c.fact 9 (f := .glo "longest_row") rfl)
  obtain ⟨fd_common_row, F_common_row0⟩ := c.def_ 10 rfl
  have F_common_row : FunD K.k "common_row" "common_row" (defArgs (top 20)) (defBody (top 20)) (defScope (top 20)) [] [] (He.fAd K.k ("common_row", none)) fd_common_row := F_common_row0
  have h_common_row : mg "common_row" = some (.ref (He.fAd K.k ("common_row", none))) := He.glo_ok X G (c.fact 10 (f := .glo "common_row") rfl)
  obtain ⟨fd_is_thread, F_is_thread0⟩ := c.def_ 11 rfl
  have F_is_thread : FunD K.k "is_thread" "is_thread" (defArgs (top 22)) (defBody (top 22)) (defScope (top 22)) [] [] (He.fAd K.k ("is_thread", none)) fd_is_thread := F_is_thread0
  have h_is_thread : mg "is_thread" = some (.ref (He.fAd K.k ("is_thread", none))) := He.glo_ok X G (c.fact 11 (f := .glo "is_thread") rfl)
  obtain ⟨fd_is_weave, F_is_weave0⟩ := c.def_ 12 rfl
  have F_is_weave : FunD K.k "is_weave" "is_weave" (defArgs (top 23)) (defBody (top 23)) (defScope (top 23)) [] [] (He.fAd K.k ("is_weave", none)) fd_is_weave := F_is_weave0
  have h_is_weave : mg "is_weave" = some (.ref (He.fAd K.k ("is_weave", none))) := He.glo_ok X G (c.fact 12 (f := .glo "is_weave") rfl)
  obtain ⟨fd_check_weave, F_check_weave0⟩ := c.def_ 13 rfl
  have F_check_weave : FunD K.k "check_weave" "check_weave" (defArgs (top 24)) (defBody (top 24)) (defScope (top 24)) [] [] (He.fAd K.k ("check_weave", none)) fd_check_weave := F_check_weave0
  have h_check_weave : mg "check_weave" = some (.ref (He.fAd K.k ("check_weave", none))) := He.glo_ok X G (c.fact 13 (f := .glo "check_weave") rfl)
  obtain ⟨fd_check_numbers, F_check_numbers0⟩ := c.def_ 14 rfl
  have F_check_numbers : FunD K.k "check_numbers" "check_numbers" (defArgs (top 25)) (defBody (top 25)) (defScope (top 25)) [] [] (He.fAd K.k ("check_numbers", none)) fd_check_numbers := F_check_numbers0
  have h_check_numbers : mg "check_numbers" = some (.ref (He.fAd K.k ("check_numbers", none))) := He.glo_ok X G (c.fact 14 (f := .glo "check_numbers") rfl)
  obtain ⟨fd_stands_at, F_stands_at0⟩ := c.def_ 15 rfl
  have F_stands_at : FunD K.k "stands_at" "stands_at" (defArgs (top 26)) (defBody (top 26)) (defScope (top 26)) [] [] (He.fAd K.k ("stands_at", none)) fd_stands_at := F_stands_at0
  have h_stands_at : mg "stands_at" = some (.ref (He.fAd K.k ("stands_at", none))) := He.glo_ok X G (c.fact 15 (f := .glo "stands_at") rfl)
  obtain ⟨fd_greatest_number, F_greatest_number0⟩ := c.def_ 16 rfl
  have F_greatest_number : FunD K.k "greatest_number" "greatest_number" (defArgs (top 27)) (defBody (top 27)) (defScope (top 27)) [] [] (He.fAd K.k ("greatest_number", none)) fd_greatest_number := F_greatest_number0
  have h_greatest_number : mg "greatest_number" = some (.ref (He.fAd K.k ("greatest_number", none))) := He.glo_ok X G (c.fact 16 (f := .glo "greatest_number") rfl)
  obtain ⟨fd_lines_at, F_lines_at0⟩ := c.def_ 17 rfl
  have F_lines_at : FunD K.k "lines_at" "lines_at" (defArgs (top 28)) (defBody (top 28)) (defScope (top 28)) [] [] (He.fAd K.k ("lines_at", none)) fd_lines_at := F_lines_at0
  have h_lines_at : mg "lines_at" = some (.ref (He.fAd K.k ("lines_at", none))) := He.glo_ok X G (c.fact 17 (f := .glo "lines_at") rfl)
  obtain ⟨fd_last_change, F_last_change0⟩ := c.def_ 18 rfl
  have F_last_change : FunD K.k "last_change" "last_change" (defArgs (top 29)) (defBody (top 29)) (defScope (top 29)) [] [] (He.fAd K.k ("last_change", none)) fd_last_change := F_last_change0
  have h_last_change : mg "last_change" = some (.ref (He.fAd K.k ("last_change", none))) := He.glo_ok X G (c.fact 18 (f := .glo "last_change") rfl)
  obtain ⟨fd_woven_on, F_woven_on0⟩ := c.def_ 19 rfl
  have F_woven_on : FunD K.k "woven_on" "woven_on" (defArgs (top 30)) (defBody (top 30)) (defScope (top 30)) [] [] (He.fAd K.k ("woven_on", none)) fd_woven_on := F_woven_on0
  have h_woven_on : mg "woven_on" = some (.ref (He.fAd K.k ("woven_on", none))) := He.glo_ok X G (c.fact 19 (f := .glo "woven_on") rfl)
  obtain ⟨fd_is_list_of_lines, F_is_list_of_lines0⟩ := c.def_ 20 rfl
  have F_is_list_of_lines : FunD K.k "is_list_of_lines" "is_list_of_lines" (defArgs (top 31)) (defBody (top 31)) (defScope (top 31)) [] [] (He.fAd K.k ("is_list_of_lines", none)) fd_is_list_of_lines := F_is_list_of_lines0
  have h_is_list_of_lines : mg "is_list_of_lines" = some (.ref (He.fAd K.k ("is_list_of_lines", none))) := He.glo_ok X G (c.fact 20 (f := .glo "is_list_of_lines") rfl)
  obtain ⟨fd_woven_lines, F_woven_lines0⟩ := c.def_ 21 rfl
  have F_woven_lines : FunD K.k "woven_lines" "woven_lines" (defArgs (top 32)) (defBody (top 32)) (defScope (top 32)) [] [] (He.fAd K.k ("woven_lines", none)) fd_woven_lines := F_woven_lines0
  have h_woven_lines : mg "woven_lines" = some (.ref (He.fAd K.k ("woven_lines", none))) := He.glo_ok X G (c.fact 21 (f := .glo "woven_lines") rfl)
  obtain ⟨fd_all_left_out, F_all_left_out0⟩ := c.def_ 22 rfl
  have F_all_left_out : FunD K.k "all_left_out" "all_left_out" (defArgs (top 33)) (defBody (top 33)) (defScope (top 33)) [] [] (He.fAd K.k ("all_left_out", none)) fd_all_left_out := F_all_left_out0
  have h_all_left_out : mg "all_left_out" = some (.ref (He.fAd K.k ("all_left_out", none))) := He.glo_ok X G (c.fact 22 (f := .glo "all_left_out") rfl)
  obtain ⟨fd_left_out, F_left_out0⟩ := c.def_ 23 rfl
  have F_left_out : FunD K.k "left_out" "left_out" (defArgs (top 34)) (defBody (top 34)) (defScope (top 34)) [] [] (He.fAd K.k ("left_out", none)) fd_left_out := F_left_out0
  have h_left_out : mg "left_out" = some (.ref (He.fAd K.k ("left_out", none))) := He.glo_ok X G (c.fact 23 (f := .glo "left_out") rfl)
  obtain ⟨fd_lines_by, F_lines_by0⟩ := c.def_ 24 rfl
  have F_lines_by : FunD K.k "lines_by" "lines_by" (defArgs (top 35)) (defBody (top 35)) (defScope (top 35)) [] [] (He.fAd K.k ("lines_by", none)) fd_lines_by := F_lines_by0
  have h_lines_by : mg "lines_by" = some (.ref (He.fAd K.k ("lines_by", none))) := He.glo_ok X G (c.fact 24 (f := .glo "lines_by") rfl)
  obtain ⟨fd__law_purse, F__law_purse0⟩ := c.def_ 25 rfl
  have F__law_purse : FunD K.k "_law_purse" "_law_purse" (defArgs (top 37)) (defBody (top 37)) (defScope (top 37)) [] [] (He.fAd K.k ("_law_purse", none)) fd__law_purse := F__law_purse0
  have h__law_purse : mg "_law_purse" = some (.ref (He.fAd K.k ("_law_purse", none))) := He.glo_ok X G (c.fact 25 (f := .glo "_law_purse") rfl)
  obtain ⟨fd__law_mixed, F__law_mixed0⟩ := c.def_ 26 rfl
  have F__law_mixed : FunD K.k "_law_mixed" "_law_mixed" (defArgs (top 38)) (defBody (top 38)) (defScope (top 38)) [] [] (He.fAd K.k ("_law_mixed", none)) fd__law_mixed := F__law_mixed0
  have h__law_mixed : mg "_law_mixed" = some (.ref (He.fAd K.k ("_law_mixed", none))) := He.glo_ok X G (c.fact 26 (f := .glo "_law_mixed") rfl)
  obtain ⟨fd__law_draw, F__law_draw0⟩ := c.def_ 27 rfl
  have F__law_draw : FunD K.k "_law_draw" "_law_draw" (defArgs (top 39)) (defBody (top 39)) (defScope (top 39)) [] [] (He.fAd K.k ("_law_draw", none)) fd__law_draw := F__law_draw0
  have h__law_draw : mg "_law_draw" = some (.ref (He.fAd K.k ("_law_draw", none))) := He.glo_ok X G (c.fact 27 (f := .glo "_law_draw") rfl)
  obtain ⟨fd__law_one_of, F__law_one_of0⟩ := c.def_ 28 rfl
  have F__law_one_of : FunD K.k "_law_one_of" "_law_one_of" (defArgs (top 40)) (defBody (top 40)) (defScope (top 40)) [] [] (He.fAd K.k ("_law_one_of", none)) fd__law_one_of := F__law_one_of0
  have h__law_one_of : mg "_law_one_of" = some (.ref (He.fAd K.k ("_law_one_of", none))) := He.glo_ok X G (c.fact 28 (f := .glo "_law_one_of") rfl)
  obtain ⟨fd__law_shuffled, F__law_shuffled0⟩ := c.def_ 29 rfl
  have F__law_shuffled : FunD K.k "_law_shuffled" "_law_shuffled" (defArgs (top 41)) (defBody (top 41)) (defScope (top 41)) [] [] (He.fAd K.k ("_law_shuffled", none)) fd__law_shuffled := F__law_shuffled0
  have h__law_shuffled : mg "_law_shuffled" = some (.ref (He.fAd K.k ("_law_shuffled", none))) := He.glo_ok X G (c.fact 29 (f := .glo "_law_shuffled") rfl)
  obtain ⟨fd__law_plain, F__law_plain0⟩ := c.def_ 30 rfl
  have F__law_plain : FunD K.k "_law_plain" "_law_plain" (defArgs (top 42)) (defBody (top 42)) (defScope (top 42)) [] [] (He.fAd K.k ("_law_plain", none)) fd__law_plain := F__law_plain0
  have h__law_plain : mg "_law_plain" = some (.ref (He.fAd K.k ("_law_plain", none))) := He.glo_ok X G (c.fact 30 (f := .glo "_law_plain") rfl)
  obtain ⟨fd__law_same, F__law_same0⟩ := c.def_ 31 rfl
  have F__law_same : FunD K.k "_law_same" "_law_same" (defArgs (top 43)) (defBody (top 43)) (defScope (top 43)) [] [] (He.fAd K.k ("_law_same", none)) fd__law_same := F__law_same0
  have h__law_same : mg "_law_same" = some (.ref (He.fAd K.k ("_law_same", none))) := He.glo_ok X G (c.fact 31 (f := .glo "_law_same") rfl)
  obtain ⟨fd__law_line, F__law_line0⟩ := c.def_ 32 rfl
  have F__law_line : FunD K.k "_law_line" "_law_line" (defArgs (top 44)) (defBody (top 44)) (defScope (top 44)) [] [] (He.fAd K.k ("_law_line", none)) fd__law_line := F__law_line0
  have h__law_line : mg "_law_line" = some (.ref (He.fAd K.k ("_law_line", none))) := He.glo_ok X G (c.fact 32 (f := .glo "_law_line") rfl)
  obtain ⟨fd__law_turned, F__law_turned0⟩ := c.def_ 33 rfl
  have F__law_turned : FunD K.k "_law_turned" "_law_turned" (defArgs (top 45)) (defBody (top 45)) (defScope (top 45)) [] [] (He.fAd K.k ("_law_turned", none)) fd__law_turned := F__law_turned0
  have h__law_turned : mg "_law_turned" = some (.ref (He.fAd K.k ("_law_turned", none))) := He.glo_ok X G (c.fact 33 (f := .glo "_law_turned") rfl)
  obtain ⟨fd__law_lists, F__law_lists0⟩ := c.def_ 34 rfl
  have F__law_lists : FunD K.k "_law_lists" "_law_lists" (defArgs (top 46)) (defBody (top 46)) (defScope (top 46)) [] [] (He.fAd K.k ("_law_lists", none)) fd__law_lists := F__law_lists0
  have h__law_lists : mg "_law_lists" = some (.ref (He.fAd K.k ("_law_lists", none))) := He.glo_ok X G (c.fact 34 (f := .glo "_law_lists") rfl)
  obtain ⟨fd__law_at, F__law_at0⟩ := c.def_ 35 rfl
  have F__law_at : FunD K.k "_law_at" "_law_at" (defArgs (top 47)) (defBody (top 47)) (defScope (top 47)) [] [] (He.fAd K.k ("_law_at", none)) fd__law_at := F__law_at0
  have h__law_at : mg "_law_at" = some (.ref (He.fAd K.k ("_law_at", none))) := He.glo_ok X G (c.fact 35 (f := .glo "_law_at") rfl)
  obtain ⟨fd__law_last, F__law_last0⟩ := c.def_ 36 rfl
  have F__law_last : FunD K.k "_law_last" "_law_last" (defArgs (top 48)) (defBody (top 48)) (defScope (top 48)) [] [] (He.fAd K.k ("_law_last", none)) fd__law_last := F__law_last0
  have h__law_last : mg "_law_last" = some (.ref (He.fAd K.k ("_law_last", none))) := He.glo_ok X G (c.fact 36 (f := .glo "_law_last") rfl)
  obtain ⟨fd__law_weave, F__law_weave0⟩ := c.def_ 37 rfl
  have F__law_weave : FunD K.k "_law_weave" "_law_weave" (defArgs (top 49)) (defBody (top 49)) (defScope (top 49)) [] [] (He.fAd K.k ("_law_weave", none)) fd__law_weave := F__law_weave0
  have h__law_weave : mg "_law_weave" = some (.ref (He.fAd K.k ("_law_weave", none))) := He.glo_ok X G (c.fact 37 (f := .glo "_law_weave") rfl)
  obtain ⟨fd__law_without, F__law_without0⟩ := c.def_ 38 rfl
  have F__law_without : FunD K.k "_law_without" "_law_without" (defArgs (top 50)) (defBody (top 50)) (defScope (top 50)) [] [] (He.fAd K.k ("_law_without", none)) fd__law_without := F__law_without0
  have h__law_without : mg "_law_without" = some (.ref (He.fAd K.k ("_law_without", none))) := He.glo_ok X G (c.fact 38 (f := .glo "_law_without") rfl)
  obtain ⟨fd__law_numbers, F__law_numbers0⟩ := c.def_ 39 rfl
  have F__law_numbers : FunD K.k "_law_numbers" "_law_numbers" (defArgs (top 51)) (defBody (top 51)) (defScope (top 51)) [] [] (He.fAd K.k ("_law_numbers", none)) fd__law_numbers := F__law_numbers0
  have h__law_numbers : mg "_law_numbers" = some (.ref (He.fAd K.k ("_law_numbers", none))) := He.glo_ok X G (c.fact 39 (f := .glo "_law_numbers") rfl)
  obtain ⟨fd__law_joined, F__law_joined0⟩ := c.def_ 40 rfl
  have F__law_joined : FunD K.k "_law_joined" "_law_joined" (defArgs (top 52)) (defBody (top 52)) (defScope (top 52)) [] [] (He.fAd K.k ("_law_joined", none)) fd__law_joined := F__law_joined0
  have h__law_joined : mg "_law_joined" = some (.ref (He.fAd K.k ("_law_joined", none))) := He.glo_ok X G (c.fact 40 (f := .glo "_law_joined") rfl)
  obtain ⟨fd__law_right, F__law_right0⟩ := c.def_ 41 rfl
  have F__law_right : FunD K.k "_law_right" "_law_right" (defArgs (top 53)) (defBody (top 53)) (defScope (top 53)) [] [] (He.fAd K.k ("_law_right", none)) fd__law_right := F__law_right0
  have h__law_right : mg "_law_right" = some (.ref (He.fAd K.k ("_law_right", none))) := He.glo_ok X G (c.fact 41 (f := .glo "_law_right") rfl)
  obtain ⟨fd_law, F_law0⟩ := c.def_ 42 rfl
  have F_law : FunD K.k "law" "law" (defArgs (top 54)) (defBody (top 54)) (defScope (top 54)) [] [] (He.fAd K.k ("law", none)) fd_law := F_law0
  have h_law : mg "law" = some (.ref (He.fAd K.k ("law", none))) := He.glo_ok X G (c.fact 42 (f := .glo "law") rfl)
  have e := hfa.symm.trans h_law
  cases e
  have b := FunD.bindsA (ps := ["script"]) F_law fun _ _ _ _ _ _ us hl => match us, hl with | [_], _ => rfl
  refine ⟨fd_law, fun s v => b s [v] rfl, fun base => ?_⟩
  have ok_is_whole : FnOk K.p K.w K.k mg base CX0 1 _ fd_is_whole ["value"] (spF K m_is_whole) := (o_is_whole (base := base) B  F_is_whole)
  have g_is_whole_0 : Gd K mg base 1 "is_whole" m_is_whole [] := Gd.of (pureF_fnS) h_is_whole F_is_whole ok_is_whole fun _ _ _ _ _ _ us hl => match us, hl with | [_], _ => rfl
  have ok_is_count : FnOk K.p K.w K.k mg base CX0 2 _ fd_is_count ["value", "least"] (spF K m_is_count) := (o_is_count (base := base) B g_is_whole_0 F_is_count)
  have g_is_count_0 : Gd K mg base 2 "is_count" m_is_count [] := Gd.of1 2 1 (pureF_fnS) h_is_count F_is_count ok_is_count (by simp) rfl (fun _ => by repeat (first | exact .nil | refine .cons (by constructor) ?_)) fun _ _ _ _ _ _ _ us its h1 h2 => match us, its, h1, h2 with | [_, _], [_], _, _ => ⟨_, rfl, rfl⟩
  have g_is_count_1 : Gd K mg base 2 "is_count" m_is_count [.int 0] := Gd.of1 1 0 (pureF_fnS) h_is_count F_is_count ok_is_count (by simp) rfl (fun _ => by repeat (first | exact .nil | refine .cons (by constructor) ?_)) fun _ _ _ _ _ _ _ us its h1 h2 => match us, its, h1, h2 with | [_], [_], _, _ => ⟨_, rfl, rfl⟩
  have ok_is_text : FnOk K.p K.w K.k mg base CX0 1 _ fd_is_text ["value"] (spF K m_is_text) := (o_is_text (base := base) B  F_is_text)
  have g_is_text_0 : Gd K mg base 1 "is_text" m_is_text [] := Gd.of (pureF_fnS) h_is_text F_is_text ok_is_text fun _ _ _ _ _ _ us hl => match us, hl with | [_], _ => rfl
  have ok_is_line : FnOk K.p K.w K.k mg base CX0 2 _ fd_is_line ["value"] (spF K m_is_line) := (o_is_line (base := base) B g_is_text_0 F_is_line)
  have g_is_line_0 : Gd K mg base 2 "is_line" m_is_line [] := Gd.of (pureF_fnS) h_is_line F_is_line ok_is_line fun _ _ _ _ _ _ us hl => match us, hl with | [_], _ => rfl
  have ok_is_tuple_of : FnOk K.p K.w K.k mg base CX0 1 _ fd_is_tuple_of ["value", "size"] (spF K m_is_tuple_of) := (o_is_tuple_of (base := base) B  F_is_tuple_of)
  have g_is_tuple_of_0 : Gd K mg base 1 "is_tuple_of" m_is_tuple_of [] := Gd.of (pureF_fnS) h_is_tuple_of F_is_tuple_of ok_is_tuple_of fun _ _ _ _ _ _ us hl => match us, hl with | [_, _], _ => rfl
  have ok_check_count : FnOk K.p K.w K.k mg base CX0 3 _ fd_check_count ["value", "least", "below"] (spF K m_check_count) := (o_check_count (base := base) B g_is_count_0 F_check_count)
  have g_check_count_2 : Gd K mg base 3 "check_count" m_check_count [.int 0, .none] := Gd.of1 1 0 (pureF_fnS) h_check_count F_check_count ok_check_count (by simp) rfl (fun _ => by repeat (first | exact .nil | refine .cons (by constructor) ?_)) fun _ _ _ _ _ _ _ us its h1 h2 => match us, its, h1, h2 with | [_], [_, _], _, _ => ⟨_, rfl, rfl⟩
  have ok_is_lines : FnOk K.p K.w K.k mg base CX0 3 _ fd_is_lines ["value"] (spF K m_is_lines) := (o_is_lines (base := base) B g_is_line_0 F_is_lines)
  have g_is_lines_0 : Gd K mg base 3 "is_lines" m_is_lines [] := Gd.of (pureF_fnS) h_is_lines F_is_lines ok_is_lines fun _ _ _ _ _ _ us hl => match us, hl with | [_], _ => rfl
  have ok_check_lines : FnOk K.p K.w K.k mg base CX0 4 _ fd_check_lines ["value"] (spF K m_check_lines) := (o_check_lines (base := base) B g_is_lines_0 F_check_lines)
  have g_check_lines_0 : Gd K mg base 4 "check_lines" m_check_lines [] := Gd.of (pureF_fnS) h_check_lines F_check_lines ok_check_lines fun _ _ _ _ _ _ us hl => match us, hl with | [_], _ => rfl
  have ok_most_behind : FnOk K.p K.w K.k mg base CX0 1 _ fd_most_behind ["one", "other"] (spF K m_most_behind) := (o_most_behind (base := base) B  F_most_behind)
  have g_most_behind_0 : Gd K mg base 1 "most_behind" m_most_behind [] := Gd.of (pureF_fnS) h_most_behind F_most_behind ok_most_behind fun _ _ _ _ _ _ us hl => match us, hl with | [_, _], _ => rfl
  have ok_longest_row : FnOk K.p K.w K.k mg base CX0 2 _ fd_longest_row ["one", "other"] (spF K m_longest_row) := (o_longest_row (base := base) B g_most_behind_0 F_longest_row)
  have g_longest_row_0 : Gd K mg base 2 "longest_row" m_longest_row [] := Gd.of (pureF_fnS) h_longest_row F_longest_row ok_longest_row fun _ _ _ _ _ _ us hl => match us, hl with | [_, _], _ => rfl
  have ok_common_row : FnOk K.p K.w K.k mg base CX0 5 _ fd_common_row ["one", "other"] (spF K m_common_row) := (o_common_row (base := base) B g_check_lines_0 g_longest_row_0 F_common_row)
  have g_common_row_0 : Gd K mg base 5 "common_row" m_common_row [] := Gd.of (pureF_fnS) h_common_row F_common_row ok_common_row fun _ _ _ _ _ _ us hl => match us, hl with | [_, _], _ => rfl
  have ok_is_thread : FnOk K.p K.w K.k mg base CX0 3 _ fd_is_thread ["value"] (spF K m_is_thread) := (o_is_thread (base := base) B g_is_count_0 g_is_count_1 g_is_line_0 g_is_tuple_of_0 F_is_thread)
  have g_is_thread_0 : Gd K mg base 3 "is_thread" m_is_thread [] := Gd.of (pureF_fnS) h_is_thread F_is_thread ok_is_thread fun _ _ _ _ _ _ us hl => match us, hl with | [_], _ => rfl
  have ok_is_weave : FnOk K.p K.w K.k mg base CX0 4 _ fd_is_weave ["value"] (spF K m_is_weave) := (o_is_weave (base := base) B g_is_thread_0 F_is_weave)
  have g_is_weave_0 : Gd K mg base 4 "is_weave" m_is_weave [] := Gd.of (pureF_fnS) h_is_weave F_is_weave ok_is_weave fun _ _ _ _ _ _ us hl => match us, hl with | [_], _ => rfl
  have ok_check_weave : FnOk K.p K.w K.k mg base CX0 5 _ fd_check_weave ["weave"] (spF K m_check_weave) := (o_check_weave (base := base) B g_is_weave_0 F_check_weave)
  have g_check_weave_0 : Gd K mg base 5 "check_weave" m_check_weave [] := Gd.of (pureF_fnS) h_check_weave F_check_weave ok_check_weave fun _ _ _ _ _ _ us hl => match us, hl with | [_], _ => rfl
  have ok_check_numbers : FnOk K.p K.w K.k mg base CX0 3 _ fd_check_numbers ["numbers"] (spF K m_check_numbers) := (o_check_numbers (base := base) B g_is_count_0 F_check_numbers)
  have g_check_numbers_0 : Gd K mg base 3 "check_numbers" m_check_numbers [] := Gd.of (pureF_fnS) h_check_numbers F_check_numbers ok_check_numbers fun _ _ _ _ _ _ us hl => match us, hl with | [_], _ => rfl
  have ok_stands_at : FnOk K.p K.w K.k mg base CX0 1 _ fd_stands_at ["thread", "k"] (spF K m_stands_at) := (o_stands_at (base := base) B  F_stands_at)
  have g_stands_at_0 : Gd K mg base 1 "stands_at" m_stands_at [] := Gd.of (pureF_fnS) h_stands_at F_stands_at ok_stands_at fun _ _ _ _ _ _ us hl => match us, hl with | [_, _], _ => rfl
  have ok_greatest_number : FnOk K.p K.w K.k mg base CX0 1 _ fd_greatest_number ["weave"] (spF K m_greatest_number) := (o_greatest_number (base := base) B  F_greatest_number)
  have g_greatest_number_0 : Gd K mg base 1 "greatest_number" m_greatest_number [] := Gd.of (pureF_fnS) h_greatest_number F_greatest_number ok_greatest_number fun _ _ _ _ _ _ us hl => match us, hl with | [_], _ => rfl
  have ok_lines_at : FnOk K.p K.w K.k mg base CX0 6 _ fd_lines_at ["weave", "k"] (spF K m_lines_at) := (o_lines_at (base := base) B g_check_count_2 g_check_weave_0 g_stands_at_0 F_lines_at)
  have g_lines_at_0 : Gd K mg base 6 "lines_at" m_lines_at [] := Gd.of (pureF_fnS) h_lines_at F_lines_at ok_lines_at fun _ _ _ _ _ _ us hl => match us, hl with | [_, _], _ => rfl
  have gk_lines_at_k_weave : Gk K mg base 6 "lines_at" m_lines_at ["k", "weave"] (permL [1, 0]) := Gk.of (permL [1, 0]) (permL_rel [1, 0]) (pureF_fnS) h_lines_at F_lines_at ok_lines_at fun _ _ _ _ _ _ us hl => match us, hl with | [_, _], _ => rfl
  have ok_last_change : FnOk K.p K.w K.k mg base CX0 6 _ fd_last_change ["weave"] (spF K m_last_change) := (o_last_change (base := base) B g_check_weave_0 g_greatest_number_0 F_last_change)
  have g_last_change_0 : Gd K mg base 6 "last_change" m_last_change [] := Gd.of (pureF_fnS) h_last_change F_last_change ok_last_change fun _ _ _ _ _ _ us hl => match us, hl with | [_], _ => rfl
  have ok_woven_on : FnOk K.p K.w K.k mg base CX0 6 _ fd_woven_on ["weave", "newer", "k"] (spF K m_woven_on) := (o_woven_on (base := base) B g_common_row_0 g_stands_at_0 F_woven_on)
  have g_woven_on_0 : Gd K mg base 6 "woven_on" m_woven_on [] := Gd.of (pureF_fnS) h_woven_on F_woven_on ok_woven_on fun _ _ _ _ _ _ us hl => match us, hl with | [_, _, _], _ => rfl
  have ok_is_list_of_lines : FnOk K.p K.w K.k mg base CX0 3 _ fd_is_list_of_lines ["value"] (spF K m_is_list_of_lines) := (o_is_list_of_lines (base := base) B g_is_line_0 F_is_list_of_lines)
  have g_is_list_of_lines_0 : Gd K mg base 3 "is_list_of_lines" m_is_list_of_lines [] := Gd.of (pureF_fnS) h_is_list_of_lines F_is_list_of_lines ok_is_list_of_lines fun _ _ _ _ _ _ us hl => match us, hl with | [_], _ => rfl
  have ok_woven_lines : FnOk K.p K.w K.k mg base CX0 7 _ fd_woven_lines ["lists"] (spF K m_woven_lines) := (o_woven_lines (base := base) B g_is_list_of_lines_0 g_woven_on_0 F_woven_lines)
  have g_woven_lines_0 : Gd K mg base 7 "woven_lines" m_woven_lines [] := Gd.of (pureF_fnS) h_woven_lines F_woven_lines ok_woven_lines fun _ _ _ _ _ _ us hl => match us, hl with | [_], _ => rfl
  have ok_all_left_out : FnOk K.p K.w K.k mg base CX0 1 _ fd_all_left_out ["weave", "numbers"] (spF K m_all_left_out) := (o_all_left_out (base := base) B  F_all_left_out)
  have g_all_left_out_0 : Gd K mg base 1 "all_left_out" m_all_left_out [] := Gd.of (pureF_fnS) h_all_left_out F_all_left_out ok_all_left_out fun _ _ _ _ _ _ us hl => match us, hl with | [_, _], _ => rfl
  have ok_left_out : FnOk K.p K.w K.k mg base CX0 6 _ fd_left_out ["weave", "numbers"] (spF K m_left_out) := (o_left_out (base := base) B g_all_left_out_0 g_check_numbers_0 g_check_weave_0 F_left_out)
  have g_left_out_0 : Gd K mg base 6 "left_out" m_left_out [] := Gd.of (pureF_fnS) h_left_out F_left_out ok_left_out fun _ _ _ _ _ _ us hl => match us, hl with | [_, _], _ => rfl
  have gk_left_out_numbers_weave : Gk K mg base 6 "left_out" m_left_out ["numbers", "weave"] (permL [1, 0]) := Gk.of (permL [1, 0]) (permL_rel [1, 0]) (pureF_fnS) h_left_out F_left_out ok_left_out fun _ _ _ _ _ _ us hl => match us, hl with | [_, _], _ => rfl
  have ok_lines_by : FnOk K.p K.w K.k mg base CX0 6 _ fd_lines_by ["weave", "numbers"] (spF K m_lines_by) := (o_lines_by (base := base) B g_all_left_out_0 g_check_numbers_0 g_check_weave_0 g_greatest_number_0 F_lines_by)
  have g_lines_by_0 : Gd K mg base 6 "lines_by" m_lines_by [] := Gd.of (pureF_fnS) h_lines_by F_lines_by ok_lines_by fun _ _ _ _ _ _ us hl => match us, hl with | [_, _], _ => rfl
  have gk_lines_by_numbers_weave : Gk K mg base 6 "lines_by" m_lines_by ["numbers", "weave"] (permL [1, 0]) := Gk.of (permL [1, 0]) (permL_rel [1, 0]) (pureF_fnS) h_lines_by F_lines_by ok_lines_by fun _ _ _ _ _ _ us hl => match us, hl with | [_, _], _ => rfl
  have ok__law_purse : FnOk K.p K.w K.k mg base CX0 1 _ fd__law_purse ["script", "at"] (spF K m__law_purse) := (o__law_purse (base := base) B  F__law_purse)
  have g__law_purse_0 : Gd K mg base 1 "_law_purse" m__law_purse [] := Gd.of (pureF_fnS) h__law_purse F__law_purse ok__law_purse fun _ _ _ _ _ _ us hl => match us, hl with | [_, _], _ => rfl
  have ok__law_mixed : FnOk K.p K.w K.k mg base CX0 1 _ fd__law_mixed ["seed", "spin", "at"] (spF K m__law_mixed) := (o__law_mixed (base := base) B  F__law_mixed)
  have g__law_mixed_0 : Gd K mg base 1 "_law_mixed" m__law_mixed [] := Gd.of (pureF_fnS) h__law_mixed F__law_mixed ok__law_mixed fun _ _ _ _ _ _ us hl => match us, hl with | [_, _, _], _ => rfl
  have ok__law_draw : FnOk K.p K.w K.k mg base CX0 2 _ fd__law_draw ["purse", "many"] (spF K m__law_draw) := (o__law_draw (base := base) B g__law_mixed_0 F__law_draw)
  have g__law_draw_0 : Gd K mg base 2 "_law_draw" m__law_draw [] := Gd.of (pureF_fnS) h__law_draw F__law_draw ok__law_draw fun _ _ _ _ _ _ us hl => match us, hl with | [_, _], _ => rfl
  have ok__law_one_of : FnOk K.p K.w K.k mg base CX0 3 _ fd__law_one_of ["purse", "some"] (spF K m__law_one_of) := (o__law_one_of (base := base) B g__law_draw_0 F__law_one_of)
  have g__law_one_of_0 : Gd K mg base 3 "_law_one_of" m__law_one_of [] := Gd.of (pureF_fnS) h__law_one_of F__law_one_of ok__law_one_of fun _ _ _ _ _ _ us hl => match us, hl with | [_, _], _ => rfl
  have ok__law_shuffled : FnOk K.p K.w K.k mg base CX0 3 _ fd__law_shuffled ["purse", "some"] (spF K m__law_shuffled) := (o__law_shuffled (base := base) B g__law_draw_0 F__law_shuffled)
  have g__law_shuffled_0 : Gd K mg base 3 "_law_shuffled" m__law_shuffled [] := Gd.of (pureF_fnS) h__law_shuffled F__law_shuffled ok__law_shuffled fun _ _ _ _ _ _ us hl => match us, hl with | [_, _], _ => rfl
  have ok__law_plain : FnOk K.p K.w K.k mg base CX0 13 _ fd__law_plain ["thing"] (spF K (m__law_plain 12)) := (o__law_plain (base := base) B  F__law_plain h__law_plain 12)
  have g__law_plain_0 : Gd K mg base 13 "_law_plain" (m__law_plain 12) [] := Gd.of (pm__law_plain 12) h__law_plain F__law_plain ok__law_plain fun _ _ _ _ _ _ us hl => match us, hl with | [_], _ => rfl
  have ok__law_same : FnOk K.p K.w K.k mg base CX0 13 _ fd__law_same ["told", "due"] (spF K (m__law_same 12)) := (o__law_same (base := base) B  F__law_same h__law_same 12)
  have g__law_same_0 : Gd K mg base 13 "_law_same" (m__law_same 12) [] := Gd.of (pm__law_same 12) h__law_same F__law_same ok__law_same fun _ _ _ _ _ _ us hl => match us, hl with | [_, _], _ => rfl
  have ok__law_line : FnOk K.p K.w K.k mg base CX0 4 _ fd__law_line ["purse", "few"] (spF K m__law_line) := (o__law_line (base := base) B g__law_draw_0 g__law_one_of_0 F__law_line)
  have g__law_line_0 : Gd K mg base 4 "_law_line" m__law_line [] := Gd.of (pureF_fnS) h__law_line F__law_line ok__law_line fun _ _ _ _ _ _ us hl => match us, hl with | [_, _], _ => rfl
  have ok__law_turned : FnOk K.p K.w K.k mg base CX0 5 _ fd__law_turned ["purse", "lines", "few"] (spF K m__law_turned) := (o__law_turned (base := base) B g__law_draw_0 g__law_line_0 F__law_turned)
  have g__law_turned_0 : Gd K mg base 5 "_law_turned" m__law_turned [] := Gd.of (pureF_fnS) h__law_turned F__law_turned ok__law_turned fun _ _ _ _ _ _ us hl => match us, hl with | [_, _, _], _ => rfl
  have ok__law_lists : FnOk K.p K.w K.k mg base CX0 6 _ fd__law_lists ["purse", "many", "few"] (spF K m__law_lists) := (o__law_lists (base := base) B g__law_draw_0 g__law_line_0 g__law_one_of_0 g__law_turned_0 F__law_lists)
  have g__law_lists_0 : Gd K mg base 6 "_law_lists" m__law_lists [] := Gd.of (pureF_fnS) h__law_lists F__law_lists ok__law_lists fun _ _ _ _ _ _ us hl => match us, hl with | [_, _, _], _ => rfl
  have ok__law_at : FnOk K.p K.w K.k mg base CX0 1 _ fd__law_at ["weave", "k"] (spF K m__law_at) := (o__law_at (base := base) B  F__law_at)
  have g__law_at_0 : Gd K mg base 1 "_law_at" m__law_at [] := Gd.of (pureF_fnS) h__law_at F__law_at ok__law_at fun _ _ _ _ _ _ us hl => match us, hl with | [_, _], _ => rfl
  have ok__law_last : FnOk K.p K.w K.k mg base CX0 1 _ fd__law_last ["weave"] (spF K m__law_last) := (o__law_last (base := base) B  F__law_last)
  have g__law_last_0 : Gd K mg base 1 "_law_last" m__law_last [] := Gd.of (pureF_fnS) h__law_last F__law_last ok__law_last fun _ _ _ _ _ _ us hl => match us, hl with | [_], _ => rfl
  have ok__law_weave : FnOk K.p K.w K.k mg base CX0 5 _ fd__law_weave ["purse", "many", "changes", "few"] (spF K m__law_weave) := (o__law_weave (base := base) B g__law_draw_0 g__law_line_0 F__law_weave)
  have g__law_weave_0 : Gd K mg base 5 "_law_weave" m__law_weave [] := Gd.of (pureF_fnS) h__law_weave F__law_weave ok__law_weave fun _ _ _ _ _ _ us hl => match us, hl with | [_, _, _, _], _ => rfl
  have ok__law_without : FnOk K.p K.w K.k mg base CX0 1 _ fd__law_without ["weave", "numbers"] (spF K m__law_without) := (o__law_without (base := base) B  F__law_without)
  have g__law_without_0 : Gd K mg base 1 "_law_without" m__law_without [] := Gd.of (pureF_fnS) h__law_without F__law_without ok__law_without fun _ _ _ _ _ _ us hl => match us, hl with | [_, _], _ => rfl
  have ok__law_numbers : FnOk K.p K.w K.k mg base CX0 4 _ fd__law_numbers ["purse", "last"] (spF K m__law_numbers) := (o__law_numbers (base := base) B g__law_draw_0 g__law_shuffled_0 F__law_numbers)
  have g__law_numbers_0 : Gd K mg base 4 "_law_numbers" m__law_numbers [] := Gd.of (pureF_fnS) h__law_numbers F__law_numbers ok__law_numbers fun _ _ _ _ _ _ us hl => match us, hl with | [_, _], _ => rfl
  have ok__law_joined : FnOk K.p K.w K.k mg base CX0 1 _ fd__law_joined ["one", "other"] (spF K m__law_joined) := (o__law_joined (base := base) B  F__law_joined)
  have g__law_joined_0 : Gd K mg base 1 "_law_joined" m__law_joined [] := Gd.of (pureF_fnS) h__law_joined F__law_joined ok__law_joined fun _ _ _ _ _ _ us hl => match us, hl with | [_, _], _ => rfl
  have ok__law_right : FnOk K.p K.w K.k mg base CX0 14 _ fd__law_right ["purse", "weave"] (spF K m__law_right) := (o__law_right (base := base) B g__law_at_0 g__law_joined_0 g__law_last_0 g__law_numbers_0 g__law_plain_0 g__law_same_0 g__law_without_0 g_last_change_0 g_left_out_0 g_lines_at_0 g_lines_by_0 gk_left_out_numbers_weave gk_lines_at_k_weave gk_lines_by_numbers_weave F__law_right)
  have g__law_right_0 : Gd K mg base 14 "_law_right" m__law_right [] := Gd.of (pureF_fnS) h__law_right F__law_right ok__law_right fun _ _ _ _ _ _ us hl => match us, hl with | [_, _], _ => rfl
  have ok_law : FnOk K.p K.w K.k mg base CX0 15 _ fd_law ["script"] (spF K m_law) := (o_law (base := base) B g__law_draw_0 g__law_lists_0 g__law_one_of_0 g__law_purse_0 g__law_right_0 g__law_weave_0 g_last_change_0 g_left_out_0 g_lines_at_0 g_lines_by_0 g_woven_lines_0 F_law)
  exact ok_law
/-- the law's promise to the row -/
def spLaw (K : PySem.W.Frag) : Sp := fun vs H Q _ => ∃ (a : Addr) (ns : List Int), vs = [.ref a] ∧ SqL K H a (ns.map V.int) ∧ ns.length ≤ 63 ∧ ∀ H', Q (.bl true) H'
theorem law_facts (hlaw : ∀ ns : List Int, ns.length ≤ 63 → m_law [.b (.list (ns.map .int))] = some (.v (.bool true), [])) {P : Program} {w : World} {K : PySem.W.Frag} {h : Heap} {mg : Str → Option Value} {f : Addr} (X : K.In h) (G : h.Ns mainGlobals mg) (hfa : mg ("law" : Str) = some (.ref f)) (c : He.SaysD fa fn K) :
    ∃ fd : FuncData, (∀ (s : Shared) (v : Value), BindsTo s fd ⟨[v], []⟩ [("script", v)]) ∧ ∀ base : Heap, K.In base → base.Ns mainGlobals mg → FnOk P w K mg base CX0 15 f fd ["script"] (spLaw K) := by
  obtain ⟨fd, h1, h2⟩ := all (K := ⟨P, w, K⟩) X G hfa c
  refine ⟨fd, h1, fun base X2 G2 => (h2 base).imp fun vs H Q E z => ?_⟩
  obtain ⟨a, ns, rfl, hS, hl, q⟩ := z
  exact law_sp (hlaw ns hl) hS q
end HdK

set_option Elab.async false
set_option linter.all false
set_option maxRecDepth 100000
set_option maxHeartbeats 4000000
namespace HdK
open PySem PySem.Spec PyProof.Rows L2 Vi
/-- a purse, at most n draws ago new -/
def Pu (n : Int) (C : Cell) : Prop := ∃ a b c d : Int, C = .lst [.t (.int a), .t (.int b), .t (.int c), .t (.int d)] ∧ 0 ≤ a ∧ 0 ≤ b ∧ b < 2147483648 ∧ 0 ≤ c ∧ c ≤ n ∧ 0 ≤ d ∧ d ≤ 1
theorem Pu.mono {n m : Int} {C : Cell} (h : Pu n C) (l : n ≤ m) : Pu m C := by
  obtain ⟨a, b, c, d, h1, h2, h3, h4, h5, h6, h7⟩ := h
  exact ⟨a, b, c, d, h1, h2, h3, h4, h5, by omega, h7⟩
theorem Pu.pure {n : Int} {C : Cell} (h : Pu n C) : Pure C = true := by
  obtain ⟨a, b, c, d, rfl, _⟩ := h
  rfl
theorem md1 (x : Int) : -18446744073709551616 < x % 2147483647 ∧ x % 2147483647 < 18446744073709551616 := by omega
theorem md2 (x : Int) : -18446744073709551616 < x % 2147483629 ∧ x % 2147483629 < 18446744073709551616 := by omega
theorem mixed_ok {seed spin at_ : Int} (h1 : 0 ≤ spin) (h2 : spin < 1152921504606846976) : ∃ r : Int, m__law_mixed [.b (.int seed), .b (.int spin), .b (.int at_)] = some (.v (.int r), []) ∧ 0 ≤ r := by
  have h3 : -18446744073709551616 < spin := by omega
  have h4 : spin < 18446744073709551616 := by omega
  unfold m__law_mixed b__law_mixed A_b__law_mixed
  simp [gMul_r, gMul_l, h3, h4, md1, md2]
  exact Int.emod_nonneg _ (by decide)
theorem rg1 : rangeL 0 1 1 = [.int 0] := rfl
theorem draw_lp {M : FnS} {b c d many r : Int} (hr : M [.b (.int b), .b (.int (c + 1)), .b (.int d)] = some (.v (.int r), [])) : lpFor (gtName 3) (A_lb__law_draw_1 M) [.t (.int 0)] [some (.lab 0), some (.t (.int many)), some (.t (.int 0)), none, none] [some (.lst [.t (.int 0), .t (.int b), .t (.int c), .t (.int d)])] = some (.nx [some (.lab 0), some (.t (.int many)), some (.t (.int r)), some (.t (.int 0)), none] [some (.lst [.t (.int 0), .t (.int b), .t (.int (c + 1)), .t (.int d)])]) := by
  unfold A_lb__law_draw_1
  simp [lpFor, hr, gMul_l, atI, ixN]
theorem draw_it {mu : Mu} {many : Int} {env : En} (hz : (Builtin.Int.intBits many : Int) / 28 = 0) (h : env[1]? = some (some (.t (.int many)))) : (iRng1 (aCons (eOp gAdd (eC (.int 1)) (eOp gDiv (eBits (eVar 1)) (eC (.int 28)))) aNil)) env mu = some ([.t (.int 0)], mu) := by
  simp [h, hz, gR1_ok, rg1]
theorem draw_for {L : Sx} {b c d many : Int} {r : Option Fl} (hz : (Builtin.Int.intBits many : Int) / 28 = 0) (hr : lpFor (gtName 3) L [.t (.int 0)] [some (.lab 0), some (.t (.int many)), some (.t (.int 0)), none, none] [some (.lst [.t (.int 0), .t (.int b), .t (.int c), .t (.int d)])] = r) : A_l__law_draw_1 L [some (.lab 0), some (.t (.int many)), some (.t (.int 0)), none, none] [some (.lst [.t (.int 0), .t (.int b), .t (.int c), .t (.int d)])] = r := by
  exact sFor_eq (draw_it hz rfl) hr
theorem draw_z {L : Sx} {b c d many r : Int} (q1 : 0 < many) (hL : L [some (.lab 0), some (.t (.int many)), some (.t (.int 0)), none, none] [some (.lst [.t (.int 0), .t (.int b), .t (.int c), .t (.int d)])] = some (.nx [some (.lab 0), some (.t (.int many)), some (.t (.int r)), some (.t (.int 0)), none] [some (.lst [.t (.int 0), .t (.int b), .t (.int (c + 1)), .t (.int d)])])) : fnS 2 5 (A_b__law_draw L) [.m (.lst [.t (.int 0), .t (.int b), .t (.int c), .t (.int d)]), .b (.int many)] = some (.v (.int (r % many)), [.lst [.t (.int 0), .t (.int b), .t (.int (c + 1)), .t (.int d)]]) := by
  unfold A_b__law_draw
  simp [q1, atI, ixN, hL]
theorem draw_p {L : Sx} {a b c d many : Int} (z : 0 < a) (q1 : 0 < many) (q2 : many < 1073741824) : fnS 2 5 (A_b__law_draw L) [.m (.lst [.t (.int a), .t (.int b), .t (.int c), .t (.int d)]), .b (.int many)] = some (.v (.int (a % many)), [.lst [.t (.int (a / many)), .t (.int b), .t (.int c), .t (.int d)]]) := by
  unfold A_b__law_draw
  simp [z, q1, q2, atI, ixN]
theorem draw_ok {n : Int} {C : Cell} {many : Int} (h : Pu n C) (hn : n < 1000000) (h1 : 1 ≤ many) (h2 : many < 134217728) : ∃ (r : Int) (C' : Cell), m__law_draw [.m C, .b (.int many)] = some (.v (.int r), [C']) ∧ 0 ≤ r ∧ r < many ∧ Pu (n + 1) C' := by
  obtain ⟨a, b, c, d, rfl, ha, hb, hb', hc, hc', hd, hd'⟩ := h
  have q1 : 0 < many := by omega
  have q2 : many < 1073741824 := by omega
  have r1 : 0 ≤ a % many := Int.emod_nonneg _ (by omega)
  have r2 : a % many < many := Int.emod_lt_of_pos _ q1
  by_cases z : 0 < a
  · have q3 : 0 ≤ a / many := Int.ediv_nonneg ha (by omega)
    refine ⟨a % many, .lst [.t (.int (a / many)), .t (.int b), .t (.int c), .t (.int d)], ?_, r1, r2, _, b, c, d, rfl, q3, hb, hb', hc, by omega, hd, hd'⟩
    exact draw_p z q1 q2
  · have e : a = 0 := by omega
    subst e
    have hbits : Builtin.Int.intBits many ≤ 27 := PySem.intBits_le_iff.mpr (by omega)
    have hz : (Builtin.Int.intBits many : Int) / 28 = 0 := by omega
    obtain ⟨r, hr, hr0⟩ := mixed_ok (seed := b) (spin := c + 1) (at_ := d) (by omega) (by omega)
    refine ⟨r % many, .lst [.t (.int 0), .t (.int b), .t (.int (c + 1)), .t (.int d)], ?_, Int.emod_nonneg _ (by omega), Int.emod_lt_of_pos _ q1, 0, b, c + 1, d, rfl, by omega, hb, hb', by omega, by omega, hd, hd'⟩
    exact draw_z q1 (draw_for hz (draw_lp hr))
/-! ### lines -/
def lset : List Str := ["a", "b", "c", "d", "", " ", "a b", "{{x}}", "=", "~", repS "long " 9, "spoilt"]
def IsLine (d : T) : Prop := ∃ s ∈ lset, d = .str s
def saysTrue : Option (Ret × List Cell) → Bool
  | some (.v (.bool true), []) => true
  | _ => false
theorem of_saysTrue {x : Option (Ret × List Cell)} (h : saysTrue x = true) : x = some (.v (.bool true), []) := by
  unfold saysTrue at h
  split at h
  · rfl
  · cases h
theorem lset_ok : (lset.all fun s => saysTrue (m_is_line [.b (.str s)])) = true := by decide +kernel
theorem is_line_ok {d : T} (h : IsLine d) : m_is_line [.b d] = some (.v (.bool true), []) := by
  obtain ⟨s, hs, rfl⟩ := h
  exact of_saysTrue (List.all_eq_true.mp lset_ok s hs)
theorem one_of_ok {n : Int} {C : Cell} {ds : List T} (h : Pu n C) (hn : n < 1000000) (h1 : ds ≠ []) (h2 : ds.length < 134217728) : ∃ (d : T) (C' : Cell), m__law_one_of [.m C, .b (.list ds)] = some (.v d, [C']) ∧ d ∈ ds ∧ Pu (n + 1) C' := by
  have hl : 0 < ds.length := List.length_pos_iff.mpr h1
  obtain ⟨r, C', e, r0, r1, hC⟩ := draw_ok (many := (ds.length : Int)) h hn (by omega) (by omega)
  obtain ⟨j, rfl⟩ := Int.eq_ofNat_of_zero_le r0
  have hj : j < ds.length := by omega
  refine ⟨ds[j], C', ?_, List.getElem_mem hj, hC⟩
  show fnS 2 2 (A_b__law_one_of m__law_draw) _ = _
  generalize m__law_draw = M at e
  unfold A_b__law_one_of
  simp [h.pure, hC.pure, e, atI, ixN, hj]
theorem line_ok {n : Int} {C : Cell} {few : List T} (h : Pu n C) (hn : n < 999990) (h1 : few ≠ []) (h2 : few.length < 1000) (h3 : ∀ d ∈ few, IsLine d) : ∃ (d : T) (C' : Cell), m__law_line [.m C, .b (.list few)] = some (.v d, [C']) ∧ IsLine d ∧ Pu (n + 2) C' := by
  obtain ⟨r, C1, e, r0, r1, hC1⟩ := draw_ok (many := 9) h (by omega) (by omega) (by omega)
  by_cases z : 0 < r
  · obtain ⟨d, C2, e2, hd, hC2⟩ := one_of_ok (ds := few) hC1 (by omega) h1 (by omega)
    refine ⟨d, C2, ?_, h3 d hd, hC2.mono (by omega)⟩
    show fnS 2 2 (A_b__law_line m__law_draw m__law_one_of) _ = _
    generalize m__law_draw = M at e
    generalize m__law_one_of = M2 at e2
    unfold A_b__law_line
    simp [h.pure, hC1.pure, hC2.pure, e, e2, z]
  · obtain ⟨d, C2, e2, hd, hC2⟩ := one_of_ok (ds := [.str "", .str " ", .str "a b", .str "{{x}}", .str "=", .str "~", .str (repS "long " 9)]) hC1 (by omega) (by simp) (by simp)
    refine ⟨d, C2, ?_, ?_, hC2.mono (by omega)⟩
    · have e3 : 0 < (Str.ofString "long ").length ∧ (Str.ofString "long ").length ≤ 1000 := by decide
      show fnS 2 2 (A_b__law_line m__law_draw m__law_one_of) _ = _
      generalize m__law_draw = M at e
      generalize m__law_one_of = M2 at e2
      unfold A_b__law_line
      simp [h.pure, hC1.pure, hC2.pure, e, e2, z, e3, textLine]
    · simp only [List.mem_cons, List.not_mem_nil, or_false] at hd
      rcases hd with h | h | h | h | h | h | h <;> subst h <;> exact ⟨_, by unfold lset; simp, rfl⟩
end HdK

set_option Elab.async false
set_option linter.all false
set_option maxRecDepth 100000
set_option maxHeartbeats 4000000
namespace HdK
open PySem PySem.Spec PyProof.Rows L2 Vi
theorem cutL_map {α β : Type} (f : α → β) (xs : List α) (lo hi : Option Int) : cutL (xs.map f) lo hi = (cutL xs lo hi).map f := by
  unfold cutL
  simp [List.map_take, List.map_drop]
theorem cutL_sub {α : Type} (xs : List α) (lo hi : Option Int) : (cutL xs lo hi).Sublist xs := (List.take_sublist _ _).trans (List.drop_sublist _ _)
theorem cutL_take {α : Type} (xs : List α) (k : Nat) : cutL xs none (some (k : Int)) = xs.take k := by
  unfold cutL
  rw [HT.sIx_none, HT.sIx_nat, List.drop_zero, Nat.sub_zero]
  by_cases h : k ≤ xs.length
  · rw [Nat.min_eq_left h]
  · rw [Nat.min_eq_right (by omega), List.take_length, List.take_of_length_le (by omega)]
/-! ### a new purse -/
theorem pw18 {mu : Mu} : gPow (.t (.int 10)) (.t (.int 18)) mu = some (.t (.int 1000000000000000000), mu) := rfl
theorem pw60 {mu : Mu} : gPow (.t (.int 10)) (.t (.int 60)) mu = some (.t (.int (10 ^ 60)), mu) := by
  unfold gPow gI
  rfl
theorem pw8 {mu : Mu} : gPowW (.t (.int (10 ^ 60))) (.t (.int 8)) mu = some (.t (.int ((10 ^ 60) ^ 8)), mu) := by
  have h : Builtin.Int.intBits (10 ^ 60) ≤ 200 := PySem.intBits_le_iff.mpr (by decide)
  have : decide (0 ≤ (8 : Int) ∧ (Builtin.Int.intBits (10 ^ 60) : Int) * 8 ≤ 2 ^ 27) = true := decide_eq_true ⟨by decide, by omega⟩
  unfold gPowW gI
  dsimp only
  rw [if_pos this]
  rfl
theorem purse_ok (ns : List Int) (at_ : Int) (h0 : 0 ≤ at_) (h1 : at_ ≤ 1) : ∃ C, m__law_purse [.b (.list (ns.map .int)), .f (.int at_)] = some (.fr C, []) ∧ Pu 0 C := by
  have hp : (0 : Int) < (10 ^ 60) ^ 8 := by decide
  generalize hq : ((10 : Int) ^ 60) ^ 8 = P at hp
  have e : ∀ mu, gPowW (.t (.int (10 ^ 60))) (.t (.int 8)) mu = some (.t (.int P), mu) := fun mu => by rw [pw8, hq]
  generalize hr : (10 : Int) ^ 60 = R at e
  have e2 : ∀ mu, gPow (.t (.int 10)) (.t (.int 60)) mu = some (.t (.int R), mu) := fun mu => by rw [pw60, hr]
  refine ⟨.lst [.t (.int (max ((cutL ns (some at_) (some (at_ + 1))).sum - 1000000000000000000) 0 % P)), .t (.int ((cutL ns (some at_) (some (at_ + 1))).sum % 2147483629)), .t (.int 0), .t (.int at_)], ?_, _, _, _, _, rfl, Int.emod_nonneg _ (by omega), Int.emod_nonneg _ (by omega), by omega, by omega, by omega, h0, h1⟩
  show fnS 2 3 A_b__law_purse _ = _
  unfold A_b__law_purse
  simp [e, e2, pw18, cutL_map, hp, textLine]
/-! ### shuffled -/
theorem shuf_lb {M : FnS} {C C' : Cell} {ds found : List T} {d : T} {r : Nat} (hC : Pure C = true) (hC' : Pure C' = true) (hM : M [.m C, .b (.int (found.length + 1))] = some (.v (.int r), [C'])) (hl : found.length < 100000) (hr : r ≤ found.length) :
    A_lb__law_shuffled_1 M [some (.lab 0), some (.bor (.list ds)), some (.lab 1), some (.t d)] [some C, some (.lst (found.map .t))] = some (.nx [some (.lab 0), some (.bor (.list ds)), some (.lab 1), some (.t d)] [some C', some (.lst ((found.take r ++ d :: found.drop r).map .t))]) := by
  unfold A_lb__law_shuffled_1
  have h2 : (r : Int) ≤ 100000 := by omega
  simp [hC, hC', hM, textLine, hl, h2, List.map_take, List.map_drop]
theorem shuffled_ok {n : Int} {C : Cell} {ds : List T} (h : Pu n C) (hn : n + ds.length < 1000000) (hl : ds.length < 100000) : ∃ (l : List T) (C' : Cell), m__law_shuffled [.m C, .b (.list ds)] = some (.fr (.lst (l.map .t)), [C']) ∧ l.Perm ds ∧ Pu (n + ds.length) C' := by
  obtain ⟨env', mu', e, C', found, v3, rfl, rfl, hC', hp⟩ := sFor_inv (it := iLst (eVar 1)) (t := gtName 3) (body := lb__law_shuffled_1) (items := ds.map .t) (env := [some (.lab 0), some (.bor (.list ds)), some (.lab 1), none]) (mu := [some C, some (.lst [])]) (mu1 := [some C, some (.lst [])])
    (fun i env mu => ∃ (C' : Cell) (found : List T) (v3 : Option Val), env = [some (.lab 0), some (.bor (.list ds)), some (.lab 1), v3] ∧ mu = [some C', some (.lst (found.map .t))] ∧ Pu (n + i) C' ∧ found.Perm (ds.take i)) (by simp) ⟨C, [], none, rfl, rfl, by simpa using h, by simp⟩ (fun i v env mu hi hI => by
      obtain ⟨C1, found, v3, rfl, rfl, hC1, hp⟩ := hI
      rw [List.getElem?_map] at hi
      cases hd : ds[i]? with
      | none => rw [hd] at hi; cases hi
      | some d =>
        rw [hd] at hi
        cases hi
        have hi2 : i < ds.length := (List.getElem?_eq_some_iff.mp hd).1
        have fl : found.length = i := by
          rw [hp.length_eq, List.length_take]; omega
        obtain ⟨r, C2, eD, r0, r1, hC2⟩ := draw_ok (many := (found.length : Int) + 1) hC1 (by omega) (by omega) (by omega)
        obtain ⟨j, rfl⟩ := Int.eq_ofNat_of_zero_le r0
        refine ⟨[some (.lab 0), some (.bor (.list ds)), some (.lab 1), some (.t d)], _, _, rfl, shuf_lb hC1.pure hC2.pure eD (by omega) (by omega), C2, _, some (.t d), rfl, rfl, hC2.mono (by omega), ?_⟩
        have e1 : ds.take (i + 1) = ds.take i ++ [d] := by
          rw [List.take_add_one, hd]; rfl
        rw [e1]
        refine (List.perm_middle).trans ?_
        rw [List.take_append_drop]
        exact ((List.Perm.cons d hp).trans (List.perm_append_singleton d _).symm))
  have e : l__law_shuffled_1 [some (.lab 0), some (.bor (.list ds)), some (.lab 1), none] [some C, some (.lst [])] = _ := e
  rw [List.length_map] at hp hC'
  rw [List.take_length] at hp
  refine ⟨found, C', ?_, hp, hC'⟩
  show fnS 2 4 (A_b__law_shuffled l__law_shuffled_1) _ = _
  generalize l__law_shuffled_1 = L at e
  unfold A_b__law_shuffled
  have := hC'.pure
  simp [e, this, textLine]
end HdK

set_option Elab.async false
set_option linter.all false
set_option maxRecDepth 100000
set_option maxHeartbeats 4000000
namespace HdK
open PySem PySem.Spec PyProof.Rows L2 Vi
/-! ### numbers -/
def toI : T → Int
  | .int i => i
  | _ => 0
theorem ints_of_perm {l : List T} {rs : List Int} (h : l.Perm (rs.map .int)) : ∃ ks : List Int, l = ks.map .int ∧ ks.Perm rs := by
  refine ⟨l.map toI, ?_, ?_⟩
  · rw [List.map_map]
    have : ∀ x ∈ l, (PyData.int ∘ toI) x = x := fun x hx => by
      obtain ⟨i, _, rfl⟩ := List.mem_map.mp (h.mem_iff.mp hx)
      rfl
    exact (List.map_id' l).symm.trans (List.map_congr_left fun x hx => (this x hx).symm)
  · have := h.map toI
    rw [List.map_map] at this
    have e : (rs.map (toI ∘ PyData.int)) = rs := (List.map_congr_left fun x _ => rfl).trans (List.map_id' rs)
    rw [e] at this
    exact this
def rangeI (lo : Int) (n : Nat) : List Int := (List.range n).map fun (i : Nat) => lo + (i : Int)
theorem rangeL_eq (lo : Int) (n : Nat) : rangeL lo 1 n = (rangeI lo n).map .int := by
  unfold rangeL rangeI
  rw [List.map_map]
  exact List.map_congr_left fun i _ => by simp
theorem rangeI_nodup (lo : Int) (n : Nat) : (rangeI lo n).Nodup := by
  unfold rangeI
  rw [List.nodup_iff_pairwise_ne, List.pairwise_map]
  exact (List.nodup_iff_pairwise_ne.mp List.nodup_range).imp fun h e => h (by omega)
theorem rangeI_mem {lo : Int} {n : Nat} {x : Int} (h : x ∈ rangeI lo n) : lo ≤ x ∧ x < lo + n := by
  unfold rangeI at h
  obtain ⟨i, hi, rfl⟩ := List.mem_map.mp h
  have := List.mem_range.mp hi
  omega
theorem rangeI_length (lo : Int) (n : Nat) : (rangeI lo n).length = n := by simp [rangeI]
theorem numbers_ok {n : Int} {C : Cell} {last : Int} (h : Pu n C) (hn : n < 900000) (h0 : 0 ≤ last) (h1 : last ≤ 1000) : ∃ (ks : List Int) (C' : Cell), m__law_numbers [.m C, .b (.int last)] = some (.fr (.lst (ks.map (Val.t ∘ .int))), [C']) ∧ ks.Nodup ∧ (∀ k ∈ ks, 1 ≤ k) ∧ ks.length ≤ 1002 ∧ Pu (n + 1010) C' := by
  have hlen : (rangeI 1 (last + 2).toNat).length = (last + 2).toNat := rangeI_length _ _
  obtain ⟨l, C1, e1, p1, hC1⟩ := shuffled_ok (ds := (rangeI 1 (last + 2).toNat).map .int) h (by simp [hlen]; omega) (by simp [hlen]; omega)
  obtain ⟨ks, rfl, pk⟩ := ints_of_perm p1
  have nd : ks.Nodup := pk.nodup_iff.mpr (rangeI_nodup _ _)
  have ge : ∀ k ∈ ks, 1 ≤ k := fun k hk => (rangeI_mem (pk.mem_iff.mp hk)).1
  have hl : ks.length = (last + 2).toNat := pk.length_eq.trans hlen
  rw [List.length_map, hlen] at hC1
  obtain ⟨r, C2, e2, r0, r1, hC2⟩ := draw_ok (many := 3) hC1 (by omega) (by omega) (by omega)
  have q : last + 3 ≤ 16777216 := by omega
  have q0 : 0 ≤ last + 3 := by omega
  have q2 : (last + 3 - 1).toNat = (last + 2).toNat := by omega
  rw [List.map_map] at e1
  have hP0 := h.pure
  have hP1 := hC1.pure
  have hP2 := hC2.pure
  by_cases z : 0 < r
  · obtain ⟨r', C3, e3, r0', r1', hC3⟩ := draw_ok (many := (ks.length : Int) + 1) hC2 (by omega) (by omega) (by omega)
    have hP3 := hC3.pure
    refine ⟨cutL ks none (some r'), C3, ?_, (cutL_sub _ _ _).nodup nd, fun k hk => ge k ((cutL_sub _ _ _).mem hk), Nat.le_trans (cutL_sub _ _ _).length_le (by omega), hC3.mono (by omega)⟩
    show fnS 2 3 (A_b__law_numbers m__law_shuffled m__law_draw) _ = _
    generalize m__law_shuffled = S at e1
    generalize m__law_draw = D at e2 e3
    unfold A_b__law_numbers
    simp [q, q0, q2, rangeL_eq, e1, e2, e3, z, hP0, hP1, hP2, hP3, cutL_map]
  · obtain ⟨r', C3, e3, r0', r1', hC3⟩ := draw_ok (many := 3) hC2 (by omega) (by omega) (by omega)
    have hP3 := hC3.pure
    refine ⟨cutL ks none (some r'), C3, ?_, (cutL_sub _ _ _).nodup nd, fun k hk => ge k ((cutL_sub _ _ _).mem hk), Nat.le_trans (cutL_sub _ _ _).length_le (by omega), hC3.mono (by omega)⟩
    show fnS 2 3 (A_b__law_numbers m__law_shuffled m__law_draw) _ = _
    generalize m__law_shuffled = S at e1
    generalize m__law_draw = D at e2 e3
    unfold A_b__law_numbers
    simp [q, q0, q2, rangeL_eq, e1, e2, e3, z, hP0, hP1, hP2, hP3, cutL_map]
/-! ### threads -/
structure Th where
  s : Str
  put : Int
  gone : Option Int
def goT : Option Int → T
  | none => .none
  | some g => .int g
def thT (t : Th) : T := .tuple [.str t.s, .int t.put, goT t.gone]
structure ThOk (b : Int) (t : Th) : Prop where
  ln : IsLine (.str t.s)
  p0 : 0 ≤ t.put
  pb : t.put ≤ b
  g : ∀ g, t.gone = some g → t.put < g ∧ g ≤ b
theorem weave_lb {D N : FnS} {C0 C1 C2 C3 C4 : Cell} {many ch put g0 g1 : Int} {few found : List T} {s : Str} {v5 v6 v7 : Option Val}
    (h0 : Pure C0 = true) (h1 : Pure C1 = true) (h2 : Pure C2 = true) (h3 : Pure C3 = true) (h4 : Pure C4 = true) (hl : found.length < 100000)
    (d1 : D [.m C0, .b (.int (ch + 1))] = some (.v (.int put), [C1])) (d2 : put ≠ ch → D [.m C1, .b (.int 2)] = some (.v (.int g0), [C2]))
    (d3 : put ≠ ch → g0 ≠ 0 → D [.m C2, .b (.int (ch - put))] = some (.v (.int g1), [C3])) (ln : N [.m (if put = ch then C1 else if g0 = 0 then C2 else C3), .b (.list few)] = some (.v (.str s), [C4])) :
    A_lb__law_weave_1 D N [some (.lab 0), some (.t (.int many)), some (.t (.int ch)), some (.bor (.list few)), some (.lab 1), v5, v6, v7] [some C0, some (.lst (found.map .t))] =
      some (.nx [some (.lab 0), some (.t (.int many)), some (.t (.int ch)), some (.bor (.list few)), some (.lab 1), v5, some (.t (.int put)), some (.t (goT (if put = ch then none else if g0 = 0 then none else some (put + 1 + g1))))]
        [some C4, some (.lst ((found ++ [thT ⟨s, put, if put = ch then none else if g0 = 0 then none else some (put + 1 + g1)⟩]).map .t))]) := by
  unfold A_lb__law_weave_1
  by_cases z1 : put = ch
  · subst z1
    simp only [if_true] at ln
    simp [h0, h1, h4, d1, ln, textLine, hl, goT, thT]
  · have d2 := d2 z1
    by_cases z2 : g0 = 0
    · subst z2
      simp only [z1, if_false, if_true] at ln
      simp [h0, h1, h2, h4, d1, d2, ln, textLine, hl, goT, thT, z1]
    · have d3 := d3 z1 z2
      simp only [z1, z2, if_false] at ln
      simp [h0, h1, h2, h3, h4, d1, d2, d3, ln, textLine, hl, goT, thT, z1, z2]
theorem weave_step {n : Int} {many : Nat} {ch : Int} {few : List T} (hn : n + 10 * many < 900000) (hm : many ≤ 1000) (h1 : 1 ≤ ch) (h2 : ch ≤ 20) (f1 : few ≠ []) (f2 : few.length < 1000) (f3 : ∀ d ∈ few, IsLine d) (i : Nat) (v : Val) (env : En) (mu : Mu) (hi2 : i < many)
    (hI : ∃ (C' : Cell) (w : List Th) (v5 v6 v7 : Option Val), env = [some (.lab 0), some (.t (.int many)), some (.t (.int ch)), some (.bor (.list few)), some (.lab 1), v5, v6, v7] ∧ mu = [some C', some (.lst ((w.map thT).map .t))] ∧ Pu (n + 10 * i) C' ∧ (∀ t ∈ w, ThOk 20 t) ∧ w.length = i) :
    ∃ env1 env2 mu2, gtName 5 v env = some env1 ∧ lb__law_weave_1 env1 mu = some (.nx env2 mu2) ∧ ∃ (C' : Cell) (w : List Th) (v5 v6 v7 : Option Val), env2 = [some (.lab 0), some (.t (.int many)), some (.t (.int ch)), some (.bor (.list few)), some (.lab 1), v5, v6, v7] ∧ mu2 = [some C', some (.lst ((w.map thT).map .t))] ∧ Pu (n + 10 * (i + 1 : Nat)) C' ∧ (∀ t ∈ w, ThOk 20 t) ∧ w.length = i + 1 := by
  obtain ⟨C1, w, v5, v6, v7, rfl, rfl, hC1, hw, hl⟩ := hI
  obtain ⟨put, C2, e1, p0, p1, hC2⟩ := draw_ok (many := ch + 1) hC1 (by omega) (by omega) (by omega)
  by_cases z1 : put = ch
  · obtain ⟨d, C5, e4, ⟨s, hs, rfl⟩, hC5⟩ := line_ok hC2 (by omega) f1 f2 f3
    refine ⟨_, _, _, rfl, weave_lb (D := m__law_draw) (N := m__law_line) (C0 := C1) (C1 := C2) (C2 := C2) (C3 := C2) (C4 := C5) (g0 := 0) (g1 := 0) hC1.pure hC2.pure hC2.pure hC2.pure hC5.pure (by simp [hl]; omega) e1 (fun z => absurd z1 z) (fun z => absurd z1 z) (by rw [if_pos z1]; exact e4), C5, w ++ [⟨s, put, if put = ch then none else if (0 : Int) = 0 then none else some (put + 1 + 0)⟩], _, _, _, rfl, by simp, hC5.mono (by omega), ?_, by simp [hl]⟩
    intro t ht
    rcases List.mem_append.mp ht with ht | ht
    · exact hw t ht
    · cases List.mem_singleton.mp ht
      exact ⟨⟨s, hs, rfl⟩, p0, by show put ≤ 20; omega, fun g hg => by simp [z1] at hg⟩
  · obtain ⟨g0, C3, e2, g00, g01, hC3⟩ := draw_ok (many := 2) hC2 (by omega) (by omega) (by omega)
    by_cases z2 : g0 = 0
    · obtain ⟨d, C5, e4, ⟨s, hs, rfl⟩, hC5⟩ := line_ok hC3 (by omega) f1 f2 f3
      refine ⟨_, _, _, rfl, weave_lb (D := m__law_draw) (N := m__law_line) (C0 := C1) (C1 := C2) (C2 := C3) (C3 := C3) (C4 := C5) (g0 := g0) (g1 := 0) hC1.pure hC2.pure hC3.pure hC3.pure hC5.pure (by simp [hl]; omega) e1 (fun _ => e2) (fun _ z => absurd z2 z) (by rw [if_neg z1, if_pos z2]; exact e4), C5, w ++ [⟨s, put, if put = ch then none else if g0 = 0 then none else some (put + 1 + 0)⟩], _, _, _, rfl, by simp, hC5.mono (by omega), ?_, by simp [hl]⟩
      intro t ht
      rcases List.mem_append.mp ht with ht | ht
      · exact hw t ht
      · cases List.mem_singleton.mp ht
        exact ⟨⟨s, hs, rfl⟩, p0, by show put ≤ 20; omega, fun g hg => by simp [z1, z2] at hg⟩
    · obtain ⟨g1, C4, e3, g10, g11, hC4⟩ := draw_ok (many := ch - put) hC3 (by omega) (by omega) (by omega)
      obtain ⟨d, C5, e4, ⟨s, hs, rfl⟩, hC5⟩ := line_ok hC4 (by omega) f1 f2 f3
      refine ⟨_, _, _, rfl, weave_lb (D := m__law_draw) (N := m__law_line) (C0 := C1) (C1 := C2) (C2 := C3) (C3 := C4) (C4 := C5) (g0 := g0) (g1 := g1) hC1.pure hC2.pure hC3.pure hC4.pure hC5.pure (by simp [hl]; omega) e1 (fun _ => e2) (fun _ _ => e3) (by rw [if_neg z1, if_neg z2]; exact e4), C5, w ++ [⟨s, put, if put = ch then none else if g0 = 0 then none else some (put + 1 + g1)⟩], _, _, _, rfl, by simp, hC5.mono (by omega), ?_, by simp [hl]⟩
      intro t ht
      rcases List.mem_append.mp ht with ht | ht
      · exact hw t ht
      · cases List.mem_singleton.mp ht
        refine ⟨⟨s, hs, rfl⟩, p0, by show put ≤ 20; omega, fun g hg => ?_⟩
        simp [z1, z2] at hg
        show put < g ∧ g ≤ 20
        omega
theorem weave_it {n : Nat} {env : En} {mu : Mu} (hm : n ≤ 1000) (h : env[1]? = some (some (.t (.int n)))) : iRng1 (aCons (eVar 1) aNil) env mu = some ((rangeL 0 1 n).map .t, mu) := by
  have q : (n : Int) < 4611686018427387904 := by omega
  have q2 : -4611686018427387904 ≤ (n : Int) := by omega
  simp [h, gR1_ok, q, q2]
theorem weave_for {n : Int} {C : Cell} {many : Nat} {ch : Int} {few : List T} (h : Pu n C) (hn : n + 10 * many < 900000) (hm : many ≤ 1000) (h1 : 1 ≤ ch) (h2 : ch ≤ 20) (f1 : few ≠ []) (f2 : few.length < 1000) (f3 : ∀ d ∈ few, IsLine d) :
    ∃ (w : List Th) (C' : Cell) (v5 v6 v7 : Option Val), l__law_weave_1 [some (.lab 0), some (.t (.int many)), some (.t (.int ch)), some (.bor (.list few)), some (.lab 1), none, none, none] [some C, some (.lst [])] = some (.nx [some (.lab 0), some (.t (.int many)), some (.t (.int ch)), some (.bor (.list few)), some (.lab 1), v5, v6, v7] [some C', some (.lst ((w.map thT).map .t))]) ∧ (∀ t ∈ w, ThOk 20 t) ∧ w.length = many ∧ Pu (n + 10 * many) C' := by
  obtain ⟨env', mu', e, C', w, v5, v6, v7, rfl, rfl, hC', hw, hl⟩ := sFor_inv (it := iRng1 (aCons (eVar 1) aNil)) (t := gtName 5) (body := lb__law_weave_1) 
    (fun i env mu => ∃ (C' : Cell) (w : List Th) (v5 v6 v7 : Option Val), env = [some (.lab 0), some (.t (.int many)), some (.t (.int ch)), some (.bor (.list few)), some (.lab 1), v5, v6, v7] ∧ mu = [some C', some (.lst ((w.map thT).map .t))] ∧ Pu (n + 10 * i) C' ∧ (∀ t ∈ w, ThOk 20 t) ∧ w.length = i) (weave_it (n := many) (env := [some (.lab 0), some (.t (.int many)), some (.t (.int ch)), some (.bor (.list few)), some (.lab 1), none, none, none]) (mu := [some C, some (.lst [])]) hm rfl) ⟨C, [], none, none, none, rfl, rfl, by simpa using h, by simp, rfl⟩ (fun i v env mu hi hI => by
      have hi2 : i < many := by
        have := (List.getElem?_eq_some_iff.mp hi).1
        simpa [rangeL] using this
      exact weave_step hn hm h1 h2 f1 f2 f3 i v env mu hi2 hI)
  have hlen : (List.map Val.t (rangeL 0 1 many)).length = many := by simp [rangeL]
  rw [hlen] at hC' hl
  exact ⟨w, C', v5, v6, v7, e, hw, hl, hC'⟩
theorem weave_end {L : Sx} {C C' : Cell} {many : Nat} {ch : Int} {few : List T} {w : List Th} {v5 v6 v7 : Option Val} (hC : Pure C = true) (hC' : Pure C' = true)
    (e : L [some (.lab 0), some (.t (.int many)), some (.t (.int ch)), some (.bor (.list few)), some (.lab 1), none, none, none] [some C, some (.lst [])] = some (.nx [some (.lab 0), some (.t (.int many)), some (.t (.int ch)), some (.bor (.list few)), some (.lab 1), v5, v6, v7] [some C', some (.lst ((w.map thT).map .t))])) :
    fnS 4 8 (A_b__law_weave L) [.m C, .b (.int many), .b (.int ch), .b (.list few)] = some (.fr (.lst (w.map (Val.t ∘ thT))), [C']) := by
  unfold A_b__law_weave
  simp at e
  simp [e, hC', textLine]
theorem weave_ok {n : Int} {C : Cell} {many : Nat} {ch : Int} {few : List T} (h : Pu n C) (hn : n + 10 * many < 900000) (hm : many ≤ 1000) (h1 : 1 ≤ ch) (h2 : ch ≤ 20) (f1 : few ≠ []) (f2 : few.length < 1000) (f3 : ∀ d ∈ few, IsLine d) :
    ∃ (w : List Th) (C' : Cell), m__law_weave [.m C, .b (.int many), .b (.int ch), .b (.list few)] = some (.fr (.lst (w.map (Val.t ∘ thT))), [C']) ∧ (∀ t ∈ w, ThOk 20 t) ∧ w.length = many ∧ Pu (n + 10 * many) C' := by
  obtain ⟨w, C', v5, v6, v7, e, hw, hl, hC'⟩ := weave_for h hn hm h1 h2 f1 f2 f3
  exact ⟨w, C', weave_end h.pure hC'.pure e, hw, hl, hC'⟩
end HdK

set_option Elab.async false
set_option linter.all false
set_option maxRecDepth 100000
set_option maxHeartbeats 4000000
namespace HdK
open PySem PySem.Spec PyProof.Rows L2 Vi
/-- what a def that draws a line does -/
def LineFn (few : List T) (M : FnS) : Prop := ∀ (n : Int) (C : Cell), Pu n C → n < 999990 → ∃ (d : T) (C' : Cell), M [.m C, .b (.list few)] = some (.v d, [C']) ∧ IsLine d ∧ Pu (n + 2) C'
def DrawFn (D : FnS) : Prop := ∀ (n : Int) (C : Cell) (many : Int), Pu n C → n < 1000000 → 1 ≤ many → many < 134217728 → ∃ (r : Int) (C' : Cell), D [.m C, .b (.int many)] = some (.v (.int r), [C']) ∧ 0 ≤ r ∧ r < many ∧ Pu (n + 1) C'
def OneFn (M : FnS) : Prop := ∀ (n : Int) (C : Cell) (ds : List T), Pu n C → n < 1000000 → ds ≠ [] → ds.length < 134217728 → ∃ (d : T) (C' : Cell), M [.m C, .b (.list ds)] = some (.v d, [C']) ∧ d ∈ ds ∧ Pu (n + 1) C'
theorem drawFn : DrawFn m__law_draw := fun n C many h1 h2 h3 h4 => draw_ok h1 h2 h3 h4
theorem oneFn : OneFn m__law_one_of := fun n C ds h1 h2 h3 h4 => one_of_ok h1 h2 h3 h4
theorem lineFn {few : List T} (f1 : few ≠ []) (f2 : few.length < 1000) (f3 : ∀ d ∈ few, IsLine d) : LineFn few m__law_line := fun n C h1 h2 => line_ok h1 h2 f1 f2 f3
theorem line_el {few : List T} {M : FnS} {C C' : Cell} {d : T} {x1 x3 x4 x5 : Option Val} {v : Option Val} (hC : Pure C = true) (e : M [.m C, .b (.list few)] = some (.v d, [C'])) :
    (eRet (rCall M [.m, .b] (aCons (eVar 0) (aCons (eVar 2) aNil)))) [some (.lab 0), x1, some (.bor (.list few)), x3, x4, x5, v] [some C] = some (.t d, [some C']) := by
  simp [hC, e]
theorem lines_comp {few : List T} {M : FnS} (hM : LineFn few M) {it : Ix} {x1 x3 x4 x5 x6 : Option Val} {C1 : Cell} {mu0 : Mu} {k : Nat} {n : Int} (hit : it [some (.lab 0), x1, some (.bor (.list few)), x3, x4, x5, x6] mu0 = some ((rangeL 0 1 k).map .t, [some C1])) (h : Pu n C1) (hn : n + 2 * k < 999000) (hk : k ≤ 1000) :
    ∃ (ys : List T) (C' : Cell), fComp it (.nm 6) [6] cYes (eRet (rCall M [.m, .b] (aCons (eVar 0) (aCons (eVar 2) aNil)))) [some (.lab 0), x1, some (.bor (.list few)), x3, x4, x5, x6] mu0 = some (.lst (ys.map .t), [some C']) ∧ ys.length = k ∧ (∀ y ∈ ys, IsLine y) ∧ Pu (n + 2 * k) C' := by
  have hlen : (List.map Val.t (rangeL 0 1 k)).length = k := by simp [rangeL]
  obtain ⟨ys, mu', e, e1, e2, C', rfl, hC'⟩ := fComp_ex (m := eRet (rCall M [.m, .b] (aCons (eVar 0) (aCons (eVar 2) aNil)))) (t := .nm 6) (vs := [6]) IsLine (fun i mu => ∃ C', mu = [some C'] ∧ Pu (n + 2 * i) C') hit (by decide) ⟨C1, rfl, by simpa using h⟩ (fun i v mu hi hI => by
    obtain ⟨C2, rfl, hC2⟩ := hI
    have hi2 : i < k := by
      have := (List.getElem?_eq_some_iff.mp hi).1
      rw [hlen] at this; exact this
    obtain ⟨d, C3, e3, hd, hC3⟩ := hM _ C2 hC2 (by omega)
    exact ⟨_, d, [some C3], rfl, line_el hC2.pure e3, hd, C3, rfl, hC3.mono (by omega)⟩) (by rw [hlen]; unfold textLine; omega)
  rw [hlen] at e1 hC'
  exact ⟨ys, C', e, e1, e2, hC'⟩
theorem it_draw {D : FnS} {C C1 : Cell} {x1 x2 x3 x4 x5 x6 : Option Val} {r m : Int} (hC : Pure C = true) (e : D [.m C, .b (.int m)] = some (.v (.int r), [C1])) (r0 : 0 ≤ r) (r1 : r < 1000) :
    (iRng1 (aCons (eOp gAdd (eC (.int 1)) (eRet (rCall D [.m, .b] (aCons (eVar 0) (aCons (eC (.int m)) aNil))))) aNil)) [some (.lab 0), x1, x2, x3, x4, x5, x6] [some C] = some ((rangeL 0 1 (1 + r).toNat).map .t, [some C1]) := by
  have q1 : -4611686018427387904 ≤ 1 + r := by omega
  have q2 : 1 + r < 4611686018427387904 := by omega
  simp [hC, e, gR1_ok, q1, q2]
/-! ### turned -/
theorem turned_1 {few : List T} {D M : FnS} (hD : DrawFn D) (hM : LineFn few M) {x1 x3 x4 x5 x6 : Option Val} {C : Cell} {n : Int} (h : Pu n C) (hn : n < 990000) :
    ∃ (ys : List T) (C' : Cell), A_l__law_turned_1 D (A_lm__law_turned_1 M) [some (.lab 0), x1, some (.bor (.list few)), x3, x4, x5, x6] [some C] = some (.lst (ys.map .t), [some C']) ∧ ys.length ≤ 3 ∧ (∀ y ∈ ys, IsLine y) ∧ Pu (n + 10) C' := by
  obtain ⟨r, C1, e, r0, r1, hC1⟩ := hD n C 3 h (by omega) (by omega) (by omega)
  obtain ⟨ys, C', e1, e2, e3, e4⟩ := lines_comp hM (it_draw (x1 := x1) (x2 := some (.bor (.list few))) (x3 := x3) (x4 := x4) (x5 := x5) (x6 := x6) h.pure e r0 (by omega)) hC1 (by omega) (by omega)
  exact ⟨ys, C', e1, by omega, e3, e4.mono (by omega)⟩
theorem turned_2 {few : List T} {D M : FnS} (hD : DrawFn D) (hM : LineFn few M) {x1 x3 x4 x5 x6 : Option Val} {C : Cell} {n : Int} (h : Pu n C) (hn : n < 990000) :
    ∃ (ys : List T) (C' : Cell), A_l__law_turned_2 D (A_lm__law_turned_2 M) [some (.lab 0), x1, some (.bor (.list few)), x3, x4, x5, x6] [some C] = some (.lst (ys.map .t), [some C']) ∧ ys.length ≤ 3 ∧ (∀ y ∈ ys, IsLine y) ∧ Pu (n + 10) C' := by
  obtain ⟨r, C1, e, r0, r1, hC1⟩ := hD n C 2 h (by omega) (by omega) (by omega)
  obtain ⟨ys, C', e1, e2, e3, e4⟩ := lines_comp hM (it_draw (x1 := x1) (x2 := some (.bor (.list few))) (x3 := x3) (x4 := x4) (x5 := x5) (x6 := x6) h.pure e r0 (by omega)) hC1 (by omega) (by omega)
  exact ⟨ys, C', e1, by omega, e3, e4.mono (by omega)⟩
theorem turned_A {few ls : List T} {D : FnS} {L1 L2 : Fx} {C : Cell} {n : Int} (hD : DrawFn D) (h : Pu n C) (hn : n < 980000) (hl : ls.length ≤ 1000) (hls : ∀ x ∈ ls, IsLine x)
    (h1 : ∀ (x1 x3 x4 x5 x6 : Option Val) (C : Cell) (n : Int), Pu n C → n < 990000 → ∃ (ys : List T) (C' : Cell), L1 [some (.lab 0), x1, some (.bor (.list few)), x3, x4, x5, x6] [some C] = some (.lst (ys.map .t), [some C']) ∧ ys.length ≤ 3 ∧ (∀ y ∈ ys, IsLine y) ∧ Pu (n + 10) C')
    (h2 : ∀ (x1 x3 x4 x5 x6 : Option Val) (C : Cell) (n : Int), Pu n C → n < 990000 → ∃ (ys : List T) (C' : Cell), L2 [some (.lab 0), x1, some (.bor (.list few)), x3, x4, x5, x6] [some C] = some (.lst (ys.map .t), [some C']) ∧ ys.length ≤ 3 ∧ (∀ y ∈ ys, IsLine y) ∧ Pu (n + 10) C') :
    ∃ (ys : List T) (C' : Cell), fnS 3 7 (A_b__law_turned D L1 L2) [.m C, .b (.list ls), .b (.list few)] = some (.fr (.lst (ys.map .t)), [C']) ∧ ys.length ≤ ls.length + 3 ∧ (∀ y ∈ ys, IsLine y) ∧ Pu (n + 20) C' := by
  obtain ⟨way, C1, e1, w0, w1, hC1⟩ := hD n C 6 h (by omega) (by omega) (by omega)
  obtain ⟨at_, C2, e2, a0, a1, hC2⟩ := hD _ C1 ((ls.length : Int) + 1) hC1 (by omega) (by omega) (by omega)
  have p0 := h.pure
  have p1 := hC1.pure
  have p2 := hC2.pure
  have cl : ∀ lo hi, (cutL ls lo hi).length ≤ ls.length := fun lo hi => (cutL_sub _ _ _).length_le
  have cm : ∀ lo hi, ∀ x ∈ cutL ls lo hi, IsLine x := fun lo hi x hx => hls x ((cutL_sub _ _ _).mem hx)
  have two : ∀ a : Int, 0 ≤ a → (cutL ls none (some a)).length + (cutL ls (some a) none).length = ls.length := fun a ha => by
    obtain ⟨j, rfl⟩ := Int.eq_ofNat_of_zero_le ha
    unfold cutL
    simp only [HT.sIx_none, HT.sIx_nat, List.length_take, List.length_drop]
    omega
  by_cases z1 : way < 2
  · obtain ⟨ys, C3, e3, l3, i3, hC3⟩ := h1 (some (.bor (.list ls))) (some (.t (.int at_))) (some (.t (.list ls))) (some (.t (.int way))) none C2 _ hC2 (by omega)
    have p3 := hC3.pure
    have q := two at_ a0
    have q1 : (cutL ls none (some at_)).length + ys.length ≤ 100000 := by omega
    have q2 : (cutL ls none (some at_)).length + ys.length + (cutL ls (some at_) none).length ≤ 100000 := by omega
    refine ⟨cutL ls none (some at_) ++ ys ++ cutL ls (some at_) none, C3, ?_, by simp; omega, fun y hy => ?_, hC3.mono (by omega)⟩
    · unfold A_b__law_turned
      simp [p0, p1, p2, p3, e1, e2, e3, z1, cutL_map, textLine, q1, q2]
    · simp only [List.mem_append] at hy
      rcases hy with (hy | hy) | hy
      · exact cm _ _ y hy
      · exact i3 y hy
      · exact cm _ _ y hy
  · by_cases z2 : way < 4
    · obtain ⟨r, C3, e3, r0, r1, hC3⟩ := hD _ C2 2 hC2 (by omega) (by omega) (by omega)
      have p3 := hC3.pure
      have b1 := cl none (some at_)
      have b2 := cl (some (at_ + 1 + r)) none
      have q1 : (cutL ls none (some at_)).length + (cutL ls (some (at_ + 1 + r)) none).length ≤ 100000 := by omega
      have q := two at_ a0
      have q3 : (cutL ls (some (at_ + 1 + r)) none).length ≤ (cutL ls (some at_) none).length := by
        obtain ⟨j, rfl⟩ := Int.eq_ofNat_of_zero_le a0
        obtain ⟨k, rfl⟩ := Int.eq_ofNat_of_zero_le r0
        have e : ((j : Int) + 1 + k) = ((j + 1 + k : Nat) : Int) := by omega
        rw [e]
        unfold cutL
        simp only [HT.sIx_none, HT.sIx_nat, List.length_take, List.length_drop]
        omega
      refine ⟨cutL ls none (some at_) ++ cutL ls (some (at_ + 1 + r)) none, C3, ?_, by simp; omega, fun y hy => ?_, hC3.mono (by omega)⟩
      · unfold A_b__law_turned
        simp [p0, p1, p2, p3, e1, e2, e3, z1, z2, cutL_map, textLine, q1]
      · simp only [List.mem_append] at hy
        rcases hy with hy | hy
        · exact cm _ _ y hy
        · exact cm _ _ y hy
    · have q := two at_ a0
      have q0 : (cutL ls (some at_) none).length + (cutL ls none (some at_)).length ≤ 100000 := by omega
      have fin : way = 4 ∧ at_ < ls.length → ∃ (ys : List T) (C' : Cell), fnS 3 7 (A_b__law_turned D L1 L2) [.m C, .b (.list ls), .b (.list few)] = some (.fr (.lst (ys.map .t)), [C']) ∧ ys.length ≤ ls.length + 3 ∧ (∀ y ∈ ys, IsLine y) ∧ Pu (n + 20) C' := fun z => by
        obtain ⟨z3, z4⟩ := z
        subst z3
        obtain ⟨ys, C3, e3, l3, i3, hC3⟩ := h2 (some (.bor (.list ls))) (some (.t (.int at_))) (some (.t (.list ls))) (some (.t (.int 4))) none C2 _ hC2 (by omega)
        have p3 := hC3.pure
        have b2 := cl (some (at_ + 1)) none
        have b1 := cl none (some at_)
        have q1 : (cutL ls none (some at_)).length + ys.length ≤ 100000 := by omega
        have q2 : (cutL ls none (some at_)).length + ys.length + (cutL ls (some (at_ + 1)) none).length ≤ 100000 := by omega
        have q3 : (cutL ls (some (at_ + 1)) none).length ≤ (cutL ls (some at_) none).length := by
          obtain ⟨j, rfl⟩ := Int.eq_ofNat_of_zero_le a0
          have e : ((j : Int) + 1) = ((j + 1 : Nat) : Int) := by omega
          rw [e]
          unfold cutL
          simp only [HT.sIx_none, HT.sIx_nat, List.length_take, List.length_drop]
          omega
        refine ⟨cutL ls none (some at_) ++ ys ++ cutL ls (some (at_ + 1)) none, C3, ?_, by simp; omega, fun y hy => ?_, hC3.mono (by omega)⟩
        · unfold A_b__law_turned
          simp [p0, p1, p2, p3, e1, e2, e3, z4, cutL_map, textLine, q1, q2]
        · simp only [List.mem_append] at hy
          rcases hy with (hy | hy) | hy
          · exact cm _ _ y hy
          · exact i3 y hy
          · exact cm _ _ y hy
      by_cases z3 : way = 4
      · by_cases z4 : at_ < ls.length
        · exact fin ⟨z3, z4⟩
        · refine ⟨cutL ls (some at_) none ++ cutL ls none (some at_), C2, ?_, by simp; omega, fun y hy => ?_, hC2.mono (by omega)⟩
          · unfold A_b__law_turned
            simp [p0, p1, p2, e1, e2, z1, z2, z3, z4, cutL_map, textLine, q0]
          · simp only [List.mem_append] at hy
            rcases hy with hy | hy
            · exact cm _ _ y hy
            · exact cm _ _ y hy
      · refine ⟨cutL ls (some at_) none ++ cutL ls none (some at_), C2, ?_, by simp; omega, fun y hy => ?_, hC2.mono (by omega)⟩
        · unfold A_b__law_turned
          simp [p0, p1, p2, e1, e2, z1, z2, z3, cutL_map, textLine, q0]
        · simp only [List.mem_append] at hy
          rcases hy with hy | hy
          · exact cm _ _ y hy
          · exact cm _ _ y hy
def TurnFn (few : List T) (M : FnS) : Prop := ∀ (n : Int) (C : Cell) (ls : List T), Pu n C → n < 980000 → ls.length ≤ 1000 → (∀ x ∈ ls, IsLine x) → ∃ (ys : List T) (C' : Cell), M [.m C, .b (.list ls), .b (.list few)] = some (.fr (.lst (ys.map .t)), [C']) ∧ ys.length ≤ ls.length + 3 ∧ (∀ y ∈ ys, IsLine y) ∧ Pu (n + 20) C'
theorem turnFn {few : List T} (f1 : few ≠ []) (f2 : few.length < 1000) (f3 : ∀ d ∈ few, IsLine d) : TurnFn few m__law_turned := fun n C ls h hn hl hls =>
  turned_A (L1 := A_l__law_turned_1 m__law_draw (A_lm__law_turned_1 m__law_line)) (L2 := A_l__law_turned_2 m__law_draw (A_lm__law_turned_2 m__law_line)) drawFn h hn hl hls
    (fun _ _ _ _ _ _ _ h hn => turned_1 drawFn (lineFn f1 f2 f3) h hn) (fun _ _ _ _ _ _ _ h hn => turned_2 drawFn (lineFn f1 f2 f3) h hn)
end HdK

set_option Elab.async false
set_option linter.all false
set_option maxRecDepth 100000
set_option maxHeartbeats 4000000
namespace HdK
open PySem PySem.Spec PyProof.Rows L2 Vi
/-! ### lists -/
theorem it_draw0 {D : FnS} {C C1 : Cell} {X : List (Option Cell)} {x1 x2 x3 x4 x5 x6 : Option Val} {r m : Int} (hC : Pure C = true) (e : D [.m C, .b (.int m)] = some (.v (.int r), [C1])) (r0 : 0 ≤ r) (r1 : r < 1000) :
    (iRng1 (aCons (eRet (rCall D [.m, .b] (aCons (eVar 0) (aCons (eC (.int m)) aNil)))) aNil)) [some (.lab 0), x1, x2, x3, x4, x5, x6] (some C :: X) = some ((rangeL 0 1 r.toNat).map .t, some C1 :: X) := by
  have q1 : -4611686018427387904 ≤ r := by omega
  have q2 : r < 4611686018427387904 := by omega
  simp [hC, e, gR1_ok, q1, q2]
theorem it_draw1 {D M : FnS} {C C1 C2 : Cell} {x1 x2 x3 x4 x5 x6 : Option Val} {r m : Int} (hC : Pure C = true) (hC1 : Pure C1 = true) (e0 : M [.m C, .b (.list [.int 3, .int 9, .int 20])] = some (.v (.int m), [C1])) (e : D [.m C1, .b (.int m)] = some (.v (.int r), [C2])) (r0 : 0 ≤ r) (r1 : r < 1000) :
    (iRng1 (aCons (eRet (rCall D [.m, .b] (aCons (eVar 0) (aCons (eRet (rCall M [.m, .b] (aCons (eVar 0) (aCons (eFr (fLst (aCons (eC (.int 3)) (aCons (eC (.int 9)) (aCons (eC (.int 20)) aNil))))) aNil)))) aNil)))) aNil)) [some (.lab 0), x1, x2, x3, x4, x5, x6] [some C] = some ((rangeL 0 1 r.toNat).map .t, [some C2]) := by
  have q1 : -4611686018427387904 ≤ r := by omega
  have q2 : r < 4611686018427387904 := by omega
  simp [hC, hC1, e, e0, gR1_ok, q1, q2, textLine]
theorem lists_1 {few : List T} {D O M : FnS} (hD : DrawFn D) (hO : OneFn O) (hM : LineFn few M) {x1 x3 x4 x5 x6 : Option Val} {C : Cell} {n : Int} (h : Pu n C) (hn : n < 900000) :
    ∃ (ys : List T) (C' : Cell), A_l__law_lists_1 D O (A_lm__law_lists_1 M) [some (.lab 0), x1, some (.bor (.list few)), x3, x4, x5, x6] [some C] = some (.lst (ys.map .t), [some C']) ∧ ys.length ≤ 20 ∧ (∀ y ∈ ys, IsLine y) ∧ Pu (n + 50) C' := by
  obtain ⟨d, C1, e0, hd, hC1⟩ := hO n C [.int 3, .int 9, .int 20] h (by omega) (by simp) (by simp)
  have hm : ∃ m : Int, d = .int m ∧ 3 ≤ m ∧ m ≤ 20 := by
    simp only [List.mem_cons, List.not_mem_nil, or_false] at hd
    rcases hd with h | h | h <;> subst h <;> exact ⟨_, rfl, by omega, by omega⟩
  obtain ⟨m, rfl, m0, m1⟩ := hm
  obtain ⟨r, C2, e, r0, r1, hC2⟩ := hD _ C1 m hC1 (by omega) (by omega) (by omega)
  obtain ⟨ys, C', e1, e2, e3, e4⟩ := lines_comp hM (it_draw1 (x1 := x1) (x2 := some (.bor (.list few))) (x3 := x3) (x4 := x4) (x5 := x5) (x6 := x6) h.pure hC1.pure e0 e r0 (by omega)) hC2 (by omega) (by omega)
  exact ⟨ys, C', e1, by omega, e3, e4.mono (by omega)⟩
theorem lists_b2 {M : FnS} {few ls ys : List T} {C C' : Cell} {X : List (Option Cell)} {x1 x3 x4 x6 : Option Val} (hC : Pure C = true) (e : M [.m C, .b (.list ls), .b (.list few)] = some (.fr (.lst (ys.map .t)), [C'])) :
    A_lb__law_lists_2 M [some (.lab 0), x1, some (.bor (.list few)), x3, x4, some (.t (.list ls)), x6] (some C :: X) = some (.nx [some (.lab 0), x1, some (.bor (.list few)), x3, x4, some (.t (.list ys)), x6] (some C' :: X)) := by
  unfold A_lb__law_lists_2
  simp [hC, e]
theorem lists_2 {few ls : List T} {D T' : FnS} (hD : DrawFn D) (hT : TurnFn few T') {x1 x3 x4 x6 : Option Val} {C : Cell} {X : List (Option Cell)} {n : Int} (h : Pu n C) (hn : n < 900000) (hl : ls.length ≤ 100) (hls : ∀ x ∈ ls, IsLine x) :
    ∃ (ys : List T) (C' : Cell) (v6 : Option Val), A_l__law_lists_2 D (A_lb__law_lists_2 T') [some (.lab 0), x1, some (.bor (.list few)), x3, x4, some (.t (.list ls)), x6] (some C :: X) = some (.nx [some (.lab 0), x1, some (.bor (.list few)), x3, x4, some (.t (.list ys)), v6] (some C' :: X)) ∧ (∀ y ∈ ys, IsLine y) ∧ Pu (n + 100) C' := by
  obtain ⟨r, C1, e, r0, r1, hC1⟩ := hD n C 4 h (by omega) (by omega) (by omega)
  have hlen : (List.map Val.t (rangeL 0 1 r.toNat)).length = r.toNat := by simp [rangeL]
  obtain ⟨env', mu', e1, ys, C', v6, rfl, rfl, l1, i1, hC'⟩ := sFor_inv (t := gtName 6) (body := A_lb__law_lists_2 T') (fun i env mu => ∃ (ys : List T) (C' : Cell) (v6 : Option Val), env = [some (.lab 0), x1, some (.bor (.list few)), x3, x4, some (.t (.list ys)), v6] ∧ mu = some C' :: X ∧ ys.length ≤ 100 + 3 * i ∧ (∀ y ∈ ys, IsLine y) ∧ Pu (n + 1 + 20 * i) C')
    (it_draw0 (X := X) (x1 := x1) (x2 := some (.bor (.list few))) (x3 := x3) (x4 := x4) (x5 := some (.t (.list ls))) (x6 := x6) h.pure e r0 (by omega)) ⟨ls, C1, x6, rfl, rfl, by omega, hls, by simpa using hC1⟩ (fun i v env mu hi hI => by
      obtain ⟨ys, C2, v6, rfl, rfl, l2, i2, hC2⟩ := hI
      have hi2 : i < r.toNat := by
        have := (List.getElem?_eq_some_iff.mp hi).1
        rw [hlen] at this; exact this
      obtain ⟨zs, C3, e3, l3, i3, hC3⟩ := hT _ C2 ys hC2 (by omega) (by omega) i2
      exact ⟨[some (.lab 0), x1, some (.bor (.list few)), x3, x4, some (.t (.list ys)), some v], _, _, rfl, lists_b2 hC2.pure e3, zs, C3, some v, rfl, rfl, by omega, i3, hC3.mono (by omega)⟩)
  rw [hlen] at hC'
  exact ⟨ys, C', v6, e1, i1, hC'.mono (by omega)⟩
def LsOk (LL : List (List T)) : Prop := ∀ ls ∈ LL, ls.length ≤ 60 ∧ ∀ x ∈ ls, IsLine x
theorem lists_b3 {few ls0 ls1 : List T} {D O : FnS} {L2' : Sx} {C C1 C2 C3 : Cell} {LL : List (List T)} {x1 x4 v5 v6 v6' : Option Val} {r : Int} {d : T} (h0 : Pure C = true) (h1 : Pure C1 = true) (h2 : Pure C2 = true)
    (hlast : LL.getLast? = some ls0) (hlen : LL.length < 100000)
    (eL : L2' [some (.lab 0), x1, some (.bor (.list few)), some (.lab 1), x4, some (.t (.list ls0)), v6] [some C, some (.lst (LL.map (Val.t ∘ .list)))] = some (.nx [some (.lab 0), x1, some (.bor (.list few)), some (.lab 1), x4, some (.t (.list ls1)), v6'] [some C1, some (.lst (LL.map (Val.t ∘ .list)))]))
    (eD : D [.m C1, .b (.int 8)] = some (.v (.int r), [C2])) (eO : O [.m C2, .b (.list (LL.map .list))] = some (.v d, [C3])) (ls2 : List T) (hd : d = .list ls2) :
    A_lb__law_lists_3 L2' D O [some (.lab 0), x1, some (.bor (.list few)), some (.lab 1), x4, v5, v6] [some C, some (.lst (LL.map (Val.t ∘ .list)))] =
      some (.nx [some (.lab 0), x1, some (.bor (.list few)), some (.lab 1), x4, some (.t (.list (if r = 0 then ls2 else ls1))), v6'] [some (if r = 0 then C3 else C2), some (.lst ((LL ++ [cutL (if r = 0 then ls2 else ls1) none (some 60)]).map (Val.t ∘ .list)))]) := by
  subst hd
  have hne : LL ≠ [] := fun z => by subst z; cases hlast
  have hpos : 0 < LL.length := List.length_pos_iff.mpr hne
  have e2 : (LL.map (Val.t ∘ PyData.list))[LL.length - 1]? = some (.t (.list ls0)) := by
    rw [List.getElem?_map, ← List.getLast?_eq_getElem?, hlast]; rfl
  have e3 : atI (LL.map (Val.t ∘ PyData.list)) (-1) = some (.t (.list ls0)) := by
    have q : (-1 + (LL.length : Int)).toNat = LL.length - 1 := by omega
    have q2 : -(LL.length : Int) ≤ -1 := by omega
    unfold atI ixN
    simp only [List.length_map]
    rw [if_neg (by decide), if_pos q2, q]
    exact e2
  unfold A_lb__law_lists_3
  by_cases z : r = 0
  · subst z
    simp [h0, h1, h2, e3, eL, eD, eO, cutL_map, textLine, hlen]
  · simp [h0, h1, h2, e3, eL, eD, z, cutL_map, textLine, hlen]
theorem lists_step {few : List T} {D O T' : FnS} (hD : DrawFn D) (hO : OneFn O) (hT : TurnFn few T') {x1 x4 v5 v6 : Option Val} {C : Cell} {n : Int} {LL : List (List T)} (h : Pu n C) (hn : n < 890000) (hL : LsOk LL) (h1 : 1 ≤ LL.length) (h2 : LL.length ≤ 1000) :
    ∃ (ls : List T) (C' : Cell) (v5' v6' : Option Val), A_lb__law_lists_3 (A_l__law_lists_2 D (A_lb__law_lists_2 T')) D O [some (.lab 0), x1, some (.bor (.list few)), some (.lab 1), x4, v5, v6] [some C, some (.lst (LL.map (Val.t ∘ .list)))] =
      some (.nx [some (.lab 0), x1, some (.bor (.list few)), some (.lab 1), x4, v5', v6'] [some C', some (.lst ((LL ++ [ls]).map (Val.t ∘ .list)))]) ∧ LsOk (LL ++ [ls]) ∧ Pu (n + 110) C' := by
  have hne : LL ≠ [] := fun z => by subst z; simp at h1
  have hlast : LL.getLast? = some (LL.getLast hne) := List.getLast?_eq_some_getLast hne
  have hlm := List.getLast_mem hne
  obtain ⟨ls1, C1, v6', eL, i1, hC1⟩ := lists_2 hD hT (x1 := x1) (x3 := some (.lab 1)) (x4 := x4) (x6 := v6) (X := [some (.lst (LL.map (Val.t ∘ .list)))]) h (by omega) (Nat.le_trans (hL _ hlm).1 (by omega)) (hL _ hlm).2
  obtain ⟨r, C2, eD, r0, r1, hC2⟩ := hD _ C1 8 hC1 (by omega) (by omega) (by omega)
  obtain ⟨d, C3, eO, hd, hC3⟩ := hO _ C2 (LL.map .list) hC2 (by omega) (by simpa using hne) (by simp; omega)
  obtain ⟨ls2, m2, rfl⟩ := List.mem_map.mp hd
  have e60 : ∀ ls : List T, cutL ls none (some 60) = ls.take 60 := fun ls => cutL_take ls 60
  refine ⟨_, _, _, _, lists_b3 h.pure hC1.pure hC2.pure hlast (by omega) eL eD eO ls2 rfl, ?_, ?_⟩
  · intro l hl
    rcases List.mem_append.mp hl with hl | hl
    · exact hL l hl
    · cases List.mem_singleton.mp hl
      rw [e60]
      refine ⟨by simp; omega, fun x hx => ?_⟩
      have hx := List.mem_of_mem_take hx
      by_cases z : r = 0
      · rw [if_pos z] at hx; exact (hL _ m2).2 x hx
      · rw [if_neg z] at hx; exact i1 x hx
  · by_cases z : r = 0
    · rw [if_pos z]; exact hC3.mono (by omega)
    · rw [if_neg z]; exact hC2.mono (by omega)
theorem lists_3 {few : List T} {D O T' : FnS} (hD : DrawFn D) (hO : OneFn O) (hT : TurnFn few T') {C : Cell} {n : Int} {many : Nat} {ls : List T} (h : Pu n C) (hn : n < 800000) (hm : many ≤ 100) (hl : ls.length ≤ 60) (hls : ∀ x ∈ ls, IsLine x) :
    ∃ (LL : List (List T)) (C' : Cell) (v4 v5 v6 : Option Val), A_l__law_lists_3 (A_lb__law_lists_3 (A_l__law_lists_2 D (A_lb__law_lists_2 T')) D O) [some (.lab 0), some (.t (.int many)), some (.bor (.list few)), some (.lab 1), none, none, none] [some C, some (.lst [.t (.list ls)])] =
      some (.nx [some (.lab 0), some (.t (.int many)), some (.bor (.list few)), some (.lab 1), v4, v5, v6] [some C', some (.lst (LL.map (Val.t ∘ .list)))]) ∧ LsOk LL ∧ LL.length = many + 1 ∧ Pu (n + 110 * many) C' := by
  have hlen : (List.map Val.t (rangeL 0 1 many)).length = many := by simp [rangeL]
  obtain ⟨env', mu', e1, LL, C', v4, v5, v6, rfl, rfl, hL, hC', l1⟩ := sFor_inv (t := gtName 4) (body := A_lb__law_lists_3 (A_l__law_lists_2 D (A_lb__law_lists_2 T')) D O) (fun i env mu => ∃ (LL : List (List T)) (C' : Cell) (v4 v5 v6 : Option Val), env = [some (.lab 0), some (.t (.int many)), some (.bor (.list few)), some (.lab 1), v4, v5, v6] ∧ mu = [some C', some (.lst (LL.map (Val.t ∘ .list)))] ∧ LsOk LL ∧ Pu (n + 110 * i) C' ∧ LL.length = i + 1)
    (weave_it (n := many) (env := [some (.lab 0), some (.t (.int many)), some (.bor (.list few)), some (.lab 1), none, none, none]) (mu := [some C, some (.lst [.t (.list ls)])]) (by omega) rfl) ⟨[ls], C, none, none, none, rfl, rfl, fun l hl' => by cases List.mem_singleton.mp hl'; exact ⟨hl, hls⟩, by simpa using h, rfl⟩ (fun i v env mu hi hI => by
      obtain ⟨LL, C2, v4, v5, v6, rfl, rfl, hL, hC2, l1⟩ := hI
      have hi2 : i < many := by
        have := (List.getElem?_eq_some_iff.mp hi).1
        rw [hlen] at this; exact this
      obtain ⟨ls', C3, v5', v6', e3, hL3, hC3⟩ := lists_step hD hO hT (x1 := some (.t (.int many))) (x4 := some v) (v5 := v5) (v6 := v6) hC2 (by omega) hL (by omega) (by omega)
      exact ⟨_, _, _, rfl, e3, LL ++ [ls'], C3, some v, v5', v6', rfl, rfl, hL3, hC3.mono (by omega), by simp [l1]⟩)
  rw [hlen] at hC' l1
  exact ⟨LL, C', v4, v5, v6, e1, hL, l1, hC'⟩
theorem lists_end {L1 : Fx} {L3 : Sx} {C C1 C2 : Cell} {many : Nat} {few ls : List T} {LL : List (List T)} {v4 v5 v6 : Option Val} (h0 : Pure C = true) (h2 : Pure C2 = true)
    (e1 : L1 [some (.lab 0), some (.t (.int many)), some (.bor (.list few)), none, none, none, none] [some C] = some (.lst (ls.map .t), [some C1]))
    (e3 : L3 [some (.lab 0), some (.t (.int many)), some (.bor (.list few)), some (.lab 1), none, none, none] [some C1, some (.lst [.t (.list ls)])] = some (.nx [some (.lab 0), some (.t (.int many)), some (.bor (.list few)), some (.lab 1), v4, v5, v6] [some C2, some (.lst (LL.map (Val.t ∘ .list)))])) :
    fnS 3 7 (A_b__law_lists L1 L3) [.m C, .b (.int many), .b (.list few)] = some (.fr (.lst (LL.map (Val.t ∘ .list))), [C2]) := by
  unfold A_b__law_lists
  simp [h0, h2, e1, e3, textLine]
theorem lists_ok {few : List T} {C : Cell} {n : Int} {many : Nat} (f1 : few ≠ []) (f2 : few.length < 1000) (f3 : ∀ d ∈ few, IsLine d) (h : Pu n C) (hn : n < 700000) (hm : many ≤ 100) :
    ∃ (LL : List (List T)) (C' : Cell), m__law_lists [.m C, .b (.int many), .b (.list few)] = some (.fr (.lst (LL.map (Val.t ∘ .list))), [C']) ∧ LsOk LL ∧ LL.length = many + 1 ∧ Pu (n + 20000) C' := by
  obtain ⟨ls, C1, e1, l1, i1, hC1⟩ := lists_1 drawFn oneFn (lineFn f1 f2 f3) (x1 := some (.t (.int many))) (x3 := none) (x4 := none) (x5 := none) (x6 := none) h (by omega)
  obtain ⟨LL, C2, v4, v5, v6, e3, hL, l3, hC2⟩ := lists_3 drawFn oneFn (turnFn f1 f2 f3) (ls := ls) (many := many) hC1 (by omega) hm (by omega) i1
  exact ⟨LL, C2, lists_end h.pure hC2.pure e1 e3, hL, l3, hC2.mono (by omega)⟩
end HdK

set_option Elab.async false
set_option linter.all false
set_option maxRecDepth 100000
set_option maxHeartbeats 4000000
namespace HdK
open PySem PySem.Spec PyProof.Rows L2 Vi
def wT (w : List Th) : T := .list (w.map thT)
def Th.stands (t : Th) (k : Int) : Bool := decide (t.put ≤ k) && (match t.gone with
  | none => true
  | some g => decide (k < g))
def AT (w : List Th) (k : Int) : List T := (w.filter (·.stands k)).map fun t => PyData.str t.s
theorem at_b {t : Th} {k : Int} {ws found : List T} {v3 v4 v5 : Option Val} (hl : found.length < 100000) :
    A_lb__law_at_1 [some (.bor (.list ws)), some (.t (.int k)), some (.lab 0), some (.t (.str t.s)), some (.t (.int t.put)), some (.t (goT t.gone))] [some (.lst (found.map .t))] =
      some (.nx [some (.bor (.list ws)), some (.t (.int k)), some (.lab 0), some (.t (.str t.s)), some (.t (.int t.put)), some (.t (goT t.gone))] [some (.lst ((found ++ if t.stands k then [PyData.str t.s] else []).map .t))]) := by
  obtain ⟨s, p, g⟩ := t
  unfold A_lb__law_at_1
  cases g with
  | none => by_cases h1 : p ≤ k <;> simp [goT, Th.stands, h1, hl, textLine]
  | some g => by_cases h1 : p ≤ k <;> by_cases h2 : k < g <;> simp [goT, Th.stands, h1, h2, hl, textLine]
theorem at_for {w : List Th} {k : Int} (hw : w.length ≤ 1000) : ∃ v3 v4 v5, l__law_at_1 [some (.bor (wT w)), some (.t (.int k)), some (.lab 0), none, none, none] [some (.lst [])] = some (.nx [some (.bor (wT w)), some (.t (.int k)), some (.lab 0), v3, v4, v5] [some (.lst ((AT w k).map .t))]) := by
  have hlen : ((w.map thT).map Val.t).length = w.length := by simp
  obtain ⟨env', mu', e1, found, v3, v4, v5, rfl, rfl, hf⟩ := sFor_inv (it := iLst (eVar 0)) (t := gtTup 3 (gtCons (gtName 3) (gtCons (gtName 4) (gtCons (gtName 5) gtNil)))) (body := A_lb__law_at_1) (items := (w.map thT).map .t) (env := [some (.bor (wT w)), some (.t (.int k)), some (.lab 0), none, none, none]) (mu := [some (.lst [])]) (mu1 := [some (.lst [])])
    (fun i env mu => ∃ (found : List T) (v3 v4 v5 : Option Val), env = [some (.bor (wT w)), some (.t (.int k)), some (.lab 0), v3, v4, v5] ∧ mu = [some (.lst (found.map .t))] ∧ found = AT (w.take i) k) (by simp [wT]) ⟨[], none, none, none, rfl, rfl, rfl⟩ (fun i v env mu hi hI => by
      obtain ⟨found, v3, v4, v5, rfl, rfl, hf⟩ := hI
      rw [List.getElem?_map, List.getElem?_map] at hi
      cases ht : w[i]? with
      | none => rw [ht] at hi; cases hi
      | some t =>
        rw [ht] at hi
        cases hi
        have fl : found.length < 100000 := by
          rw [hf]; unfold AT
          rw [List.length_map]
          refine Nat.lt_of_le_of_lt (List.length_filter_le _ _) ?_
          rw [List.length_take]; omega
        refine ⟨[some (.bor (wT w)), some (.t (.int k)), some (.lab 0), some (.t (.str t.s)), some (.t (.int t.put)), some (.t (goT t.gone))], _, _, by simp [thT], at_b (v3 := none) (v4 := none) (v5 := none) fl, _, _, _, _, rfl, rfl, ?_⟩
        have e1 : w.take (i + 1) = w.take i ++ [t] := by
          rw [List.take_add_one, ht]; rfl
        rw [hf, e1]
        unfold AT
        rw [List.filter_append, List.map_append]
        by_cases hs : t.stands k = true <;> simp [hs])
  rw [hlen, List.take_length] at hf
  subst hf
  exact ⟨v3, v4, v5, e1⟩
theorem at_ok (w : List Th) (k : Int) (hw : w.length ≤ 1000) : m__law_at [.b (wT w), .b (.int k)] = some (.fr (.lst ((AT w k).map .t)), []) := by
  obtain ⟨v3, v4, v5, e⟩ := at_for (w := w) (k := k) hw
  show fnS 2 6 (A_b__law_at l__law_at_1) _ = _
  generalize l__law_at_1 = L at e
  unfold A_b__law_at
  unfold wT at e ⊢
  simp [e, textLine]
def goneIn (ns : List Int) : Option Int → Bool
  | none => false
  | some g => ns.contains g
def wo (ns : List Int) (t : Th) : Option Th := if ns.contains t.put then none else some ⟨t.s, t.put, if goneIn ns t.gone then none else t.gone⟩
def WO (w : List Th) (ns : List Int) : List Th := w.filterMap (wo ns)
def nsT (ns : List Int) : T := .list (ns.map .int)
theorem without_b {t : Th} {ns : List Int} {ws : List T} {found : List T} (hl : found.length < 100000) :
    A_lb__law_without_1 [some (.bor (.list ws)), some (.bor (nsT ns)), some (.lab 0), some (.t (.str t.s)), some (.t (.int t.put)), some (.t (goT t.gone))] [some (.lst (found.map .t))] =
      some (.nx [some (.bor (.list ws)), some (.bor (nsT ns)), some (.lab 0), some (.t (.str t.s)), some (.t (.int t.put)), some (.t (goT t.gone))] [some (.lst ((found ++ ((wo ns t).map thT).toList).map .t))]) := by
  obtain ⟨s, p, g⟩ := t
  have hr : ∀ mu, rd (.bor (nsT ns)) mu = some (.list (ns.map .int)) := fun _ => rfl
  unfold A_lb__law_without_1
  by_cases h1 : p ∈ ns
  · cases g <;> simp [gIn_int (hr _), gIn_none (hr _), goT, wo, h1]
  · cases g with
    | none => simp [gIn_int (hr _), gIn_none (hr _), goT, wo, goneIn, thT, h1, hl, textLine]
    | some g => by_cases h2 : g ∈ ns <;> simp [gIn_int (hr _), gIn_none (hr _), goT, wo, goneIn, thT, h1, h2, hl, textLine]
theorem without_for {w : List Th} {ns : List Int} (hw : w.length ≤ 1000) : ∃ v3 v4 v5, l__law_without_1 [some (.bor (wT w)), some (.bor (nsT ns)), some (.lab 0), none, none, none] [some (.lst [])] = some (.nx [some (.bor (wT w)), some (.bor (nsT ns)), some (.lab 0), v3, v4, v5] [some (.lst (((WO w ns).map thT).map .t))]) := by
  have hlen : ((w.map thT).map Val.t).length = w.length := by simp
  obtain ⟨env', mu', e1, found, v3, v4, v5, rfl, rfl, hf⟩ := sFor_inv (it := iLst (eVar 0)) (t := gtTup 3 (gtCons (gtName 3) (gtCons (gtName 4) (gtCons (gtName 5) gtNil)))) (body := A_lb__law_without_1) (items := (w.map thT).map .t) (env := [some (.bor (wT w)), some (.bor (nsT ns)), some (.lab 0), none, none, none]) (mu := [some (.lst [])]) (mu1 := [some (.lst [])])
    (fun i env mu => ∃ (found : List T) (v3 v4 v5 : Option Val), env = [some (.bor (wT w)), some (.bor (nsT ns)), some (.lab 0), v3, v4, v5] ∧ mu = [some (.lst (found.map .t))] ∧ found = (WO (w.take i) ns).map thT) (by simp [wT]) ⟨[], none, none, none, rfl, rfl, rfl⟩ (fun i v env mu hi hI => by
      obtain ⟨found, v3, v4, v5, rfl, rfl, hf⟩ := hI
      rw [List.getElem?_map, List.getElem?_map] at hi
      cases ht : w[i]? with
      | none => rw [ht] at hi; cases hi
      | some t =>
        rw [ht] at hi
        cases hi
        have fl : found.length < 100000 := by
          rw [hf]; unfold WO
          rw [List.length_map]
          refine Nat.lt_of_le_of_lt (List.length_filterMap_le _ _) ?_
          rw [List.length_take]; omega
        refine ⟨[some (.bor (wT w)), some (.bor (nsT ns)), some (.lab 0), some (.t (.str t.s)), some (.t (.int t.put)), some (.t (goT t.gone))], _, _, by simp [thT], without_b fl, _, _, _, _, rfl, rfl, ?_⟩
        have e1 : w.take (i + 1) = w.take i ++ [t] := by
          rw [List.take_add_one, ht]; rfl
        rw [hf, e1]
        unfold WO
        rw [List.filterMap_append, List.map_append]
        cases hs : wo ns t <;> simp [hs])
  rw [hlen, List.take_length] at hf
  subst hf
  exact ⟨v3, v4, v5, e1⟩
theorem without_ok (w : List Th) (ns : List Int) (hw : w.length ≤ 1000) : m__law_without [.b (wT w), .b (nsT ns)] = some (.fr (.lst (((WO w ns).map thT).map .t)), []) := by
  obtain ⟨v3, v4, v5, e⟩ := without_for (w := w) (ns := ns) hw
  show fnS 2 6 (A_b__law_without l__law_without_1) _ = _
  generalize l__law_without_1 = L at e
  unfold A_b__law_without
  unfold wT nsT at e ⊢
  simp at e
  simp [e, textLine]
end HdK

set_option Elab.async false
set_option linter.all false
set_option maxRecDepth 100000
set_option maxHeartbeats 4000000
namespace HdK
open PySem PySem.Spec PyProof.Rows L2 Vi
/-! ### doors -/
theorem is_whole_ok (v : Int) : m_is_whole [.b (.int v)] = some (.v (.bool true), []) := by
  show fnS 1 1 A_b_is_whole _ = _
  unfold A_b_is_whole
  simp
theorem is_count_A {M : FnS} {v l : Int} (h : M [.b (.int v)] = some (.v (.bool true), [])) : fnS 2 2 (A_b_is_count M) [.b (.int v), .b (.int l)] = some (.v (.bool (decide (max l 0 ≤ v))), []) := by
  unfold A_b_is_count
  simp [h]
theorem is_count_ok {v l : Int} (h : max l 0 ≤ v) : m_is_count [.b (.int v), .b (.int l)] = some (.v (.bool true), []) := by
  have := is_count_A (l := l) (is_whole_ok v)
  rw [decide_eq_true h] at this
  exact this
theorem tuple3_ok (ds : List T) (h : ds.length = 3) : m_is_tuple_of [.b (.tuple ds), .b (.int 3)] = some (.v (.bool true), []) := by
  show fnS 2 2 A_b_is_tuple_of _ = _
  unfold A_b_is_tuple_of
  simp [h]
theorem check_count_A {M : FnS} {v : Int} (h : M [.b (.int v), .b (.int 0)] = some (.v (.bool true), [])) : fnS 3 3 (A_b_check_count M) [.b (.int v), .b (.int 0), .b .none] = some (.v .none, []) := by
  unfold A_b_check_count
  simp [h]
theorem check_count_ok {v : Int} (h : 0 ≤ v) : m_check_count [.b (.int v), .b (.int 0), .b .none] = some (.v .none, []) := check_count_A (is_count_ok (by omega))
/-! ### weaves -/
theorem is_thread_A {M1 M2 M3 : FnS} {t : Th} (e1 : M1 [.b (thT t), .b (.int 3)] = some (.v (.bool true), [])) (e2 : M2 [.b (.str t.s)] = some (.v (.bool true), [])) (e3 : M3 [.b (.int t.put), .b (.int 0)] = some (.v (.bool true), []))
    (e4 : ∀ g, t.gone = some g → M3 [.b (.int g), .b (.int (t.put + 1))] = some (.v (.bool true), [])) : fnS 1 1 (A_b_is_thread M1 M2 M3) [.b (thT t)] = some (.v (.bool true), []) := by
  obtain ⟨s, p, g⟩ := t
  unfold A_b_is_thread
  unfold thT at e1 ⊢
  cases g with
  | none =>
    simp only [goT] at e1 ⊢
    dsimp only at e2 e3
    simp [e1, e2, e3, atI, ixN]
  | some g =>
    have e4 := e4 g rfl
    simp only [goT] at e1 ⊢
    dsimp only at e2 e3 e4
    simp [e1, e2, e3, e4, atI, ixN]
theorem is_thread_ok {b : Int} {t : Th} (h : ThOk b t) : m_is_thread [.b (thT t)] = some (.v (.bool true), []) := by
  have h0 := h.p0
  exact is_thread_A (M1 := m_is_tuple_of) (M2 := m_is_line) (M3 := m_is_count) (tuple3_ok _ rfl) (is_line_ok h.ln) (is_count_ok (by omega)) fun g hg => is_count_ok (by have := h.g g hg; omega)
theorem is_weave_l {M : FnS} {w : List Th} (hw : w.length ≤ 1000) (h : ∀ t ∈ w, M [.b (thT t)] = some (.v (.bool true), [])) : A_l_is_weave_1 (A_lm_is_weave_1 M) [some (.bor (wT w)), none] [] = some (.lst ((w.map fun _ => true).map (Val.t ∘ PyData.bool)), []) := by
  unfold A_l_is_weave_1
  refine all_ok thT (fun _ => true) (by simp [wT]) (by decide) (fun t ht => ⟨_, rfl, ?_⟩) (by unfold textLine; omega)
  have := h t ht
  unfold A_lm_is_weave_1
  unfold thT at this ⊢
  simp [this]
theorem is_weave_A {L : Fx} {w : List Th} (h : L [some (.bor (wT w)), none] [] = some (.lst ((w.map fun _ => true).map (Val.t ∘ PyData.bool)), [])) : fnS 1 2 (A_b_is_weave L) [.b (wT w)] = some (.v (.bool true), []) := by
  unfold A_b_is_weave
  have e : ((w.map fun _ => true).all id) = true := by simp
  generalize (w.map fun _ => true) = bs at h e
  unfold wT at h ⊢
  have h1 : ["list"].any (isB "list") = true := rfl
  simp [h]
  simpa using e
def W (b : Int) (w : List Th) : Prop := w.length ≤ 1000 ∧ ∀ t ∈ w, ThOk b t
theorem is_weave_ok {b : Int} {w : List Th} (h : W b w) : m_is_weave [.b (wT w)] = some (.v (.bool true), []) :=
  is_weave_A (L := l_is_weave_1) (is_weave_l (M := m_is_thread) h.1 fun t ht => is_thread_ok (h.2 t ht))
theorem check_weave_A {M : FnS} {d : T} (h : M [.b d] = some (.v (.bool true), [])) (hd : ∃ ds, d = .list ds) : fnS 1 1 (A_b_check_weave M) [.b d] = some (.v .none, []) := by
  obtain ⟨ds, rfl⟩ := hd
  unfold A_b_check_weave
  simp [h]
theorem check_weave_ok {b : Int} {w : List Th} (h : W b w) : m_check_weave [.b (wT w)] = some (.v .none, []) := check_weave_A (is_weave_ok h) ⟨_, rfl⟩
structure NsOk (ns : List Int) : Prop where
  nd : ns.Nodup
  ge : ∀ n ∈ ns, 1 ≤ n
  len : ns.length ≤ 4000
theorem check_numbers_l {M : FnS} {ns : List Int} (hn : ns.length ≤ 4000) (h : ∀ n ∈ ns, M [.b (.int n), .b (.int 1)] = some (.v (.bool true), [])) : A_l_check_numbers_1 (A_lm_check_numbers_1 M) [some (.bor (nsT ns)), none] [] = some (.lst ((ns.map fun _ => true).map (Val.t ∘ PyData.bool)), []) := by
  unfold A_l_check_numbers_1
  refine all_ok PyData.int (fun _ => true) (by simp [nsT]) (by decide) (fun t ht => ⟨_, rfl, ?_⟩) (by unfold textLine; omega)
  have := h t ht
  unfold A_lm_check_numbers_1
  simp [this]
theorem check_numbers_A {L : Fx} {ns : List Int} (hl : ns.length ≤ 4000) (hd : ns.Nodup) (h : L [some (.bor (nsT ns)), none] [] = some (.lst ((ns.map fun _ => true).map (Val.t ∘ PyData.bool)), [])) : fnS 1 2 (A_b_check_numbers L) [.b (nsT ns)] = some (.v .none, []) := by
  unfold A_b_check_numbers
  have e : ((ns.map fun _ => true).all id) = true := by simp
  have e2 := distinct_nodup hd
  generalize (ns.map fun _ => true) = bs at h e
  unfold nsT at h ⊢
  have h1 : ["list"].any (isB "list") = true := rfl
  have e3 : (∀ x ∈ bs, x = true) := by simpa using e
  have e4 : bs.all id = true := e
  simp [h, e2, hl, e4]
theorem check_numbers_ok {ns : List Int} (h : NsOk ns) : m_check_numbers [.b (nsT ns)] = some (.v .none, []) :=
  check_numbers_A (L := l_check_numbers_1) h.len h.nd (check_numbers_l (M := m_is_count) h.len fun n hn => is_count_ok (by have := h.ge n hn; omega))
end HdK

set_option Elab.async false
set_option linter.all false
set_option maxRecDepth 100000
set_option maxHeartbeats 4000000
namespace HdK
open PySem PySem.Spec PyProof.Rows L2 Vi
/-! ### left out -/
theorem all_left_l {w : List Th} {ns : List Int} (hw : w.length ≤ 1000) : A_l_all_left_out_1 A_lc_all_left_out_1 A_lm_all_left_out_1 [some (.bor (wT w)), some (.bor (nsT ns)), none, none, none] [] = some (.lst (((WO w ns).map thT).map .t), []) := by
  have e : (WO w ns).map thT = w.filterMap fun t => (wo ns t).map thT := by
    unfold WO
    rw [List.map_filterMap]
  rw [e]
  unfold A_l_all_left_out_1
  refine fComp_ok thT (fun t => (wo ns t).map thT) (by simp [wT]) (by decide) (fun t ht => ⟨[some (.bor (wT w)), some (.bor (nsT ns)), some (.t (.str t.s)), some (.t (.int t.put)), some (.t (goT t.gone))], by simp [thT], ?_⟩) (by unfold textLine; omega)
  have hr : ∀ mu, rd (.bor (nsT ns)) mu = some (.list (ns.map .int)) := fun _ => rfl
  obtain ⟨s, p, g⟩ := t
  unfold A_lc_all_left_out_1 A_lm_all_left_out_1
  by_cases h1 : p ∈ ns
  · simp [wo, h1, gIn_int (hr _)]
  · cases g with
    | none => simp [wo, h1, gIn_int (hr _), gIn_none (hr _), goT, goneIn, thT, textLine]
    | some g => by_cases h2 : g ∈ ns <;> simp [wo, h1, h2, gIn_int (hr _), gIn_none (hr _), goT, goneIn, thT, textLine]
theorem all_left_A {L : Fx} {w w' : List Th} {ns : List Int} (h : L [some (.bor (wT w)), some (.bor (nsT ns)), none, none, none] [] = some (.lst ((w'.map thT).map .t), [])) : fnS 2 5 (A_b_all_left_out L) [.b (wT w), .b (nsT ns)] = some (.fr (.lst ((w'.map thT).map .t)), []) := by
  unfold A_b_all_left_out
  unfold wT nsT at h ⊢
  simp at h
  simp [h]
theorem all_left_ok {w : List Th} {ns : List Int} (hw : w.length ≤ 1000) : m_all_left_out [.b (wT w), .b (nsT ns)] = some (.fr (.lst (((WO w ns).map thT).map .t)), []) := all_left_A (L := l_all_left_out_1) (all_left_l hw)
theorem left_out_A {M1 M2 M3 : FnS} {w w' : List Th} {ns : List Int} (e1 : M1 [.b (wT w)] = some (.v .none, [])) (e2 : M2 [.b (nsT ns)] = some (.v .none, [])) (e3 : M3 [.b (wT w), .b (nsT ns)] = some (.fr (.lst ((w'.map thT).map .t)), [])) :
    fnS 2 2 (A_b_left_out M1 M2 M3) [.b (wT w), .b (nsT ns)] = some (.fr (.lst ((w'.map thT).map .t)), []) := by
  unfold A_b_left_out
  unfold wT at e1 e3 ⊢
  unfold nsT at e2 e3 ⊢
  simp at e3
  simp [e1, e2, e3]
theorem left_out_ok {b : Int} {w : List Th} {ns : List Int} (hw : W b w) (hn : NsOk ns) : m_left_out [.b (wT w), .b (nsT ns)] = some (.fr (.lst (((WO w ns).map thT).map .t)), []) :=
  left_out_A (M1 := m_check_weave) (M2 := m_check_numbers) (M3 := m_all_left_out) (check_weave_ok hw) (check_numbers_ok hn) (all_left_ok hw.1)
/-! ### lines at -/
theorem stands_at_ok (t : Th) (k : Int) : m_stands_at [.b (thT t), .b (.int k)] = some (.v (.bool (t.stands k)), []) := by
  show fnS 2 2 A_b_stands_at _ = _
  obtain ⟨s, p, g⟩ := t
  unfold A_b_stands_at
  cases g with
  | none => by_cases h1 : p ≤ k <;> simp [thT, goT, Th.stands, atI, ixN, h1]
  | some g => by_cases h1 : p ≤ k <;> by_cases h2 : k < g <;> simp [thT, goT, Th.stands, atI, ixN, h1, h2]
theorem lines_at_l {M : FnS} {w : List Th} {k : Int} (hw : w.length ≤ 1000) (h : ∀ t, M [.b (thT t), .b (.int k)] = some (.v (.bool (t.stands k)), [])) : A_l_lines_at_1 (A_lc_lines_at_1 M) A_lm_lines_at_1 [some (.bor (wT w)), some (.t (.int k)), none] [] = some (.lst ((AT w k).map .t), []) := by
  have e : AT w k = w.filterMap fun t => if t.stands k then some (PyData.str t.s) else none := by
    unfold AT
    induction w with
    | nil => rfl
    | cons t w ih =>
      have ih := ih (by simp at hw; omega)
      rw [List.filterMap_cons, List.filter_cons]
      by_cases hs : t.stands k = true
      · rw [if_pos hs, if_pos hs, List.map_cons, ih]
      · rw [if_neg hs, if_neg hs, ih]
  rw [e]
  unfold A_l_lines_at_1
  refine fComp_ok thT (fun t => if t.stands k then some (PyData.str t.s) else none) (by simp [wT]) (by decide) (fun t ht => ⟨_, rfl, ?_⟩) (by unfold textLine; omega)
  have := h t
  unfold A_lc_lines_at_1 A_lm_lines_at_1
  generalize t.stands k = z at this
  unfold thT at this ⊢
  cases z <;> simp [this, atI, ixN]
theorem lines_at_A {M1 M2 : FnS} {L : Fx} {w : List Th} {k : Int} {ls : List T} (e1 : M1 [.b (wT w)] = some (.v .none, [])) (e2 : M2 [.b (.int k), .b (.int 0), .b .none] = some (.v .none, [])) (e3 : L [some (.bor (wT w)), some (.t (.int k)), none] [] = some (.lst (ls.map .t), [])) :
    fnS 2 3 (A_b_lines_at M1 M2 L) [.b (wT w), .b (.int k)] = some (.fr (.lst (ls.map .t)), []) := by
  unfold A_b_lines_at
  unfold wT at e1 e3 ⊢
  simp [e1, e2, e3]
theorem lines_at_ok {b : Int} {w : List Th} {k : Int} (hw : W b w) (hk : 0 ≤ k) : m_lines_at [.b (wT w), .b (.int k)] = some (.fr (.lst ((AT w k).map .t)), []) :=
  lines_at_A (M1 := m_check_weave) (M2 := m_check_count) (L := l_lines_at_1) (check_weave_ok hw) (check_count_ok hk) (lines_at_l (M := m_stands_at) hw.1 fun t => stands_at_ok t k)
/-! ### the greatest number -/
def GN (w : List Th) : Int := mxL (0 :: w.map fun t => t.gone.getD t.put)
theorem greatest_l {w : List Th} (hw : w.length ≤ 1000) : A_l_greatest_number_1 A_lm_greatest_number_1 [some (.bor (wT w)), none, none, none] [] = some (.lst ((w.map fun t => PyData.int (t.gone.getD t.put)).map .t), []) := by
  unfold A_l_greatest_number_1
  refine fComp_map thT (fun t => PyData.int (t.gone.getD t.put)) (by simp [wT]) (by decide) (fun t ht => ⟨[some (.bor (wT w)), some (.t (.str t.s)), some (.t (.int t.put)), some (.t (goT t.gone))], by simp [thT], ?_⟩) (by unfold textLine; omega)
  obtain ⟨s, p, g⟩ := t
  unfold A_lm_greatest_number_1
  cases g <;> simp [goT]
theorem greatest_A {L : Fx} {w : List Th} {xs : List Int} (hx : xs.length ≤ 1000) (h : L [some (.bor (wT w)), none, none, none] [] = some (.lst ((xs.map PyData.int).map .t), [])) : fnS 1 4 (A_b_greatest_number L) [.b (wT w)] = some (.v (.int (mxL (0 :: xs))), []) := by
  unfold A_b_greatest_number
  unfold wT at h ⊢
  simp at h
  have q : 1 + xs.length ≤ 100000 := by omega
  have q2 : xs.length + 1 ≤ 100000 := by omega
  simp [h, textLine, q, q2]
theorem greatest_ok {w : List Th} (hw : w.length ≤ 1000) : m_greatest_number [.b (wT w)] = some (.v (.int (GN w)), []) := by
  refine greatest_A (L := l_greatest_number_1) (xs := w.map fun t => t.gone.getD t.put) (by simpa using hw) ?_
  have := greatest_l hw
  rw [show (w.map fun t => PyData.int (t.gone.getD t.put)) = (w.map fun t => t.gone.getD t.put).map PyData.int by rw [List.map_map]; rfl] at this
  exact this
theorem last_change_A {M1 M2 : FnS} {w : List Th} {g : Int} (e1 : M1 [.b (wT w)] = some (.v .none, [])) (e2 : M2 [.b (wT w)] = some (.v (.int g), [])) : fnS 1 1 (A_b_last_change M1 M2) [.b (wT w)] = some (.v (.int g), []) := by
  unfold A_b_last_change
  unfold wT at e1 e2 ⊢
  simp [e1, e2]
theorem last_change_ok {b : Int} {w : List Th} (hw : W b w) : m_last_change [.b (wT w)] = some (.v (.int (GN w)), []) := last_change_A (M1 := m_check_weave) (M2 := m_greatest_number) (check_weave_ok hw) (greatest_ok hw.1)
def LS (w : List Th) : Int := mxL (0 :: (w.map (·.put) ++ w.filterMap (·.gone)))
theorem last_l1 {w : List Th} (hw : w.length ≤ 1000) : A_l__law_last_1 A_lm__law_last_1 [some (.bor (wT w)), none] [] = some (.lst (((w.map (·.put)).map PyData.int).map .t), []) := by
  unfold A_l__law_last_1
  rw [show (w.map (·.put)).map PyData.int = w.map (PyData.int ∘ (·.put)) by rw [List.map_map]]
  refine fComp_map thT (PyData.int ∘ (·.put)) (by simp [wT]) (by decide) (fun t ht => ⟨_, rfl, ?_⟩) (by unfold textLine; omega)
  unfold A_lm__law_last_1
  simp [thT, atI, ixN]
theorem last_l2 {w : List Th} (hw : w.length ≤ 1000) : A_l__law_last_2 A_lc__law_last_2 A_lm__law_last_2 [some (.bor (wT w)), none] [] = some (.lst (((w.filterMap (·.gone)).map PyData.int).map .t), []) := by
  unfold A_l__law_last_2
  have e : (w.filterMap (·.gone)).map PyData.int = w.filterMap fun t => t.gone.map PyData.int := by rw [List.map_filterMap]
  rw [e]
  refine fComp_ok thT (fun t => t.gone.map PyData.int) (by simp [wT]) (by decide) (fun t ht => ⟨_, rfl, ?_⟩) (by unfold textLine; omega)
  obtain ⟨s, p, g⟩ := t
  unfold A_lc__law_last_2 A_lm__law_last_2
  cases g <;> simp [thT, goT, atI, ixN]
theorem last_A {L1 L2 : Fx} {w : List Th} {xs ys : List Int} (hx : xs.length ≤ 1000) (hy : ys.length ≤ 1000) (h1 : L1 [some (.bor (wT w)), none] [] = some (.lst ((xs.map PyData.int).map .t), [])) (h2 : L2 [some (.bor (wT w)), none] [] = some (.lst ((ys.map PyData.int).map .t), [])) :
    fnS 1 2 (A_b__law_last L1 L2) [.b (wT w)] = some (.v (.int (mxL (0 :: (xs ++ ys)))), []) := by
  unfold A_b__law_last
  unfold wT at h1 h2 ⊢
  simp at h1 h2
  have q : 1 + xs.length ≤ 100000 := by omega
  have q2 : xs.length + 1 ≤ 100000 := by omega
  have q3 : xs.length + 1 + ys.length ≤ 100000 := by omega
  have q4 : xs.length + ys.length + 1 ≤ 100000 := by omega
  simp [h1, h2, textLine, q, q2, q3, q4]
theorem last_ok {w : List Th} (hw : w.length ≤ 1000) : m__law_last [.b (wT w)] = some (.v (.int (LS w)), []) :=
  last_A (L1 := l__law_last_1) (L2 := l__law_last_2) (by simpa using hw) (Nat.le_trans (List.length_filterMap_le _ _) hw) (last_l1 hw) (last_l2 hw)
/-! ### lines by -/
def others (ns : List Int) (g : Int) : List Int := (rangeI 1 g.toNat).filter fun k => !ns.contains k
def LB (w : List Th) (ns : List Int) : List T := (WO w (others ns (GN w))).filterMap fun t => if t.gone = none then some (PyData.str t.s) else none
theorem joined_l {one other : List Int} (ho : other.length ≤ 10000) : A_l__law_joined_1 A_lc__law_joined_1 A_lm__law_joined_1 [some (.t (nsT one)), some (.bor (nsT other)), none] [] = some (.lst (((other.filter fun k => !one.contains k).map PyData.int).map .t), []) := by
  unfold A_l__law_joined_1
  have e : (other.filter fun k => !one.contains k).map PyData.int = other.filterMap fun k => if one.contains k then none else some (PyData.int k) := by
    induction other with
    | nil => rfl
    | cons k ks ih =>
      have ih := ih (by simp at ho; omega)
      by_cases hs : one.contains k = true
      · rw [List.filter_cons_of_neg (by simp at hs; simp [hs]), ih, List.filterMap_cons, if_pos hs]
      · rw [List.filter_cons_of_pos (by simp at hs; simp [hs]), List.map_cons, ih, List.filterMap_cons, if_neg hs]
  rw [e]
  refine fComp_ok PyData.int (fun k => if one.contains k then none else some (PyData.int k)) (by simp [nsT]) (by decide) (fun k hk => ⟨_, rfl, ?_⟩) (by unfold textLine; omega)
  have hr : ∀ mu, rd (.t (nsT one)) mu = some (.list (one.map .int)) := fun _ => rfl
  unfold A_lc__law_joined_1 A_lm__law_joined_1
  by_cases h1 : k ∈ one <;> simp [h1, gIn_int (hr _)]
def JN (one other : List Int) : List Int := one ++ other.filter fun k => !one.contains k
theorem joined_A {L : Fx} {one other ks : List Int} (h1 : one.length ≤ 10000) (h2 : ks.length ≤ 10000) (h : L [some (.t (nsT one)), some (.bor (nsT other)), none] [] = some (.lst ((ks.map PyData.int).map .t), [])) : fnS 2 3 (A_b__law_joined L) [.f (nsT one), .b (nsT other)] = some (.fr (.lst (((one ++ ks).map PyData.int).map .t)), []) := by
  unfold A_b__law_joined
  unfold nsT at h ⊢
  simp at h
  have q : one.length + ks.length ≤ 100000 := by omega
  simp [h, textLine, q]
theorem joined_ok {one other : List Int} (h1 : one.length ≤ 10000) (h2 : other.length ≤ 10000) : m__law_joined [.f (nsT one), .b (nsT other)] = some (.fr (.lst (((JN one other).map PyData.int).map .t)), []) :=
  joined_A (L := l__law_joined_1) h1 (Nat.le_trans (List.length_filter_le _ _) h2) (joined_l h2)
end HdK

set_option Elab.async false
set_option linter.all false
set_option maxRecDepth 100000
set_option maxHeartbeats 4000000
namespace HdK
open PySem PySem.Spec PyProof.Rows L2 Vi
theorem lines_by_it {M : FnS} {w : List Th} {g : Int} {env : En} (h0 : env[0]? = some (some (.bor (wT w)))) (h : M [.b (wT w)] = some (.v (.int g), [])) (g0 : 0 ≤ g) (g1 : g ≤ 1000) :
    iRng2 (aCons (eC (.int 1)) (aCons (eOp gAdd (eRet (rCall M [.b] (aCons (eVar 0) aNil))) (eC (.int 1))) aNil)) env [] = some ((rangeI 1 g.toNat).map (Val.t ∘ PyData.int), []) := by
  have q1 : -4611686018427387904 ≤ g + 1 := by omega
  have q2 : g + 1 < 4611686018427387904 := by omega
  have e : (g + 1 - 1).toNat = g.toNat := by omega
  unfold wT at h h0
  simp [h, h0, gR2_ok, q1, q2, e, rangeL_eq]
theorem others_eq (ns : List Int) (xs : List Int) : (xs.filter fun k => !ns.contains k).map PyData.int = xs.filterMap fun k => if ns.contains k then none else some (PyData.int k) := by
  induction xs with
  | nil => rfl
  | cons k ks ih =>
    rw [List.filterMap_cons, List.filter_cons]
    by_cases hs : ns.contains k = true
    · rw [if_pos hs, if_neg (by rw [hs]; decide), ih]
    · have hs' : ns.contains k = false := by simpa using hs
      rw [if_neg hs, if_pos (by rw [hs']; rfl), List.map_cons, ih]
theorem lines_by_l1 {M : FnS} {w : List Th} {ns : List Int} {g : Int} (h : M [.b (wT w)] = some (.v (.int g), [])) (g0 : 0 ≤ g) (g1 : g ≤ 1000) :
    A_l_lines_by_1 M A_lc_lines_by_1 A_lm_lines_by_1 [some (.bor (wT w)), some (.bor (nsT ns)), none, none, none, none, none] [] = some (.lst (((others ns g).map PyData.int).map .t), []) := by
  unfold others
  rw [others_eq]
  unfold A_l_lines_by_1
  refine fComp_ok PyData.int (fun k => if ns.contains k then none else some (PyData.int k)) (lines_by_it rfl h g0 g1) (by decide) (fun k hk => ⟨[some (.bor (wT w)), some (.bor (nsT ns)), none, some (.t (.int k)), none, none, none], rfl, ?_⟩) (by rw [rangeI_length]; unfold textLine; omega)
  have hr : ∀ mu, rd (.bor (nsT ns)) mu = some (.list (ns.map .int)) := fun _ => rfl
  unfold A_lc_lines_by_1 A_lm_lines_by_1
  by_cases h1 : k ∈ ns <;> simp [h1, gIn_int (hr _)]
theorem lines_by_l2 {M : FnS} {w w' : List Th} {ns os : List Int} (hw : w'.length ≤ 1000) (h : M [.b (wT w), .b (nsT os)] = some (.fr (.lst ((w'.map thT).map .t)), [])) :
    A_l_lines_by_2 M A_lc_lines_by_2 A_lm_lines_by_2 [some (.bor (wT w)), some (.bor (nsT ns)), some (.t (nsT os)), none, none, none, none] [] = some (.lst ((w'.filterMap fun t => if t.gone = none then some (PyData.str t.s) else none).map .t), []) := by
  unfold A_l_lines_by_2
  refine fComp_ok thT (fun t => if t.gone = none then some (PyData.str t.s) else none) ?_ (by decide) (fun t ht => ⟨[some (.bor (wT w)), some (.bor (nsT ns)), some (.t (nsT os)), none, some (.t (.str t.s)), some (.t (.int t.put)), some (.t (goT t.gone))], by simp [thT], ?_⟩) (by unfold textLine; omega)
  · unfold wT nsT at h ⊢
    simp at h
    simp [h]
  · obtain ⟨s, p, g⟩ := t
    unfold A_lc_lines_by_2 A_lm_lines_by_2
    cases g <;> simp [goT]
theorem lines_by_A {M1 M2 : FnS} {L1 L2 : Fx} {w : List Th} {ns os : List Int} {ls : List T} (e1 : M1 [.b (wT w)] = some (.v .none, [])) (e2 : M2 [.b (nsT ns)] = some (.v .none, []))
    (e3 : L1 [some (.bor (wT w)), some (.bor (nsT ns)), none, none, none, none, none] [] = some (.lst ((os.map PyData.int).map .t), []))
    (e4 : L2 [some (.bor (wT w)), some (.bor (nsT ns)), some (.t (nsT os)), none, none, none, none] [] = some (.lst (ls.map .t), [])) :
    fnS 2 7 (A_b_lines_by M1 M2 L1 L2) [.b (wT w), .b (nsT ns)] = some (.fr (.lst (ls.map .t)), []) := by
  unfold A_b_lines_by
  unfold wT at e1 e3 e4 ⊢
  unfold nsT at e2 e3 e4 ⊢
  simp at e3
  simp [e1, e2, e3, e4]
theorem mxL_ge {xs : List Int} {x : Int} (h : x ∈ xs) : x ≤ mxL xs := (mxL_mem (List.ne_nil_of_mem h)).2 x h
theorem mxL_le {xs : List Int} {b : Int} (hne : xs ≠ []) (h : ∀ x ∈ xs, x ≤ b) : mxL xs ≤ b := h _ (mxL_mem hne).1
theorem GN_pos (w : List Th) : 0 ≤ GN w := mxL_ge (List.mem_cons_self ..)
theorem GN_le {b : Int} {w : List Th} (hb : 0 ≤ b) (h : ∀ t ∈ w, ThOk b t) : GN w ≤ b := by
  refine mxL_le (by simp) fun x hx => ?_
  rcases List.mem_cons.mp hx with rfl | hx
  · exact hb
  · obtain ⟨t, ht, rfl⟩ := List.mem_map.mp hx
    have h1 := h t ht
    cases e : t.gone with
    | none => exact h1.pb
    | some g => exact (h1.g g e).2
theorem LS_GN {b : Int} {w : List Th} (h : ∀ t ∈ w, ThOk b t) : LS w = GN w := by
  refine Int.le_antisymm (mxL_le (by simp) fun x hx => ?_) (mxL_le (by simp) fun x hx => ?_)
  · rcases List.mem_cons.mp hx with rfl | hx
    · exact GN_pos w
    · rcases List.mem_append.mp hx with hx | hx
      · obtain ⟨t, ht, rfl⟩ := List.mem_map.mp hx
        have h2 : t.gone.getD t.put ≤ GN w := mxL_ge (List.mem_cons_of_mem _ (List.mem_map.mpr ⟨t, ht, rfl⟩))
        cases e : t.gone with
        | none => rw [e] at h2; exact h2
        | some g =>
          rw [e] at h2
          have := ((h t ht).g g e).1
          simp at h2
          omega
      · obtain ⟨t, ht, e⟩ := List.mem_filterMap.mp hx
        have h2 : t.gone.getD t.put ≤ GN w := mxL_ge (List.mem_cons_of_mem _ (List.mem_map.mpr ⟨t, ht, rfl⟩))
        rw [e] at h2
        exact h2
  · rcases List.mem_cons.mp hx with rfl | hx
    · exact mxL_ge (List.mem_cons_self ..)
    · obtain ⟨t, ht, rfl⟩ := List.mem_map.mp hx
      refine mxL_ge (List.mem_cons_of_mem _ (List.mem_append.mpr ?_))
      cases e : t.gone with
      | none => exact .inl (List.mem_map.mpr ⟨t, ht, rfl⟩)
      | some g => exact .inr (List.mem_filterMap.mpr ⟨t, ht, e⟩)
theorem WO_len (w : List Th) (ns : List Int) : (WO w ns).length ≤ w.length := List.length_filterMap_le _ _
theorem lines_by_ok {w : List Th} {ns : List Int} (hw : W 100 w) (hn : NsOk ns) : m_lines_by [.b (wT w), .b (nsT ns)] = some (.fr (.lst ((LB w ns).map .t)), []) :=
  lines_by_A (M1 := m_check_weave) (M2 := m_check_numbers) (L1 := l_lines_by_1) (L2 := l_lines_by_2) (check_weave_ok hw) (check_numbers_ok hn) (lines_by_l1 (M := m_greatest_number) (greatest_ok hw.1) (GN_pos w) (by have := GN_le (by omega) hw.2; omega))
    (lines_by_l2 (M := m_all_left_out) (Nat.le_trans (WO_len _ _) hw.1) (all_left_ok hw.1))
/-! ### plain, same -/
def okD : Nat → T → Bool
  | 0, _ => false
  | n + 1, .list ds => decide (ds.length ≤ 10000) && ds.all (okD n)
  | n + 1, .tuple ds => decide (ds.length ≤ 10000) && ds.all (okD n)
  | _ + 1, .dict _ => false
  | _ + 1, _ => true
def plR : T → Ret
  | .list ds => .fr (.lst (ds.map .t))
  | d => .v d
theorem plain_l1 {S : FnS} {ds : List T} (hl : ds.length ≤ 10000) (h : ∀ d ∈ ds, S [.b d] = some (plR d, [])) : A_l__law_plain_1 A_lm__law_plain_1 S [some (.bor (.list ds)), none, none] [] = some (.lst (ds.map .t), []) := by
  unfold A_l__law_plain_1
  have := fComp_map (it := iLst (eVar 0)) (t := .nm 1) (vs := [1]) (m := A_lm__law_plain_1 S) (env := [some (.bor (.list ds)), none, none]) (mu := []) (mu1 := []) (as := ds) id id (by simp) (by decide) (fun d hd => ⟨_, rfl, by
    have := h d hd
    unfold A_lm__law_plain_1
    cases d <;> simp [plR] at this <;> simp [this]⟩) (by unfold textLine; omega)
  simpa using this
theorem plain_l2 {S : FnS} {ds : List T} (hl : ds.length ≤ 10000) (h : ∀ d ∈ ds, S [.b d] = some (plR d, [])) : A_l__law_plain_2 A_lm__law_plain_2 S [some (.t (.tuple ds)), none, none] [] = some (.lst (ds.map .t), []) := by
  unfold A_l__law_plain_2
  have := fComp_map (it := iTpl (eVar 0)) (t := .nm 1) (vs := [1]) (m := A_lm__law_plain_2 S) (env := [some (.t (.tuple ds)), none, none]) (mu := []) (mu1 := []) (as := ds) id id (by simp) (by decide) (fun d hd => ⟨_, rfl, by
    have := h d hd
    unfold A_lm__law_plain_2
    cases d <;> simp [plR] at this <;> simp [this]⟩) (by unfold textLine; omega)
  simpa using this
theorem plain_A {L1 L2 : FnS → Fx} {S : FnS} {d : T} (h1 : ∀ ds, d = .list ds → L1 S [some (.bor (.list ds)), none, none] [] = some (.lst (ds.map .t), [])) (h2 : ∀ ds, d = .tuple ds → L2 S [some (.t (.tuple ds)), none, none] [] = some (.lst (ds.map .t), [])) (hd : ∀ k, d ≠ .dict k) :
    fnS 1 3 (A_b__law_plain L1 L2 S) [.b d] = some (plR d, []) := by
  unfold A_b__law_plain
  cases d with
  | list ds => simp [h1 ds rfl, plR]
  | tuple ds => simp [h2 ds rfl, plR]
  | dict k => exact absurd rfl (hd k)
  | none => simp [plR]
  | bool b => simp [plR]
  | int i => simp [plR]
  | str s => simp [plR]
theorem plain_s (n : Nat) : m__law_plain (n + 1) = fnS 1 3 (A_b__law_plain l__law_plain_1 l__law_plain_2 (m__law_plain n)) := rfl
theorem plain_ok : ∀ (n : Nat) (d : T), okD n d = true → m__law_plain n [.b d] = some (plR d, [])
  | 0, d, h => by cases h
  | n + 1, d, h => by
    rw [plain_s]
    refine plain_A (d := d) (L1 := l__law_plain_1) (L2 := l__law_plain_2) (S := m__law_plain n) (fun ds e => ?_) (fun ds e => ?_) (fun k e => by subst e; cases h)
    · subst e
      simp only [okD, Bool.and_eq_true, decide_eq_true_eq, List.all_eq_true] at h
      exact plain_l1 h.1 fun d hd => plain_ok n d (h.2 d hd)
    · subst e
      simp only [okD, Bool.and_eq_true, decide_eq_true_eq, List.all_eq_true] at h
      exact plain_l2 h.1 fun d hd => plain_ok n d (h.2 d hd)
end HdK

set_option Elab.async false
set_option linter.all false
set_option maxRecDepth 100000
set_option maxHeartbeats 4000000
namespace HdK
open PySem PySem.Spec PyProof.Rows L2 Vi
theorem zipL_self (ds : List T) : zipL ds ds = ds.map (Val.t ∘ fun d => PyData.tuple [d, d]) := by
  unfold zipL
  induction ds with
  | nil => rfl
  | cons d ds ih => rw [List.zip_cons_cons, List.map_cons, ih]; rfl
theorem same_l {S : FnS} {ds : List T} {v : Val} {x2 : Option Val} (hv : v = .bor (.list ds) ∨ v = .t (.tuple ds)) (hl : ds.length ≤ 10000) (h : ∀ d ∈ ds, S [.b d, .b d] = some (.v (.bool true), [])) :
    A_l__law_same_1 A_lm__law_same_1 S [some v, some v, x2, none, none, none] [] = some (.lst ((ds.map fun _ => true).map (Val.t ∘ PyData.bool)), []) := by
  unfold A_l__law_same_1
  refine all_ok (fun d => PyData.tuple [d, d]) (fun _ => true) ?_ (by decide) (fun d hd => ⟨[some v, some v, x2, none, some (.t d), some (.t d)], by simp, ?_⟩) (by unfold textLine; omega)
  · rcases hv with rfl | rfl <;> simp [zipL_self]
  · have := h d hd
    unfold A_lm__law_same_1
    cases d <;> simp [this]
theorem eqB {neg a b : Bool} {mu : Mu} : gEq neg (.t (.bool a)) (.t (.bool b)) mu = some (.t (.bool (if neg then !(a == b) else a == b)), mu) := by
  simp only [gEq, rd, PyData.plain, PyData.depth, PyData.eqv]
  rfl
theorem eqS {a b : Str} {mu : Mu} : gEq false (.t (.str a)) (.t (.str b)) mu = some (.t (.bool (a == b)), mu) := by
  simp only [gEq, rd, PyData.plain, PyData.depth, PyData.eqv]
  rfl
theorem eqN {mu : Mu} : gEq false (.t .none) (.t .none) mu = some (.t (.bool true), mu) := by
  simp only [gEq, rd, PyData.plain, PyData.depth, PyData.eqv]
  rfl
theorem same_A {L : FnS → Fx} {S : FnS} {d : T} (h1 : ∀ ds, d = .list ds → ∀ x2, L S [some (.bor (.list ds)), some (.bor (.list ds)), x2, none, none, none] [] = some (.lst ((ds.map fun _ => true).map (Val.t ∘ PyData.bool)), []))
    (h2 : ∀ ds, d = .tuple ds → ∀ x2, L S [some (.t (.tuple ds)), some (.t (.tuple ds)), x2, none, none, none] [] = some (.lst ((ds.map fun _ => true).map (Val.t ∘ PyData.bool)), [])) (hd : ∀ k, d ≠ .dict k) :
    fnS 2 6 (A_b__law_same L S) [.b d, .b d] = some (.v (.bool true), []) := by
  unfold A_b__law_same
  cases d with
  | list ds =>
    have h1 := h1 ds rfl
    have e : ((ds.map fun _ => true).all id) = true := by simp
    generalize (ds.map fun _ => true) = bs at h1 e
    simp [h1, eqB, e]
  | tuple ds =>
    have h2 := h2 ds rfl
    have e : ((ds.map fun _ => true).all id) = true := by simp
    generalize (ds.map fun _ => true) = bs at h2 e
    simp [h2, eqB, e]
  | dict k => exact absurd rfl (hd k)
  | none => simp [eqB, eqN]
  | bool b => simp [eqB]
  | int i => simp [eqB]
  | str s => simp [eqB, eqS]
theorem same_s (n : Nat) : m__law_same (n + 1) = fnS 2 6 (A_b__law_same l__law_same_1 (m__law_same n)) := rfl
theorem same_ok : ∀ (n : Nat) (d : T), okD n d = true → m__law_same n [.b d, .b d] = some (.v (.bool true), [])
  | 0, d, h => by cases h
  | n + 1, d, h => by
    rw [same_s]
    refine same_A (d := d) (L := l__law_same_1) (S := m__law_same n) (fun ds e x2 => ?_) (fun ds e x2 => ?_) (fun k e => by subst e; cases h)
    · subst e
      simp only [okD, Bool.and_eq_true, decide_eq_true_eq, List.all_eq_true] at h
      exact same_l (.inl rfl) h.1 fun d hd => same_ok n d (h.2 d hd)
    · subst e
      simp only [okD, Bool.and_eq_true, decide_eq_true_eq, List.all_eq_true] at h
      exact same_l (.inr rfl) h.1 fun d hd => same_ok n d (h.2 d hd)
end HdK

set_option Elab.async false
set_option linter.all false
set_option maxRecDepth 100000
set_option maxHeartbeats 4000000
namespace HdK
open PySem PySem.Spec PyProof.Rows L2 Vi
theorem cutL_last {α : Type} (xs : List α) (x : α) : cutL (xs ++ [x]) none (some (-1)) = xs := by
  unfold cutL
  have e : HT.sIx (xs ++ [x]).length (xs ++ [x]).length (some (-1)) = xs.length := by
    unfold HT.sIx
    dsimp only
    rw [if_pos (by decide)]
    simp
    omega
  rw [e, HT.sIx_none, List.drop_zero, Nat.sub_zero]
  simp
theorem right_A {P S : Nat → FnS} {La N Wt J LO LBy At LC : FnS} {L1 : Sx} {L2' : Fx} {C C1 C2 : Cell} {ws o1 o2 jn jn2 d1 d2 e2 d3 os mi : List T} {g : Int} {v4 : Option Val}
    (p0 : Pure C = true) (p1 : Pure C1 = true) (p2 : Pure C2 = true) (hd1 : d1.length < 100000) (hmi : mi.length < 100000)
    (eP : P 12 [.b (.list ws)] = some (.fr (.lst (ws.map .t)), [])) (eLa : La [.b (.list ws)] = some (.v (.int g), []))
    (eN1 : N [.m C, .b (.int g)] = some (.fr (.lst (o1.map .t)), [C1])) (eN2 : N [.m C1, .b (.int g)] = some (.fr (.lst (o2.map .t)), [C2]))
    (eW1 : Wt [.b (.list ws), .b (.list o1)] = some (.fr (.lst (d1.map .t)), [])) (eW2 : Wt [.b (.list ws), .b (.list jn)] = some (.fr (.lst (d2.map .t)), [])) (eW3 : Wt [.b (.list ws), .b (.list os)] = some (.fr (.lst (d3.map .t)), []))
    (eJ1 : J [.f (.list o1), .b (.list o2)] = some (.fr (.lst (jn.map .t)), [])) (eJ2 : J [.f (.list o2), .b (.list o1)] = some (.fr (.lst (jn2.map .t)), []))
    (l1 : LO [.b (.list ws), .b (.list o1)] = some (.fr (.lst (d1.map .t)), [])) (l2 : LO [.b (.list d1), .b (.list o2)] = some (.fr (.lst (d2.map .t)), []))
    (l3 : LO [.b (.list ws), .b (.list o2)] = some (.fr (.lst (e2.map .t)), [])) (l4 : LO [.b (.list e2), .b (.list o1)] = some (.fr (.lst (d2.map .t)), []))
    (l5 : LO [.b (.list ws), .b (.list jn2)] = some (.fr (.lst (d2.map .t)), [])) (l6 : LO [.b (.list ws), .b (.list [])] = some (.fr (.lst (ws.map .t)), []))
    (s1 : S 12 [.b (.list d1), .b (.list d1)] = some (.v (.bool true), [])) (s2 : S 12 [.b (.list d2), .b (.list d2)] = some (.v (.bool true), []))
    (s3 : S 12 [.b (.list mi), .b (.list mi)] = some (.v (.bool true), [])) (s4 : S 12 [.b (.int g), .b (.int g)] = some (.v (.bool true), []))
    (s5 : S 12 [.b (.list [.list ws, .list [.list o1, .list o2]]), .b (.list [.list ws, .list [.list o1, .list o2]])] = some (.v (.bool true), [])) (s6 : S 12 [.b (.list ws), .b (.list ws)] = some (.v (.bool true), []))
    (eL1 : L1 [some (.lab 0), some (.t (.list ws)), some (.t (.list [.list o1, .list o2])), some (.lab 1), none, none, none, some (.t (.list ws)), some (.t (.int g)), some (.t (.list o1)), some (.t (.list o2)), some (.t (.list d1)), some (.t (.list d2))] [some C2, some (.lst (d1.map .t))] =
      some (.nx [some (.lab 0), some (.t (.list ws)), some (.t (.list [.list o1, .list o2])), some (.lab 1), v4, none, none, some (.t (.list ws)), some (.t (.int g)), some (.t (.list o1)), some (.t (.list o2)), some (.t (.list d1)), some (.t (.list d2))] [some C2, some (.lst (d1.map .t))]))
    (eL2 : L2' [some (.lab 0), some (.t (.list ws)), some (.t (.list [.list o1, .list o2])), some (.lab 1), v4, none, none, some (.t (.list ws)), some (.t (.int g)), some (.t (.list o1)), some (.t (.list o2)), some (.t (.list d1)), some (.t (.list d2))] [some C2, some (.lst (d1.map .t))] =
      some (.lst (os.map .t), [some C2, some (.lst (d1.map .t))]))
    (eB : LBy [.b (.list ws), .b (.list o1)] = some (.fr (.lst (mi.map .t)), [])) (eA : At [.b (.list d3), .b (.int g)] = some (.fr (.lst (mi.map .t)), [])) (eC' : LC [.b (.list ws)] = some (.v (.int g), [])) :
    fnS 2 13 (A_b__law_right P La N Wt J LO S L1 L2' LBy At LC) [.m C, .f (.list ws)] = some (.v (.bool true), [C2]) := by
  unfold A_b__law_right
  simp [p0, p1, p2, hd1, hmi, eP, eLa, eN1, eN2, eW1, eW2, eW3, eJ1, eJ2, l1, l2, l3, l4, l5, l6, s1, s2, s3, s4, s5, s6, eL1, eL2, eB, eA, eC', textLine, cutL_last]
theorem right_lb {S : Nat → FnS} {LA At : FnS} {C : Cell} {ws d1 a1 a2 : List T} {x2 x5 x6 x8 x9 x10 x12 : Option Val} {k : Int}
    (e1 : LA [.b (.list d1), .b (.int k)] = some (.fr (.lst (a1.map .t)), [])) (e2 : At [.b (.list d1), .b (.int k)] = some (.fr (.lst (a1.map .t)), []))
    (e3 : LA [.b (.list ws), .b (.int k)] = some (.fr (.lst (a2.map .t)), [])) (e4 : At [.b (.list ws), .b (.int k)] = some (.fr (.lst (a2.map .t)), []))
    (s1 : S 12 [.b (.list a1), .b (.list a1)] = some (.v (.bool true), [])) (s2 : S 12 [.b (.list a2), .b (.list a2)] = some (.v (.bool true), [])) :
    A_lb__law_right_1 S LA At [some (.lab 0), some (.t (.list ws)), x2, some (.lab 1), some (.t (.int k)), x5, x6, some (.t (.list ws)), x8, x9, x10, some (.t (.list d1)), x12] [some C, some (.lst (d1.map .t))] =
      some (.nx [some (.lab 0), some (.t (.list ws)), x2, some (.lab 1), some (.t (.int k)), x5, x6, some (.t (.list ws)), x8, x9, x10, some (.t (.list d1)), x12] [some C, some (.lst (d1.map .t))]) := by
  unfold A_lb__law_right_1
  simp [e1, e2, e3, e4, s1, s2]
theorem right_it {g : Int} {x0 x1 x2 x3 x4 x5 x6 x7 x9 x10 x11 x12 : Option Val} {mu : Mu} (g0 : 0 ≤ g) (g1 : g ≤ 1000) : iRng1 (aCons (eOp gAdd (eVar 8) (eC (.int 2))) aNil) [x0, x1, x2, x3, x4, x5, x6, x7, some (.t (.int g)), x9, x10, x11, x12] mu = some ((rangeL 0 1 (g + 2).toNat).map .t, mu) := by
  have q1 : -4611686018427387904 ≤ g + 2 := by omega
  have q2 : g + 2 < 4611686018427387904 := by omega
  simp [gR1_ok, q1, q2]
theorem right_l1 {S : Nat → FnS} {LA At : FnS} {C : Cell} {ws d1 : List T} {A1 A2 : Int → List T} {x2 x4 x5 x6 x9 x10 x12 : Option Val} {g : Int} (g0 : 0 ≤ g) (g1 : g ≤ 1000)
    (e1 : ∀ k, 0 ≤ k → LA [.b (.list d1), .b (.int k)] = some (.fr (.lst ((A1 k).map .t)), [])) (e2 : ∀ k, At [.b (.list d1), .b (.int k)] = some (.fr (.lst ((A1 k).map .t)), []))
    (e3 : ∀ k, 0 ≤ k → LA [.b (.list ws), .b (.int k)] = some (.fr (.lst ((A2 k).map .t)), [])) (e4 : ∀ k, At [.b (.list ws), .b (.int k)] = some (.fr (.lst ((A2 k).map .t)), []))
    (s1 : ∀ k, S 12 [.b (.list (A1 k)), .b (.list (A1 k))] = some (.v (.bool true), [])) (s2 : ∀ k, S 12 [.b (.list (A2 k)), .b (.list (A2 k))] = some (.v (.bool true), [])) :
    ∃ v4, A_l__law_right_1 (A_lb__law_right_1 S LA At) [some (.lab 0), some (.t (.list ws)), x2, some (.lab 1), x4, x5, x6, some (.t (.list ws)), some (.t (.int g)), x9, x10, some (.t (.list d1)), x12] [some C, some (.lst (d1.map .t))] =
      some (.nx [some (.lab 0), some (.t (.list ws)), x2, some (.lab 1), v4, x5, x6, some (.t (.list ws)), some (.t (.int g)), x9, x10, some (.t (.list d1)), x12] [some C, some (.lst (d1.map .t))]) := by
  obtain ⟨env', mu', e, v4, rfl, rfl⟩ := sFor_inv (t := gtName 4) (body := A_lb__law_right_1 S LA At) (fun i env mu => ∃ v4, env = [some (.lab 0), some (.t (.list ws)), x2, some (.lab 1), v4, x5, x6, some (.t (.list ws)), some (.t (.int g)), x9, x10, some (.t (.list d1)), x12] ∧ mu = [some C, some (.lst (d1.map .t))])
    (right_it (x0 := some (.lab 0)) (x1 := some (.t (.list ws))) (x2 := x2) (x3 := some (.lab 1)) (x4 := x4) (x5 := x5) (x6 := x6) (x7 := some (.t (.list ws))) (x9 := x9) (x10 := x10) (x11 := some (.t (.list d1))) (x12 := x12) (mu := [some C, some (.lst (d1.map .t))]) g0 g1) ⟨x4, rfl, rfl⟩ (fun i v env mu hi hI => by
      obtain ⟨v4, rfl, rfl⟩ := hI
      have hk : ∃ k : Int, v = .t (.int k) ∧ 0 ≤ k := by
        unfold rangeL at hi
        rw [List.getElem?_map, List.getElem?_map] at hi
        cases e : (List.range (g + 2).toNat)[i]? with
        | none => rw [e] at hi; cases hi
        | some j =>
          rw [e] at hi
          cases hi
          exact ⟨_, rfl, by omega⟩
      obtain ⟨k, rfl, k0⟩ := hk
      exact ⟨_, _, _, rfl, right_lb (e1 k k0) (e2 k) (e3 k k0) (e4 k) (s1 k) (s2 k), _, rfl, rfl⟩)
  exact ⟨v4, e⟩
theorem right_i2 {g : Int} {x0 x1 x2 x3 x4 x5 x6 x7 x9 x10 x11 x12 : Option Val} {mu : Mu} (g0 : 0 ≤ g) (g1 : g ≤ 1000) : iRng2 (aCons (eC (.int 1)) (aCons (eOp gAdd (eVar 8) (eC (.int 1))) aNil)) [x0, x1, x2, x3, x4, x5, x6, x7, some (.t (.int g)), x9, x10, x11, x12] mu = some ((rangeI 1 g.toNat).map (Val.t ∘ PyData.int), mu) := by
  have q1 : -4611686018427387904 ≤ g + 1 := by omega
  have q2 : g + 1 < 4611686018427387904 := by omega
  have e : (g + 1 - 1).toNat = g.toNat := by omega
  simp [gR2_ok, q1, q2, e, rangeL_eq]
theorem right_l2 {one : List Int} {g : Int} {x0 x1 x2 x3 x4 x5 x6 x7 x10 x11 x12 : Option Val} {mu : Mu} (g0 : 0 ≤ g) (g1 : g ≤ 1000) : A_l__law_right_2 A_lc__law_right_2 A_lm__law_right_2 [x0, x1, x2, x3, x4, x5, x6, x7, some (.t (.int g)), some (.t (nsT one)), x10, x11, x12] mu =
    some (.lst (((others one g).map PyData.int).map .t), mu) := by
  unfold others
  rw [others_eq]
  unfold A_l__law_right_2
  refine fComp_ok PyData.int (fun k => if one.contains k then none else some (PyData.int k)) (right_i2 g0 g1) (by decide) (fun k hk => ⟨[x0, x1, x2, x3, some (.t (.int k)), x5, x6, x7, some (.t (.int g)), some (.t (nsT one)), x10, x11, x12], rfl, ?_⟩) (by rw [rangeI_length]; unfold textLine; omega)
  have hr : ∀ mu, rd (.t (nsT one)) mu = some (.list (one.map .int)) := fun _ => rfl
  unfold A_lc__law_right_2 A_lm__law_right_2
  by_cases h1 : k ∈ one <;> simp [h1, gIn_int (hr _)]
/-! ### the plain law -/
theorem wo_goneIn {a b : List Int} (h : ∀ x, x ∈ a ↔ x ∈ b) (t : Th) : wo a t = wo b t := by
  have e : ∀ x, a.contains x = b.contains x := fun x => by
    rw [Bool.eq_iff_iff]
    simp [h x]
  unfold wo
  rw [e]
  have e2 : goneIn a t.gone = goneIn b t.gone := by
    cases t.gone with
    | none => rfl
    | some g => exact e g
  rw [e2]
theorem WO_congr {a b : List Int} (h : ∀ x, x ∈ a ↔ x ∈ b) (w : List Th) : WO w a = WO w b := by
  unfold WO
  exact congrArg (fun f => w.filterMap f) (funext fun t => wo_goneIn h t)
theorem JN_mem {a b : List Int} {x : Int} : x ∈ JN a b ↔ x ∈ a ∨ x ∈ b := by
  unfold JN
  simp
  by_cases h : x ∈ a <;> simp [h]
theorem wo_wo (a b : List Int) (t : Th) : (wo a t).bind (wo b) = wo (JN a b) t := by
  obtain ⟨s, p, g⟩ := t
  unfold wo
  by_cases h1 : p ∈ a
  · have : p ∈ JN a b := JN_mem.mpr (.inl h1)
    simp [h1, this]
  · by_cases h2 : p ∈ b
    · have : p ∈ JN a b := JN_mem.mpr (.inr h2)
      simp [h1, h2, this]
    · have : p ∉ JN a b := fun h => (JN_mem.mp h).elim h1 h2
      simp only [List.contains_iff_mem, h1, h2, this, if_false, Option.bind_some]
      cases g with
      | none => simp [goneIn]
      | some g =>
        by_cases g1 : g ∈ a
        · have q : g ∈ JN a b := JN_mem.mpr (.inl g1)
          simp [goneIn, g1, q]
        · by_cases g2 : g ∈ b
          · have q : g ∈ JN a b := JN_mem.mpr (.inr g2)
            simp [goneIn, g1, g2, q]
          · have q : g ∉ JN a b := fun h => (JN_mem.mp h).elim g1 g2
            simp [goneIn, g1, g2, q]
theorem WO_WO (w : List Th) (a b : List Int) : WO (WO w a) b = WO w (JN a b) := by
  unfold WO
  rw [List.filterMap_filterMap]
  exact congrArg (fun f => w.filterMap f) (funext fun t => wo_wo a b t)
theorem WO_nil (w : List Th) : WO w [] = w := by
  unfold WO
  have : ∀ t, wo [] t = some t := fun t => by
    obtain ⟨s, p, g⟩ := t
    unfold wo
    cases g <;> simp [goneIn]
  rw [show wo [] = some from funext this, List.filterMap_some]
theorem wo_ok {b : Int} {ns : List Int} {t t' : Th} (h : ThOk b t) (e : wo ns t = some t') : ThOk b t' ∧ t'.put = t.put ∧ (t'.gone = none ∨ t'.gone = t.gone) := by
  unfold wo at e
  split at e
  · cases e
  · cases e
    refine ⟨⟨h.ln, h.p0, h.pb, fun g hg => ?_⟩, rfl, ?_⟩
    · dsimp only at hg
      split at hg
      · cases hg
      · exact h.g g hg
    · dsimp only
      split
      · exact .inl rfl
      · exact .inr rfl
theorem W_WO {b : Int} {w : List Th} (h : W b w) (ns : List Int) : W b (WO w ns) := by
  refine ⟨Nat.le_trans (WO_len _ _) h.1, fun t' ht' => ?_⟩
  obtain ⟨t, ht, e⟩ := List.mem_filterMap.mp ht'
  exact (wo_ok (h.2 t ht) e).1
theorem LB_AT {b : Int} {w : List Th} (h : W b w) (ns : List Int) : LB w ns = AT (WO w (others ns (GN w))) (GN w) := by
  unfold LB AT
  have key : ∀ t' ∈ WO w (others ns (GN w)), t'.stands (GN w) = decide (t'.gone = none) := fun t' ht' => by
    obtain ⟨t, ht, e⟩ := List.mem_filterMap.mp ht'
    obtain ⟨ok, ep, eg⟩ := wo_ok (h.2 t ht) e
    have h1 : t.gone.getD t.put ≤ GN w := mxL_ge (List.mem_cons_of_mem _ (List.mem_map.mpr ⟨t, ht, rfl⟩))
    have hp : t.put ≤ GN w := by
      cases eg2 : t.gone with
      | none => rw [eg2] at h1; exact h1
      | some g =>
        rw [eg2] at h1
        have := ((h.2 t ht).g g eg2).1
        simp at h1
        omega
    unfold Th.stands
    rw [ep, decide_eq_true hp, Bool.true_and]
    cases e3 : t'.gone with
    | none => simp
    | some g =>
      rcases eg with eg | eg
      · rw [eg] at e3; cases e3
      · rw [← eg, e3] at h1
        simp at h1
        simp
        omega
  generalize WO w (others ns (GN w)) = l at key
  induction l with
  | nil => rfl
  | cons t l ih =>
    have ih := ih fun t' ht' => key t' (List.mem_cons_of_mem _ ht')
    have k := key t (List.mem_cons_self ..)
    rw [List.filterMap_cons, List.filter_cons, k, ih]
    by_cases e : t.gone = none
    · simp [e]
    · simp [e]
end HdK

set_option Elab.async false
set_option linter.all false
set_option maxRecDepth 100000
set_option maxHeartbeats 4000000
namespace HdK
open PySem PySem.Spec PyProof.Rows L2 Vi
theorem okD_th (n : Nat) (t : Th) : okD (n + 2) (thT t) = true := by
  obtain ⟨s, p, g⟩ := t
  cases g <;> simp [thT, goT, okD]
theorem okD_w (n : Nat) {w : List Th} (h : w.length ≤ 10000) : okD (n + 3) (wT w) = true := by
  simp only [wT, okD, Bool.and_eq_true, decide_eq_true_eq, List.all_eq_true, List.length_map]
  refine ⟨h, fun d hd => ?_⟩
  obtain ⟨t, _, rfl⟩ := List.mem_map.mp hd
  exact okD_th n t
theorem okD_ns (n : Nat) {ns : List Int} (h : ns.length ≤ 10000) : okD (n + 2) (nsT ns) = true := by
  simp only [nsT, okD, Bool.and_eq_true, decide_eq_true_eq, List.all_eq_true, List.length_map]
  refine ⟨h, fun d hd => ?_⟩
  obtain ⟨t, _, rfl⟩ := List.mem_map.mp hd
  rfl
def Strs (ls : List T) : Prop := ∀ d ∈ ls, ∃ s, d = PyData.str s
theorem okD_ls (n : Nat) {ls : List T} (h : ls.length ≤ 10000) (hs : Strs ls) : okD (n + 2) (.list ls) = true := by
  simp only [okD, Bool.and_eq_true, decide_eq_true_eq, List.all_eq_true]
  refine ⟨h, fun d hd => ?_⟩
  obtain ⟨s, rfl⟩ := hs d hd
  rfl
theorem AT_strs (w : List Th) (k : Int) : Strs (AT w k) := fun d hd => by
  obtain ⟨t, _, rfl⟩ := List.mem_map.mp hd
  exact ⟨_, rfl⟩
theorem AT_len (w : List Th) (k : Int) : (AT w k).length ≤ w.length := by
  unfold AT
  rw [List.length_map]
  exact List.length_filter_le _ _
theorem JN_ok {a b : List Int} (ha : NsOk a) (hb : NsOk b) (hl : a.length + b.length ≤ 4000) : NsOk (JN a b) := by
  refine ⟨?_, fun n hn => ?_, ?_⟩
  · unfold JN
    rw [List.nodup_append]
    refine ⟨ha.nd, hb.nd.sublist List.filter_sublist, fun x hx y hy e => ?_⟩
    subst e
    have := (List.mem_filter.mp hy).2
    simp at this
    exact this hx
  · rcases JN_mem.mp hn with h | h
    · exact ha.ge n h
    · exact hb.ge n h
  · unfold JN
    rw [List.length_append]
    exact Nat.le_trans (Nat.add_le_add_left (List.length_filter_le _ _) _) hl
theorem nsOk_nil : NsOk [] := ⟨List.nodup_nil, by simp, by simp⟩
theorem mapI (ks : List Int) : ks.map (Val.t ∘ PyData.int) = (ks.map PyData.int).map Val.t := by rw [List.map_map]
theorem W.up {b c : Int} {w : List Th} (h : W b w) (l : b ≤ c) : W c w := ⟨h.1, fun t ht => by
  have k := h.2 t ht
  exact ⟨k.ln, k.p0, Int.le_trans k.pb l, fun g hg => ⟨(k.g g hg).1, Int.le_trans (k.g g hg).2 l⟩⟩⟩
theorem right_ok {n : Int} {C : Cell} {w : List Th} (h : Pu n C) (hn : n < 800000) (hw : W 100 w) : ∃ C', m__law_right [.m C, .f (wT w)] = some (.v (.bool true), [C']) ∧ Pu (n + 3000) C' := by
  have hg : LS w = GN w := LS_GN hw.2
  have g0 := GN_pos w
  have g1 : GN w ≤ 100 := GN_le (by omega) hw.2
  obtain ⟨o1, C1, e1, nd1, ge1, ln1, hC1⟩ := numbers_ok (last := GN w) h (by omega) g0 (by omega)
  obtain ⟨o2, C2, e2, nd2, ge2, ln2, hC2⟩ := numbers_ok (last := GN w) hC1 (by omega) g0 (by omega)
  have k1 : NsOk o1 := ⟨nd1, ge1, by omega⟩
  have k2 : NsOk o2 := ⟨nd2, ge2, by omega⟩
  have k3 : NsOk (JN o1 o2) := JN_ok k1 k2 (by omega)
  have k4 : NsOk (JN o2 o1) := JN_ok k2 k1 (by omega)
  have w1 : W 100 (WO w o1) := W_WO hw o1
  have w2 : W 100 (WO w o2) := W_WO hw o2
  have jj : WO w (JN o2 o1) = WO w (JN o1 o2) := WO_congr (fun x => by rw [JN_mem, JN_mem]; exact Or.comm) w
  have len : ∀ ns, (WO w ns).length ≤ 1000 := fun ns => Nat.le_trans (WO_len w ns) hw.1
  have lb := LB_AT hw o1
  have lbl : (LB w o1).length ≤ 1000 := by
    rw [lb]
    exact Nat.le_trans (AT_len _ _) (len _)
  rw [mapI] at e1 e2
  obtain ⟨v4, eL⟩ := right_l1 (S := m__law_same) (LA := m_lines_at) (At := m__law_at) (C := C2) (ws := w.map thT) (d1 := (WO w o1).map thT) (A1 := AT (WO w o1)) (A2 := AT w)
    (x2 := some (.t (.list [.list (o1.map .int), .list (o2.map .int)]))) (x4 := none) (x5 := none) (x6 := none) (x9 := some (.t (nsT o1))) (x10 := some (.t (nsT o2))) (x12 := some (.t (wT (WO w (JN o1 o2))))) g0 (by omega)
    (fun k hk => lines_at_ok w1 hk) (fun k => at_ok (WO w o1) k (len o1)) (fun k hk => lines_at_ok hw hk) (fun k => at_ok w k hw.1)
    (fun k => same_ok 12 _ (okD_ls 10 (Nat.le_trans (AT_len _ _) (Nat.le_trans (len o1) (by omega))) (AT_strs _ _))) (fun k => same_ok 12 _ (okD_ls 10 (Nat.le_trans (AT_len _ _) (Nat.le_trans hw.1 (by omega))) (AT_strs _ _)))
  refine ⟨C2, ?_, hC2.mono (by omega)⟩
  refine right_A (P := m__law_plain) (S := m__law_same) (La := m__law_last) (N := m__law_numbers) (Wt := m__law_without) (J := m__law_joined) (LO := m_left_out) (LBy := m_lines_by) (At := m__law_at) (LC := m_last_change)
    (L1 := l__law_right_1) (L2' := l__law_right_2) (C := C) (C1 := C1) (C2 := C2) (ws := w.map thT) (o1 := o1.map .int) (o2 := o2.map .int) (jn := (JN o1 o2).map .int) (jn2 := (JN o2 o1).map .int)
    (d1 := (WO w o1).map thT) (d2 := (WO w (JN o1 o2)).map thT) (e2 := (WO w o2).map thT) (d3 := (WO w (others o1 (GN w))).map thT) (os := (others o1 (GN w)).map .int) (mi := LB w o1) (g := GN w) (v4 := v4)
    h.pure hC1.pure hC2.pure (by have := len o1; simp; omega) (by omega) (plain_ok 12 (wT w) (okD_w 9 (by have := hw.1; omega))) (by have := last_ok hw.1; rw [hg] at this; exact this) e1 e2
    (without_ok w o1 hw.1) (without_ok w (JN o1 o2) hw.1) (without_ok w (others o1 (GN w)) hw.1) (joined_ok (by omega) (by omega)) (joined_ok (by omega) (by omega))
    (left_out_ok hw k1) ?_ (left_out_ok hw k2) ?_ ?_ ?_ (same_ok 12 _ (okD_w 9 (by have := len o1; omega))) (same_ok 12 _ (okD_w 9 (by have := len (JN o1 o2); omega))) (same_ok 12 _ ?_) (same_ok 12 _ rfl) (same_ok 12 _ ?_) (same_ok 12 _ (okD_w 9 (by have := hw.1; omega)))
    eL (right_l2 g0 (by omega)) (lines_by_ok hw k1) ?_ (last_change_ok hw)
  · have := left_out_ok w1 k2
    rw [WO_WO] at this
    exact this
  · have := left_out_ok w2 k1
    rw [WO_WO, jj] at this
    exact this
  · have := left_out_ok hw k4
    rw [jj] at this
    exact this
  · have := left_out_ok hw nsOk_nil
    rw [WO_nil] at this
    exact this
  · rw [lb]
    exact okD_ls 10 (Nat.le_trans (AT_len _ _) (Nat.le_trans (len _) (by omega))) (AT_strs _ _)
  · have hw1 := hw.1
    simp [okD]
    exact ⟨⟨by omega, fun t _ => okD_th 8 t⟩, by omega, by omega⟩
  · have := at_ok (WO w (others o1 (GN w))) (GN w) (len _)
    rw [← lb] at this
    exact this
end HdK

set_option Elab.async false
set_option linter.all false
set_option maxRecDepth 100000
set_option maxHeartbeats 4000000
namespace HdK
open PySem PySem.Spec PyProof.Rows L2 Vi
/-! ### lists of lines -/
def Lns (ls : List T) : Prop := ls.length ≤ 1000 ∧ ∀ x ∈ ls, IsLine x
theorem el_line {M : FnS} {d : T} {env : En} {i : Nat} {mu : Mu} (hd : IsLine d) (h : M [.b d] = some (.v (.bool true), [])) (he : env[i]? = some (some (.t d))) : (eRet (rCall M [.b] (aCons (eVar i) aNil))) env mu = some (.t (.bool true), mu) := by
  obtain ⟨s, _, rfl⟩ := hd
  simp [he, h]
theorem is_lines_l {M : FnS} {ls : List T} (hl : Lns ls) (h : ∀ d ∈ ls, M [.b d] = some (.v (.bool true), [])) : A_l_is_lines_1 (A_lm_is_lines_1 M) [some (.bor (.list ls)), none] [] = some (.lst ((ls.map fun _ => true).map (Val.t ∘ PyData.bool)), []) := by
  unfold A_l_is_lines_1
  exact all_ok id (fun _ => true) (by simp) (by decide) (fun d hd => ⟨[some (.bor (.list ls)), some (.t d)], rfl, el_line (hl.2 d hd) (h d hd) rfl⟩) (by have := hl.1; unfold textLine; omega)
theorem is_lines_A {L : Fx} {ls : List T} (h : L [some (.bor (.list ls)), none] [] = some (.lst ((ls.map fun _ => true).map (Val.t ∘ PyData.bool)), [])) : fnS 1 2 (A_b_is_lines L) [.b (.list ls)] = some (.v (.bool true), []) := by
  unfold A_b_is_lines
  have e : ((ls.map fun _ => true).all id) = true := by simp
  generalize (ls.map fun _ => true) = bs at h e
  simp [h, e]
theorem check_lines_A {M : FnS} {ls : List T} (h : M [.b (.list ls)] = some (.v (.bool true), [])) : fnS 1 1 (A_b_check_lines M) [.b (.list ls)] = some (.v .none, []) := by
  unfold A_b_check_lines
  simp [h]
theorem check_lines_ok {ls : List T} (h : Lns ls) : m_check_lines [.b (.list ls)] = some (.v .none, []) :=
  check_lines_A (M := m_is_lines) (is_lines_A (L := l_is_lines_1) (is_lines_l (M := m_is_line) h fun d hd => is_line_ok (h.2 d hd)))
theorem is_list_l {M : FnS} {ls : List T} (hl : Lns ls) (h : ∀ d ∈ ls, M [.b d] = some (.v (.bool true), [])) : A_l_is_list_of_lines_1 (A_lm_is_list_of_lines_1 M) [some (.bor (.list ls)), none] [] = some (.lst ((ls.map fun _ => true).map (Val.t ∘ PyData.bool)), []) := by
  unfold A_l_is_list_of_lines_1
  exact all_ok id (fun _ => true) (by simp) (by decide) (fun d hd => ⟨[some (.bor (.list ls)), some (.t d)], rfl, el_line (hl.2 d hd) (h d hd) rfl⟩) (by have := hl.1; unfold textLine; omega)
theorem is_list_A {L : Fx} {ls : List T} (h : L [some (.bor (.list ls)), none] [] = some (.lst ((ls.map fun _ => true).map (Val.t ∘ PyData.bool)), [])) : fnS 1 2 (A_b_is_list_of_lines L) [.b (.list ls)] = some (.v (.bool true), []) := by
  unfold A_b_is_list_of_lines
  have e : ((ls.map fun _ => true).all id) = true := by simp
  generalize (ls.map fun _ => true) = bs at h e
  simp [h, e]
theorem is_list_ok {ls : List T} (h : Lns ls) : m_is_list_of_lines [.b (.list ls)] = some (.v (.bool true), []) :=
  is_list_A (L := l_is_list_of_lines_1) (is_list_l (M := m_is_line) h fun d hd => is_line_ok (h.2 d hd))
/-! ### most behind -/
def rowT (r : List Int) : T := .list (r.map .int)
theorem atI_at {α : Type} {xs : List α} {j : Nat} {x : α} (h : xs[j]? = some x) : atI xs (j : Int) = some x := by
  have hj := (List.getElem?_eq_some_iff.mp h).1
  unfold atI ixN
  rw [if_pos (by omega), if_pos (by omega)]
  simpa using h
theorem atI_last {α : Type} {xs : List α} {x : α} (h : xs.getLast? = some x) : atI xs (-1) = some x := by
  have hne : xs ≠ [] := fun z => by subst z; cases h
  have hp : 0 < xs.length := List.length_pos_iff.mpr hne
  have q : (-1 + (xs.length : Int)).toNat = xs.length - 1 := by omega
  unfold atI ixN
  rw [if_neg (by decide), if_pos (by omega), q, Option.bind_some, ← List.getLast?_eq_getElem?]
  exact h
theorem getLast_map {α β : Type} {f : α → β} {xs : List α} {x : α} (h : xs.getLast? = some x) : (xs.map f).getLast? = some (f x) := by
  rw [List.getLast?_map, h]; rfl
theorem mb_b {other : List T} {s o : Str} {x0 : Option Val} {tab : List T} {prev row : List Int} {dead : List (Option Cell)} {j : Nat} {p0 p1 r1 : Int} (hp : tab.getLast? = some (rowT prev)) (h0 : prev[j]? = some p0) (h1 : prev[j + 1]? = some p1) (hr : row[j + 1]? = some r1) (ho : other[j]? = some (.str o)) :
    ∃ v : Int, A_lb_most_behind_1 [x0, some (.bor (.list other)), some (.lab 0), some (.t (.str s)), some (.lab (dead.length + 1)), some (.t (.int j))] (some (.lst (tab.map .t)) :: (dead ++ [some (.lst ((row.map PyData.int).map .t))])) =
      some (.nx [x0, some (.bor (.list other)), some (.lab 0), some (.t (.str s)), some (.lab (dead.length + 1)), some (.t (.int j))] (some (.lst (tab.map .t)) :: (dead ++ [some (.lst (((row.set j v).map PyData.int).map .t))]))) := by
  have hj : j + 1 < row.length := (List.getElem?_eq_some_iff.mp hr).1
  have a1 : atI (row.map (Val.t ∘ PyData.int)) ((j : Int) + 1) = some (.t (.int r1)) := atI_at (j := j + 1) (by rw [List.getElem?_map, hr]; rfl)
  have a2 : atI (tab.map Val.t) (-1) = some (.t (rowT prev)) := atI_last (getLast_map hp)
  have a3 : atI (prev.map (Val.t ∘ PyData.int)) (j : Int) = some (.t (.int p0)) := atI_at (by rw [List.getElem?_map, h0]; rfl)
  have a4 : atI (prev.map (Val.t ∘ PyData.int)) ((j : Int) + 1) = some (.t (.int p1)) := atI_at (j := j + 1) (by rw [List.getElem?_map, h1]; rfl)
  have a5 : atI (other.map Val.t) (j : Int) = some (.t (.str o)) := atI_at (by rw [List.getElem?_map, ho]; rfl)
  have a6 : ixN row.length (j : Int) = some j := by
    unfold ixN
    rw [if_pos (by omega), if_pos (by omega)]
    simp
  unfold rowT at a2
  unfold A_lb_most_behind_1
  by_cases z : s = o
  · subst z
    refine ⟨p1 + 1, ?_⟩
    simp [a1, a2, a3, a4, a5, a6, eqS, List.map_set]
  · have z' : (s == o) = false := by simpa using z
    refine ⟨max r1 p0, ?_⟩
    simp [a1, a2, a3, a4, a5, a6, eqS, z', List.map_set]
end HdK

set_option Elab.async false
set_option linter.all false
set_option maxRecDepth 100000
set_option maxHeartbeats 4000000
namespace HdK
open PySem PySem.Spec PyProof.Rows L2 Vi
theorem mb_it {other : List T} {env : En} {mu : Mu} (h : env[1]? = some (some (.bor (.list other)))) (hl : other.length ≤ 1000) :
    iRngD (aCons (eOp gSub (eCB gLen (aCons (eVar 1) aNil)) (eC (.int 1))) (aCons (eNeg (eC (.int 1))) (aCons (eNeg (eC (.int 1))) aNil))) env mu = some ((rangeL ((other.length : Int) - 1) (-1) other.length).map .t, mu) := by
  have q1 : -4611686018427387904 ≤ (other.length : Int) - 1 := by omega
  have q2 : (other.length : Int) - 1 < 4611686018427387904 := by omega
  have e : ((other.length : Int) - 1 - -1).toNat = other.length := by omega
  simp [h, gRD_ok, q1, q2, e]
theorem mb_l1 {other : List T} {s : Str} {x0 v5 : Option Val} {tab : List T} {prev row : List Int} {dead : List (Option Cell)} (hl : Lns other) (hp : tab.getLast? = some (rowT prev)) (h1 : prev.length = other.length + 1) (h2 : row.length = other.length + 1) :
    ∃ (row' : List Int) (v5' : Option Val), A_l_most_behind_1 A_lb_most_behind_1 [x0, some (.bor (.list other)), some (.lab 0), some (.t (.str s)), some (.lab (dead.length + 1)), v5] (some (.lst (tab.map .t)) :: (dead ++ [some (.lst ((row.map PyData.int).map .t))])) =
      some (.nx [x0, some (.bor (.list other)), some (.lab 0), some (.t (.str s)), some (.lab (dead.length + 1)), v5'] (some (.lst (tab.map .t)) :: (dead ++ [some (.lst ((row'.map PyData.int).map .t))]))) ∧ row'.length = other.length + 1 := by
  obtain ⟨env', mu', e, row', v5', rfl, rfl, l'⟩ := sFor_inv (t := gtName 5) (body := A_lb_most_behind_1) (fun i env mu => ∃ (row' : List Int) (v5' : Option Val), env = [x0, some (.bor (.list other)), some (.lab 0), some (.t (.str s)), some (.lab (dead.length + 1)), v5'] ∧ mu = some (.lst (tab.map .t)) :: (dead ++ [some (.lst ((row'.map PyData.int).map .t))]) ∧ row'.length = other.length + 1)
    (mb_it (env := [x0, some (.bor (.list other)), some (.lab 0), some (.t (.str s)), some (.lab (dead.length + 1)), v5]) (mu := some (.lst (tab.map .t)) :: (dead ++ [some (.lst ((row.map PyData.int).map .t))])) rfl hl.1) ⟨row, v5, rfl, rfl, h2⟩ (fun i v env mu hi hI => by
      obtain ⟨row', v5', rfl, rfl, l'⟩ := hI
      have hk : ∃ j : Nat, v = .t (.int j) ∧ j < other.length := by
        unfold rangeL at hi
        rw [List.getElem?_map, List.getElem?_map] at hi
        cases e : (List.range other.length)[i]? with
        | none => rw [e] at hi; cases hi
        | some q =>
          have hq := List.mem_range.mp (List.mem_of_getElem? e)
          rw [e] at hi
          cases hi
          exact ⟨other.length - 1 - q, by
            have : ((other.length : Int) - 1 + (q : Int) * -1) = ((other.length - 1 - q : Nat) : Int) := by omega
            show Val.t (PyData.int _) = _
            rw [this], by omega⟩
      obtain ⟨j, rfl, hj⟩ := hk
      obtain ⟨o, ho⟩ : ∃ o, other[j]? = some (.str o) := by
        obtain ⟨s', _, e⟩ := hl.2 other[j] (List.getElem_mem hj)
        exact ⟨s', by rw [List.getElem?_eq_getElem hj, e]⟩
      obtain ⟨w, e⟩ := mb_b (x0 := x0) (s := s) (dead := dead) (row := row') hp (List.getElem?_eq_getElem (by omega : j < prev.length)) (List.getElem?_eq_getElem (by omega : j + 1 < prev.length)) (List.getElem?_eq_getElem (by omega : j + 1 < row'.length)) ho
      exact ⟨_, _, _, rfl, e, row'.set j w, _, rfl, rfl, by rw [List.length_set]; exact l'⟩)
  exact ⟨row', v5', e, l'⟩
theorem rep_flat {α : Type} (x : α) (n : Nat) : (List.replicate n [x]).flatten = List.replicate n x := by
  induction n with
  | zero => rfl
  | succ n ih => rw [List.replicate_succ, List.flatten_cons, ih, List.replicate_succ]; rfl
theorem rep_row {other : List T} (hl : other.length ≤ 1000) {mu : Mu} : gRp [Val.t (.int 0)] ((other.length : Int) + 1) mu = some (.lst (((List.replicate (other.length + 1) (0 : Int)).map PyData.int).map .t), mu) := by
  have e : ((other.length : Int) + 1).toNat = other.length + 1 := by omega
  rw [gRp_ok (by omega) (by omega) (by rw [e]; simp; omega), e, rep_flat]
  simp
theorem mb_b2 {L : Sx} {one other : List T} {s : Str} {tab : List T} {row' : List Int} {dead : List (Option Cell)} {v4 v5 v5' : Option Val} (hl : other.length ≤ 1000) (ht : tab.length < 100000)
    (e : L [some (.bor (.list one)), some (.bor (.list other)), some (.lab 0), some (.t (.str s)), some (.lab (dead.length + 1)), v5] (some (.lst (tab.map .t)) :: (dead ++ [some (.lst (((List.replicate (other.length + 1) (0 : Int)).map PyData.int).map .t))])) =
      some (.nx [some (.bor (.list one)), some (.bor (.list other)), some (.lab 0), some (.t (.str s)), some (.lab (dead.length + 1)), v5'] (some (.lst (tab.map .t)) :: (dead ++ [some (.lst ((row'.map PyData.int).map .t))])))) :
    A_lb_most_behind_2 L [some (.bor (.list one)), some (.bor (.list other)), some (.lab 0), some (.t (.str s)), v4, v5] (some (.lst (tab.map .t)) :: dead) =
      some (.nx [some (.bor (.list one)), some (.bor (.list other)), some (.lab 0), some (.t (.str s)), some (.lab (dead.length + 1)), v5'] (some (.lst ((tab ++ [rowT row']).map .t)) :: (dead ++ [none]))) := by
  have hr : ∀ mu, gRp [Val.t (.int 0)] ((other.length : Int) + 1) mu = some (.lst (((List.replicate (other.length + 1) (0 : Int)).map PyData.int).map .t), mu) := fun mu => rep_row hl
  generalize List.replicate (other.length + 1) (0 : Int) = zz at e hr
  unfold A_lb_most_behind_2
  simp at e hr
  simp [hr, e, ht, textLine, rowT]
end HdK

set_option Elab.async false
set_option linter.all false
set_option maxRecDepth 100000
set_option maxHeartbeats 4000000
namespace HdK
open PySem PySem.Spec PyProof.Rows L2 Vi
def RtOk (m : Nat) (RT : List (List Int)) : Prop := ∀ r ∈ RT, r.length = m + 1
theorem mb_l2 {one other : List T} (h1 : Lns one) (h2 : Lns other) {v3 v4 v5 : Option Val} :
    ∃ (RT : List (List Int)) (dead : List (Option Cell)) (v3' v4' v5' : Option Val), A_l_most_behind_2 (A_lb_most_behind_2 (A_l_most_behind_1 A_lb_most_behind_1)) [some (.bor (.list one)), some (.bor (.list other)), some (.lab 0), none, none, none] [some (.lst [.t (rowT (List.replicate (other.length + 1) 0))])] =
      some (.nx [some (.bor (.list one)), some (.bor (.list other)), some (.lab 0), v3', v4', v5'] (some (.lst ((RT.map rowT).map .t)) :: dead)) ∧ RT.length = one.length + 1 ∧ RtOk other.length RT := by
  have hlen : (one.reverse.map Val.t).length = one.length := by simp
  obtain ⟨env', mu', e, RT, dead, v3', v4', v5', rfl, rfl, l', ok'⟩ := sFor_inv (it := iLst (eFr (fRev (eVar 0)))) (t := gtName 3) (body := A_lb_most_behind_2 (A_l_most_behind_1 A_lb_most_behind_1)) (items := one.reverse.map .t) (env := [some (.bor (.list one)), some (.bor (.list other)), some (.lab 0), none, none, none]) (mu := [some (.lst [.t (rowT (List.replicate (other.length + 1) 0))])]) (mu1 := [some (.lst [.t (rowT (List.replicate (other.length + 1) 0))])])
    (fun i env mu => ∃ (RT : List (List Int)) (dead : List (Option Cell)) (v3' v4' v5' : Option Val), env = [some (.bor (.list one)), some (.bor (.list other)), some (.lab 0), v3', v4', v5'] ∧ mu = some (.lst ((RT.map rowT).map .t)) :: dead ∧ RT.length = i + 1 ∧ RtOk other.length RT)
    (by simp [← List.map_reverse]) ⟨[List.replicate (other.length + 1) 0], [], none, none, none, rfl, rfl, rfl, fun r hr => by cases List.mem_singleton.mp hr; simp⟩ (fun i v env mu hi hI => by
      obtain ⟨RT, dead, v3', v4', v5', rfl, rfl, l', ok'⟩ := hI
      have hi2 : i < one.length := by
        have := (List.getElem?_eq_some_iff.mp hi).1
        rw [hlen] at this; exact this
      have hv : ∃ s, v = .t (.str s) := by
        obtain ⟨d, hd, rfl⟩ := List.mem_map.mp (List.mem_of_getElem? hi)
        obtain ⟨s, _, rfl⟩ := h1.2 d (List.mem_reverse.mp hd)
        exact ⟨s, rfl⟩
      obtain ⟨s, rfl⟩ := hv
      have hne : RT ≠ [] := fun z => by subst z; simp at l'
      have hp : (RT.map rowT).getLast? = some (rowT (RT.getLast hne)) := getLast_map (List.getLast?_eq_some_getLast hne)
      obtain ⟨row', w5, e, lr⟩ := mb_l1 (x0 := some (.bor (.list one))) (s := s) (v5 := v5') (tab := RT.map rowT) (row := List.replicate (other.length + 1) 0) (dead := dead) h2 hp (ok' _ (List.getLast_mem hne)) (by simp)
      have hl1 := h1.1
      refine ⟨_, _, _, rfl, mb_b2 (v4 := v4') h2.1 (by rw [List.length_map]; omega) e, RT ++ [row'], dead ++ [none], some (.t (.str s)), some (.lab (dead.length + 1)), w5, rfl, by simp, by simp [l'], fun r hr => ?_⟩
      rcases List.mem_append.mp hr with hr | hr
      · exact ok' r hr
      · cases List.mem_singleton.mp hr; exact lr)
  rw [hlen] at l'
  exact ⟨RT, dead, v3', v4', v5', e, l', ok'⟩
theorem datas_rev {α : Type} (f : α → T) (as : List α) : datas (as.map (Val.t ∘ f)).reverse = some (as.map f).reverse := by
  rw [← List.map_reverse, datas_comp, List.map_reverse]
theorem mb_end {L : Sx} {one other : List T} {RT : List (List Int)} {dead : List (Option Cell)} {v3 v4 v5 : Option Val} (hl : other.length ≤ 1000)
    (e : L [some (.bor (.list one)), some (.bor (.list other)), some (.lab 0), none, none, none] [some (.lst [.t (rowT (List.replicate (other.length + 1) 0))])] = some (.nx [some (.bor (.list one)), some (.bor (.list other)), some (.lab 0), v3, v4, v5] (some (.lst ((RT.map rowT).map .t)) :: dead))) :
    fnS 2 6 (A_b_most_behind L) [.b (.list one), .b (.list other)] = some (.fr (.lst ((RT.reverse.map rowT).map .t)), []) := by
  have hr : ∀ mu, gRp [Val.t (.int 0)] ((other.length : Int) + 1) mu = some (.lst (((List.replicate (other.length + 1) (0 : Int)).map PyData.int).map .t), mu) := fun mu => rep_row hl
  generalize List.replicate (other.length + 1) (0 : Int) = zz at e hr
  unfold A_b_most_behind
  unfold rowT at e ⊢
  simp at e hr
  simp [hr, e, textLine, datas_rev]
theorem most_behind_ok {one other : List T} (h1 : Lns one) (h2 : Lns other) : ∃ RT : List (List Int), m_most_behind [.b (.list one), .b (.list other)] = some (.fr (.lst ((RT.map rowT).map .t)), []) ∧ RT.length = one.length + 1 ∧ RtOk other.length RT := by
  obtain ⟨RT, dead, v3, v4, v5, e, l, ok⟩ := mb_l2 h1 h2 (v3 := none) (v4 := none) (v5 := none)
  exact ⟨RT.reverse, mb_end (L := l_most_behind_2) h2.1 e, by simp [l], fun r hr => ok r (List.mem_reverse.mp hr)⟩
/-! ### longest row -/
theorem eqNil {fs : List Int} {mu : Mu} : gEq true (.t (.list (fs.map .int))) (.t (.list [])) mu = some (.t (.bool (decide (fs ≠ []))), mu) := by
  cases fs with
  | nil => 
    simp only [gEq, rd, List.map_nil, PyData.plain, PyData.plainAll, PyData.eqv, PyData.eqvAll]
    rfl
  | cons f fs =>
    have : PyData.plain (.list ((f :: fs).map .int)) = true := by simp only [PyData.plain]; exact plainAll_ints _
    have e2 : PyData.eqv (.list ((f :: fs).map .int)) (.list []) = false := by simp only [List.map_cons, PyData.eqv, PyData.eqvAll]
    have e3 : PyData.depth (.list []) ≤ 60 := by decide
    simp only [gEq, rd, this, e2]
    rw [if_pos ⟨(by first | trivial | rfl), (by first | trivial | rfl), Nat.le_trans (Nat.min_le_right _ _) e3⟩]
    simp
end HdK

set_option Elab.async false
set_option linter.all false
set_option maxRecDepth 100000
set_option maxHeartbeats 4000000
namespace HdK
open PySem PySem.Spec PyProof.Rows L2 Vi
def mostT (RT : List (List Int)) : T := .list (RT.map rowT)
theorem lr_c {one other : List T} {RT : List (List Int)} {row : List Int} {s o : Str} {a j : Nat} {late left v : Int} {v8 : Option Val} {mu : Mu} (ho : other[j]? = some (.str o)) (hr : RT[a + 1]? = some row) (hv : row[j + 1]? = some v) :
    A_lc_longest_row_1 [some (.bor (.list one)), some (.bor (.list other)), some (.t (mostT RT)), some (.lab 0), some (.t (.int late)), some (.t (.int a)), some (.t (.str s)), some (.t (.int left)), v8, some (.t (.int j))] mu = some ((s == o) && decide (v = left - 1), mu) := by
  have a1 : atI (other.map Val.t) (j : Int) = some (.t (.str o)) := atI_at (by rw [List.getElem?_map, ho]; rfl)
  have a2 : atI (RT.map (Val.t ∘ rowT)) ((a : Int) + 1) = some (.t (rowT row)) := atI_at (j := a + 1) (by rw [List.getElem?_map, hr]; rfl)
  have a3 : atI (row.map (Val.t ∘ PyData.int)) ((j : Int) + 1) = some (.t (.int v)) := atI_at (j := j + 1) (by rw [List.getElem?_map, hv]; rfl)
  unfold A_lc_longest_row_1
  unfold mostT
  unfold rowT at a2
  unfold rowT
  by_cases z : s = o
  · subst z
    simp [a1, a2, a3, eqS]
  · have z' : (s == o) = false := by simpa using z
    simp [a1, eqS, z']
theorem lr_it {other : List T} {late : Nat} {env : En} {mu : Mu} (h1 : env[1]? = some (some (.bor (.list other)))) (h4 : env[4]? = some (some (.t (.int late)))) (hl : other.length ≤ 1000) (hla : late ≤ 1000) :
    iRng2 (aCons (eVar 4) (aCons (eCB gLen (aCons (eVar 1) aNil)) aNil)) env mu = some ((rangeI late ((other.length : Int) - late).toNat).map (Val.t ∘ PyData.int), mu) := by
  have q1 : -4611686018427387904 ≤ (late : Int) := by omega
  have q2 : (late : Int) < 4611686018427387904 := by omega
  have q3 : -4611686018427387904 ≤ (other.length : Int) := by omega
  have q4 : (other.length : Int) < 4611686018427387904 := by omega
  simp [h1, h4, gR2_ok, q1, q2, q3, q4, rangeL_eq]
open Classical in
theorem lr_l1 {one other : List T} {RT : List (List Int)} {row : List Int} {s : Str} {a late : Nat} {left : Int} {v8 v9 : Option Val} {mu : Mu} (hl : Lns other) (hla : late ≤ other.length) (hr : RT[a + 1]? = some row) (hrow : row.length = other.length + 1) :
    ∃ fs : List Int, A_l_longest_row_1 A_lc_longest_row_1 A_lm_longest_row_1 [some (.bor (.list one)), some (.bor (.list other)), some (.t (mostT RT)), some (.lab 0), some (.t (.int late)), some (.t (.int a)), some (.t (.str s)), some (.t (.int left)), v8, v9] mu = some (.lst ((fs.map PyData.int).map .t), mu) ∧ ∀ f ∈ fs, (late : Int) ≤ f ∧ f < other.length := by
  have hl1 := hl.1
  let E : Int → En := fun h => [some (.bor (.list one)), some (.bor (.list other)), some (.t (mostT RT)), some (.lab 0), some (.t (.int late)), some (.t (.int a)), some (.t (.str s)), some (.t (.int left)), v8, some (.t (.int h))]
  let f : Int → Option T := fun h => if A_lc_longest_row_1 (E h) mu = some (true, mu) then some (.int h) else none
  let fs := (rangeI late ((other.length : Int) - late).toNat).filter fun h => decide (A_lc_longest_row_1 (E h) mu = some (true, mu))
  have ef : (rangeI late ((other.length : Int) - late).toNat).filterMap f = fs.map PyData.int := by
    show List.filterMap f _ = List.map PyData.int (List.filter _ _)
    generalize rangeI late ((other.length : Int) - late).toNat = xs
    induction xs with
    | nil => rfl
    | cons x xs ih =>
      rw [List.filterMap_cons, List.filter_cons, ih]
      by_cases z : A_lc_longest_row_1 (E x) mu = some (true, mu)
      · simp [f, z]
      · simp [f, z]
  refine ⟨fs, ?_, fun x hx => ?_⟩
  · rw [← ef]
    unfold A_l_longest_row_1
    refine fComp_ok PyData.int f (lr_it rfl rfl hl1 (by omega)) (by decide) (fun h hh => ⟨E h, rfl, ?_⟩) (by rw [rangeI_length]; unfold textLine; omega)
    have hm := rangeI_mem hh
    obtain ⟨j, rfl⟩ := Int.eq_ofNat_of_zero_le (by omega : 0 ≤ h)
    have hj : j < other.length := by omega
    obtain ⟨o, ho⟩ : ∃ o, other[j]? = some (.str o) := by
      obtain ⟨s', _, e⟩ := hl.2 other[j] (List.getElem_mem hj)
      exact ⟨s', by rw [List.getElem?_eq_getElem hj, e]⟩
    have hc : A_lc_longest_row_1 (E j) mu = _ := lr_c (one := one) (late := late) (left := left) (v8 := v8) (mu := mu) (s := s) ho hr (List.getElem?_eq_getElem (by omega : j + 1 < row.length))
    generalize ((s == o) && decide (row[j + 1] = left - 1)) = bb at hc
    cases bb with
    | true =>
      have : f (j : Int) = some (.int j) := by simp [f, hc]
      rw [this]
      exact ⟨hc, rfl⟩
    | false =>
      have : f (j : Int) = none := by simp [f, hc]
      rw [this]
      exact hc
  · have hm := rangeI_mem (List.mem_filter.mp hx).1
    omega
def pairT (p : Int × Int) : T := .tuple [.int p.1, .int p.2]
theorem lr_b {L : Fx} {one other : List T} {RT : List (List Int)} {r0 : List Int} {s : Str} {a late : Nat} {z0 : Int} {fs : List Int} {found : List (Int × Int)} {v7 v8 v9 : Option Val} (h0 : RT[0]? = some r0) (h00 : r0[0]? = some z0) (hf : found.length < 100000)
    (e : L [some (.bor (.list one)), some (.bor (.list other)), some (.t (mostT RT)), some (.lab 0), some (.t (.int late)), some (.t (.int a)), some (.t (.str s)), some (.t (.int (z0 - found.length))), v8, v9] [some (.lst ((found.map pairT).map .t))] = some (.lst ((fs.map PyData.int).map .t), [some (.lst ((found.map pairT).map .t))])) :
    A_lb_longest_row_2 L [some (.bor (.list one)), some (.bor (.list other)), some (.t (mostT RT)), some (.lab 0), some (.t (.int late)), some (.t (.int a)), some (.t (.str s)), v7, v8, v9] [some (.lst ((found.map pairT).map .t))] =
      some (.nx [some (.bor (.list one)), some (.bor (.list other)), some (.t (mostT RT)), some (.lab 0), some (.t (.int (match fs with | [] => (late : Int) | f :: _ => f + 1))), some (.t (.int a)), some (.t (.str s)), some (.t (.int (z0 - found.length))), some (.t (.list (fs.map .int))), v9]
        [some (.lst ((match fs with | [] => found | f :: _ => found ++ [((a : Int), f)]).map pairT |>.map .t))]) := by
  have a1 : atI (RT.map (Val.t ∘ rowT)) 0 = some (.t (rowT r0)) := atI_at (j := 0) (by rw [List.getElem?_map, h0]; rfl)
  have a2 : atI (r0.map (Val.t ∘ PyData.int)) 0 = some (.t (.int z0)) := atI_at (j := 0) (by rw [List.getElem?_map, h00]; rfl)
  unfold A_lb_longest_row_2
  unfold mostT at e ⊢
  unfold rowT at e a1 ⊢
  simp at e
  cases fs with
  | nil =>
    have q := @eqNil []
    simp at q e
    simp [a1, a2, e, q, textLine]
  | cons f fs =>
    have q := @eqNil (f :: fs)
    have a3 : atI (Val.t (PyData.int f) :: fs.map (Val.t ∘ PyData.int)) 0 = some (.t (.int f)) := atI_at (j := 0) rfl
    simp at q e
    simp [a1, a2, a3, e, q, textLine, hf, pairT]
end HdK

set_option Elab.async false
set_option linter.all false
set_option maxRecDepth 100000
set_option maxHeartbeats 4000000
namespace HdK
open PySem PySem.Spec PyProof.Rows L2 Vi
theorem enumL_get {ds : List T} {i : Nat} {v : Val} (h : (enumL ds)[i]? = some v) : ∃ d, ds[i]? = some d ∧ v = .t (.tuple [.int (i : Nat), d]) := by
  unfold enumL at h
  rw [List.getElem?_map] at h
  cases e : ds.zipIdx[i]? with
  | none => rw [e] at h; cases h
  | some p =>
    rw [e] at h
    cases h
    rw [List.getElem?_zipIdx] at e
    cases e2 : ds[i]? with
    | none => rw [e2] at e; cases e
    | some d =>
      rw [e2] at e
      cases e
      exact ⟨d, rfl, by simp⟩
theorem enumL_len (ds : List T) : (enumL ds).length = ds.length := by simp [enumL]
def PsOk (n m : Nat) (ps : List (Int × Int)) : Prop := ∀ p ∈ ps, 0 ≤ p.1 ∧ p.1 < n ∧ 0 ≤ p.2 ∧ p.2 < m
theorem lr_step {one other : List T} {RT : List (List Int)} (h1 : Lns one) (h2 : Lns other) (hR : RT.length = one.length + 1) (ok : RtOk other.length RT) (i : Nat) (v : Val) (env : En) (mu : Mu) (hi : (enumL one)[i]? = some v)
    (hI : ∃ (late : Nat) (found : List (Int × Int)) (v5 v6 v7 v8 v9 : Option Val), env = [some (.bor (.list one)), some (.bor (.list other)), some (.t (mostT RT)), some (.lab 0), some (.t (.int late)), v5, v6, v7, v8, v9] ∧ mu = [some (.lst ((found.map pairT).map .t))] ∧ late ≤ other.length ∧ found.length ≤ i ∧ PsOk one.length other.length found) :
    ∃ env1 env2 mu2, gtTup 2 (gtCons (gtName 5) (gtCons (gtName 6) gtNil)) v env = some env1 ∧ A_lb_longest_row_2 (A_l_longest_row_1 A_lc_longest_row_1 A_lm_longest_row_1) env1 mu = some (.nx env2 mu2) ∧
      ∃ (late : Nat) (found : List (Int × Int)) (v5 v6 v7 v8 v9 : Option Val), env2 = [some (.bor (.list one)), some (.bor (.list other)), some (.t (mostT RT)), some (.lab 0), some (.t (.int late)), v5, v6, v7, v8, v9] ∧ mu2 = [some (.lst ((found.map pairT).map .t))] ∧ late ≤ other.length ∧ found.length ≤ i + 1 ∧ PsOk one.length other.length found := by
  obtain ⟨late, found, v5, v6, v7, v8, v9, rfl, rfl, hla, hf, hp⟩ := hI
  obtain ⟨d, hd, rfl⟩ := enumL_get hi
  have hi2 : i < one.length := (List.getElem?_eq_some_iff.mp hd).1
  have hl1 := h1.1
  obtain ⟨s, _, rfl⟩ := h1.2 d (List.mem_of_getElem? hd)
  have g0 : RT[0]? = some (RT[0]'(by omega)) := List.getElem?_eq_getElem _
  have g1 : RT[i + 1]? = some (RT[i + 1]'(by omega)) := List.getElem?_eq_getElem _
  have o0 : (RT[0]'(by omega)).length = other.length + 1 := ok _ (List.getElem_mem _)
  have o1 : (RT[i + 1]'(by omega)).length = other.length + 1 := ok _ (List.getElem_mem _)
  generalize RT[0]'(by omega) = r0 at g0 o0
  generalize RT[i + 1]'(by omega) = r1 at g1 o1
  have g00 : r0[0]? = some (r0[0]'(by omega)) := List.getElem?_eq_getElem _
  generalize r0[0]'(by omega) = z0 at g00
  obtain ⟨fs, e, hfs⟩ := lr_l1 (one := one) (s := s) (left := z0 - found.length) (v8 := v8) (v9 := v9) (mu := [some (.lst ((found.map pairT).map .t))]) h2 hla g1 o1
  have e3 := lr_b (v7 := v7) g0 g00 (by omega) e
  refine ⟨_, _, _, rfl, e3, ?_⟩
  cases fs with
  | nil => exact ⟨late, found, _, _, _, _, _, rfl, rfl, hla, by omega, hp⟩
  | cons f fs =>
    have hf2 := hfs f (List.mem_cons_self ..)
    refine ⟨(f + 1).toNat, found ++ [((i : Int), f)], some (.t (.int i)), some (.t (.str s)), some (.t (.int (z0 - found.length))), some (.t (.list ((f :: fs).map .int))), v9, ?_, rfl, by omega, by simp; omega, fun p hp2 => ?_⟩
    · have : (((f + 1).toNat : Nat) : Int) = f + 1 := by omega
      rw [this]
    · rcases List.mem_append.mp hp2 with hp2 | hp2
      · exact hp p hp2
      · cases List.mem_singleton.mp hp2
        exact ⟨by show (0 : Int) ≤ i; omega, by show (i : Int) < one.length; omega, by show 0 ≤ f; omega, hf2.2⟩
theorem lr_l2 {one other : List T} {RT : List (List Int)} (h1 : Lns one) (h2 : Lns other) (hR : RT.length = one.length + 1) (ok : RtOk other.length RT) :
    ∃ (found : List (Int × Int)) (v4 v5 v6 v7 v8 v9 : Option Val), A_l_longest_row_2 (A_lb_longest_row_2 (A_l_longest_row_1 A_lc_longest_row_1 A_lm_longest_row_1)) [some (.bor (.list one)), some (.bor (.list other)), some (.t (mostT RT)), some (.lab 0), some (.t (.int 0)), none, none, none, none, none] [some (.lst [])] =
      some (.nx [some (.bor (.list one)), some (.bor (.list other)), some (.t (mostT RT)), some (.lab 0), v4, v5, v6, v7, v8, v9] [some (.lst ((found.map pairT).map .t))]) ∧ found.length ≤ one.length ∧ PsOk one.length other.length found := by
  obtain ⟨env', mu', e, late, found, v5, v6, v7, v8, v9, rfl, rfl, _, hf, hp⟩ := sFor_inv (it := iEnm (eVar 0)) (t := gtTup 2 (gtCons (gtName 5) (gtCons (gtName 6) gtNil))) (body := A_lb_longest_row_2 (A_l_longest_row_1 A_lc_longest_row_1 A_lm_longest_row_1)) (items := enumL one) (env := [some (.bor (.list one)), some (.bor (.list other)), some (.t (mostT RT)), some (.lab 0), some (.t (.int 0)), none, none, none, none, none]) (mu := [some (.lst [])]) (mu1 := [some (.lst [])])
    (fun i env mu => ∃ (late : Nat) (found : List (Int × Int)) (v5 v6 v7 v8 v9 : Option Val), env = [some (.bor (.list one)), some (.bor (.list other)), some (.t (mostT RT)), some (.lab 0), some (.t (.int late)), v5, v6, v7, v8, v9] ∧ mu = [some (.lst ((found.map pairT).map .t))] ∧ late ≤ other.length ∧ found.length ≤ i ∧ PsOk one.length other.length found)
    (by simp) ⟨0, [], none, none, none, none, none, rfl, rfl, by omega, by simp, fun p hp => by cases hp⟩ (lr_step h1 h2 hR ok)
  rw [enumL_len] at hf
  exact ⟨found, _, v5, v6, v7, v8, v9, e, hf, hp⟩
theorem lr_end {M : FnS} {L : Sx} {one other : List T} {RT : List (List Int)} {found : List (Int × Int)} {v4 v5 v6 v7 v8 v9 : Option Val} (eM : M [.b (.list one), .b (.list other)] = some (.fr (.lst ((RT.map rowT).map .t)), []))
    (e : L [some (.bor (.list one)), some (.bor (.list other)), some (.t (mostT RT)), some (.lab 0), some (.t (.int 0)), none, none, none, none, none] [some (.lst [])] =
      some (.nx [some (.bor (.list one)), some (.bor (.list other)), some (.t (mostT RT)), some (.lab 0), v4, v5, v6, v7, v8, v9] [some (.lst ((found.map pairT).map .t))])) :
    fnS 2 10 (A_b_longest_row M L) [.b (.list one), .b (.list other)] = some (.fr (.lst ((found.map pairT).map .t)), []) := by
  unfold A_b_longest_row
  unfold mostT at e
  simp at eM e
  simp [eM, e, textLine]
theorem common_A {M1 M2 : FnS} {one other ps : List T} (e1 : M1 [.b (.list one)] = some (.v .none, [])) (e2 : M1 [.b (.list other)] = some (.v .none, [])) (e3 : M2 [.b (.list one), .b (.list other)] = some (.fr (.lst (ps.map .t)), [])) :
    fnS 2 2 (A_b_common_row M1 M2) [.b (.list one), .b (.list other)] = some (.fr (.lst (ps.map .t)), []) := by
  unfold A_b_common_row
  simp [e1, e2, e3]
theorem common_ok {one other : List T} (h1 : Lns one) (h2 : Lns other) : ∃ ps : List (Int × Int), m_common_row [.b (.list one), .b (.list other)] = some (.fr (.lst ((ps.map pairT).map .t)), []) ∧ ps.length ≤ 1000 ∧ PsOk one.length other.length ps := by
  obtain ⟨RT, eM, hR, ok⟩ := most_behind_ok h1 h2
  obtain ⟨ps, v4, v5, v6, v7, v8, v9, e, hf, hp⟩ := lr_l2 h1 h2 hR ok
  have hl := h1.1
  exact ⟨ps, common_A (M1 := m_check_lines) (M2 := m_longest_row) (check_lines_ok h1) (check_lines_ok h2) (lr_end (M := m_most_behind) (L := l_longest_row_2) eM e), by omega, hp⟩
end HdK

set_option Elab.async false
set_option linter.all false
set_option maxRecDepth 100000
set_option maxHeartbeats 4000000
namespace HdK
open PySem PySem.Spec PyProof.Rows L2 Vi
/-! ### woven on: the places that stand, their lines, what is kept -/
def plT (p : Th × Nat) : T := .tuple [.int (p.2 : Nat), thT p.1]
theorem enum_w (w : List Th) : enumL (w.map thT) = w.zipIdx.map (Val.t ∘ plT) := by
  unfold enumL
  rw [List.zipIdx_map, List.map_map]
  rfl
def EsOk (n : Nat) (es : List Int) : Prop := es.length ≤ n ∧ ∀ e ∈ es, 0 ≤ e ∧ e < n
theorem wo_1 {M : FnS} {w : List Th} {newer : List T} {k : Int} (hw : w.length ≤ 1000) (hM : ∀ (t : Th) (k : Int), M [.b (thT t), .b (.int k)] = some (.v (.bool (t.stands k)), [])) :
    ∃ es : List Int, A_l_woven_on_1 (A_lc_woven_on_1 M) A_lm_woven_on_1 [some (.bor (wT w)), some (.bor (.list newer)), some (.t (.int k)), none, none, none, none, none, none, none, none, none, none] [] = some (.lst ((es.map PyData.int).map .t), []) ∧ EsOk w.length es := by
  let f : Th × Nat → Option T := fun p => if p.1.stands (k - 1) then some (.int (p.2 : Nat)) else none
  let es : List Int := (w.zipIdx.filter fun p => p.1.stands (k - 1)).map fun p => ((p.2 : Nat) : Int)
  have ef : w.zipIdx.filterMap f = es.map PyData.int := by
    show List.filterMap f _ = List.map PyData.int (List.map _ (List.filter _ _))
    generalize w.zipIdx = xs
    induction xs with
    | nil => rfl
    | cons x xs ih =>
      rw [List.filterMap_cons, List.filter_cons, ih]
      by_cases z : x.1.stands (k - 1) = true
      · simp [f, z]
      · simp [f, z]
  refine ⟨es, ?_, ?_, fun e he => ?_⟩
  · rw [← ef]
    unfold A_l_woven_on_1
    refine fComp_ok plT f (by simp [wT, enum_w]) (by decide) (fun p hp => ⟨[some (.bor (wT w)), some (.bor (.list newer)), some (.t (.int k)), none, none, none, none, none, none, none, some (.t (.int (p.2 : Nat))), some (.t (thT p.1)), none], by simp [plT], ?_⟩) (by simp; unfold textLine; omega)
    have h := hM p.1 (k - 1)
    unfold A_lc_woven_on_1 A_lm_woven_on_1
    show (match f p with | some y => _ | none => _)
    cases z : p.1.stands (k - 1) with
    | true =>
      rw [z] at h
      have : f p = some (.int (p.2 : Nat)) := by simp [f, z]
      rw [this]
      unfold thT at h ⊢
      simp [h]
    | false =>
      rw [z] at h
      have : f p = none := by simp [f, z]
      rw [this]
      unfold thT at h ⊢
      simp [h]
  · show (List.map _ (List.filter _ _)).length ≤ _
    rw [List.length_map]
    exact Nat.le_trans (List.length_filter_le _ _) (by simp)
  · obtain ⟨p, hp, rfl⟩ := List.mem_map.mp he
    have := List.mem_zipIdx (List.mem_filter.mp hp).1
    omega
theorem wo_2 {w : List Th} {newer : List T} {k : Int} {es : List Int} (hw : w.length ≤ 1000) (hs : ∀ t ∈ w, IsLine (.str t.s)) (he : EsOk w.length es) :
    ∃ ls : List T, A_l_woven_on_2 A_lm_woven_on_2 [some (.bor (wT w)), some (.bor (.list newer)), some (.t (.int k)), some (.t (nsT es)), none, none, none, none, none, none, none, none, none] [] = some (.lst (ls.map .t), []) ∧ Lns ls ∧ ls.length = es.length := by
  have g : ∀ e ∈ es, ∃ t, w[e.toNat]? = some t ∧ t ∈ w := fun e h => by
    have h2 := he.2 e h
    have : e.toNat < w.length := by omega
    exact ⟨w[e.toNat], List.getElem?_eq_getElem this, List.getElem_mem this⟩
  let f : Int → T := fun e => match w[e.toNat]? with
    | some t => .str t.s
    | none => .none
  refine ⟨es.map f, ?_, ⟨by rw [List.length_map]; have := he.1; omega, fun x hx => ?_⟩, by simp⟩
  · unfold A_l_woven_on_2
    refine fComp_map PyData.int f (by simp [nsT]) (by decide) (fun e h => ⟨[some (.bor (wT w)), some (.bor (.list newer)), some (.t (.int k)), some (.t (nsT es)), none, none, none, none, none, none, some (.t (.int e)), none, none], rfl, ?_⟩) (by have := he.1; unfold textLine; omega)
    obtain ⟨t, ht, _⟩ := g e h
    have h2 := he.2 e h
    obtain ⟨j, rfl⟩ := Int.eq_ofNat_of_zero_le h2.1
    have a1 : atI (w.map (Val.t ∘ thT)) (j : Int) = some (.t (thT t)) := atI_at (by rw [List.getElem?_map]; simp at ht; rw [ht]; rfl)
    have ef : f (j : Int) = .str t.s := by simp only [f, ht]
    rw [ef]
    unfold A_lm_woven_on_2
    have a2 : atI [PyData.str t.s, PyData.int t.put, goT t.gone] 0 = some (.str t.s) := rfl
    simp [wT, thT, a1, a2]
  · obtain ⟨e, h, rfl⟩ := List.mem_map.mp hx
    obtain ⟨t, ht, hm⟩ := g e h
    have ef : f e = .str t.s := by simp only [f, ht]
    rw [ef]
    exact hs t hm
/-! kept: from the places of newer lines to the places of the elder ones -/
def KdOk (n : Nat) (kvs : List (T × Val)) : Prop := kvs.length ≤ 1000 ∧ ∀ p ∈ kvs, ∃ l e : Int, p = (.int l, .t (.int e)) ∧ 0 ≤ e ∧ e < n
theorem putT_ok {n : Nat} {kvs : List (T × Val)} {l e : Int} (h : ∀ p ∈ kvs, ∃ l e : Int, p = (.int l, .t (.int e)) ∧ 0 ≤ e ∧ e < n) (he : 0 ≤ e ∧ e < n) : ∀ p ∈ putT kvs (.int l) (.t (.int e)), ∃ l e : Int, p = (.int l, .t (.int e)) ∧ 0 ≤ e ∧ e < n := fun p hp => by
  unfold putT at hp
  split at hp
  · obtain ⟨q, hq, rfl⟩ := List.mem_map.mp hp
    split
    · obtain ⟨l', e', rfl, _⟩ := h q hq
      exact ⟨l', e, rfl, he⟩
    · exact h q hq
  · rcases List.mem_append.mp hp with hp | hp
    · exact h p hp
    · cases List.mem_singleton.mp hp
      exact ⟨l, e, rfl, he⟩
theorem lpD_ok {n : Nat} {t : Tn} {mk mv : Ex} {env0 : En} {mu : Mu} : ∀ {ps : List (Int × Int)} {acc : List (T × Val)}, (∀ p ∈ ps, ∃ env1 e, tnE t (.t (pairT p)) env0 = some env1 ∧ mk env1 mu = some (.t (.int p.2), mu) ∧ mv env1 mu = some (.t (.int e), mu) ∧ 0 ≤ e ∧ e < (n : Int)) →
    (∀ p ∈ acc, ∃ l e : Int, p = (.int l, .t (.int e)) ∧ 0 ≤ e ∧ e < n) → acc.length + ps.length ≤ 1000 →
    ∃ kvs, lpD t cYes mk mv env0 (ps.map (Val.t ∘ pairT)) acc mu = some (kvs, mu) ∧ KdOk n kvs
  | [], acc, _, ha, hl => ⟨acc, rfl, by simpa using hl, ha⟩
  | p :: ps, acc, h, ha, hl => by
    obtain ⟨env1, e, h1, h2, h3, he⟩ := h p (List.mem_cons_self ..)
    simp only [List.length_cons] at hl
    obtain ⟨kvs, e1, ok⟩ := lpD_ok (t := t) (mk := mk) (mv := mv) (env0 := env0) (mu := mu) (ps := ps) (acc := putT acc (.int p.2) (.t (.int e))) (fun q hq => h q (List.mem_cons_of_mem _ hq)) (putT_ok ha he) (by have := putT_len acc (.int p.2) (Val.t (.int e)); omega)
    refine ⟨kvs, ?_, ok⟩
    simp only [List.map_cons, Function.comp, lpD, h1, cYes, h2, h3]
    rw [if_pos ⟨by unfold textLine; omega, rfl, rfl⟩]
    exact e1
theorem wo_3 {M : FnS} {L2' : Fx} {w : List Th} {newer ls : List T} {k : Int} {es : List Int} {ps : List (Int × Int)} (he : EsOk w.length es) (hn : newer.length ≤ 1000) (hps : ps.length ≤ 1000) (hp : PsOk es.length newer.length ps)
    (e2 : L2' [some (.bor (wT w)), some (.bor (.list newer)), some (.t (.int k)), some (.t (nsT es)), none, none, none, none, none, none, none, none, none] [] = some (.lst (ls.map .t), []))
    (eM : M [.b (.list ls), .b (.list newer)] = some (.fr (.lst ((ps.map pairT).map .t)), [])) :
    ∃ kvs, A_l_woven_on_3 M L2' A_lk_woven_on_3 A_lm_woven_on_3 [some (.bor (wT w)), some (.bor (.list newer)), some (.t (.int k)), some (.t (nsT es)), none, none, none, none, none, none, none, none, none] [] = some (.dct .k kvs, []) ∧ KdOk w.length kvs := by
  obtain ⟨kvs, e, ok⟩ := lpD_ok (n := w.length) (t := .tp [12, 8]) (mk := A_lk_woven_on_3) (mv := A_lm_woven_on_3) (env0 := [some (.bor (wT w)), some (.bor (.list newer)), some (.t (.int k)), some (.t (nsT es)), none, none, none, none, none, none, none, none, none]) (mu := []) (ps := ps) (acc := []) (fun p hp2 => by
    have h := hp p hp2
    obtain ⟨j, hj⟩ := Int.eq_ofNat_of_zero_le h.1
    have hj2 : j < es.length := by omega
    have h3 := he.2 es[j] (List.getElem_mem hj2)
    refine ⟨[some (.bor (wT w)), some (.bor (.list newer)), some (.t (.int k)), some (.t (nsT es)), none, none, none, none, some (.t (.int p.2)), none, none, none, some (.t (.int p.1))], es[j], by simp [pairT], rfl, ?_, h3.1, h3.2⟩
    have a1 : atI (es.map (Val.t ∘ PyData.int)) (j : Int) = some (.t (.int es[j])) := atI_at (by rw [List.getElem?_map, List.getElem?_eq_getElem hj2]; rfl)
    rw [hj]
    unfold A_lm_woven_on_3
    simp [nsT, a1]) (by simp) (by simpa using hps)
  refine ⟨kvs, ?_, ok⟩
  have hit : (iLst (eRet (rCall M [.b, .b] (aCons (eFr L2') (aCons (eVar 1) aNil))))) [some (.bor (wT w)), some (.bor (.list newer)), some (.t (.int k)), some (.t (nsT es)), none, none, none, none, none, none, none, none, none] [] = some (ps.map (Val.t ∘ pairT), []) := by
    simp at eM
    simp [e2, eM]
  unfold A_l_woven_on_3 fDcomp
  rw [hit]
  dsimp only
  rw [show wipeE [some (.bor (wT w)), some (.bor (.list newer)), some (.t (.int k)), some (.t (nsT es)), none, none, none, none, none, none, none, none, none] [12, 8] = [some (.bor (wT w)), some (.bor (.list newer)), some (.t (.int k)), some (.t (nsT es)), none, none, none, none, none, none, none, none, none] from rfl, e]
  rfl
end HdK

set_option Elab.async false
set_option linter.all false
set_option maxRecDepth 100000
set_option maxHeartbeats 4000000
namespace HdK
open PySem PySem.Spec PyProof.Rows L2 Vi
/-! put: what comes behind each place -/
def kT : Option Int → T
  | none => .none
  | some e => .int e
theorem teq_kT (a b : Option Int) : teq (kT a) (kT b) = decide (a = b) := by
  cases a <;> cases b <;> simp [kT, teq]
abbrev Qe := Option Int × Nat × List Th
def pv (Q : List Qe) : List (T × Val) := Q.map fun q => (kT q.1, .lab q.2.1)
def sm (Q : List Qe) : Nat := (Q.map fun q => q.2.2.length).sum
structure QI (k : Int) (mu : Mu) (Q : List Qe) : Prop where
  lab : ∀ q ∈ Q, q.2.1 ≠ 0 ∧ q.2.1 ≠ 2 ∧ mu[q.2.1]? = some (some (.lst (q.2.2.map (Val.t ∘ thT)))) ∧ ∀ t ∈ q.2.2, ThOk k t
  nk : (Q.map (·.1)).Nodup
  nl : (Q.map (·.2.1)).Nodup
theorem inj_nd {α β : Type} {f : α → β} : ∀ {xs : List α} {x y : α}, (xs.map f).Nodup → x ∈ xs → y ∈ xs → f x = f y → x = y
  | [], _, _, _, h, _, _ => by cases h
  | z :: zs, x, y, nd, hx, hy, e => by
    rw [List.map_cons, List.nodup_cons] at nd
    rcases List.mem_cons.mp hx with e1 | h1
    · rcases List.mem_cons.mp hy with e2 | h2
      · rw [e1, e2]
      · exact absurd (List.mem_map.mpr ⟨y, h2, by rw [← e, e1]⟩) nd.1
    · rcases List.mem_cons.mp hy with e2 | h2
      · exact absurd (List.mem_map.mpr ⟨x, h1, by rw [e, e2]⟩) nd.1
      · exact inj_nd nd.2 h1 h2 e
theorem find_pv (Q : List Qe) (b : Option Int) : findT (pv Q) (kT b) = (Q.find? fun q => decide (q.1 = b)).map fun q => .lab q.2.1 := by
  unfold findT pv
  induction Q with
  | nil => rfl
  | cons q Q ih =>
    rw [List.map_cons, List.find?_cons, List.find?_cons, teq_kT]
    by_cases z : q.1 = b
    · simp [z]
    · simp only [z, decide_false]
      exact ih
theorem find_mem {Q : List Qe} {b : Option Int} (h : b ∈ Q.map (·.1)) : ∃ q ∈ Q, q.1 = b ∧ findT (pv Q) (kT b) = some (.lab q.2.1) := by
  rw [find_pv]
  cases e : Q.find? fun q => decide (q.1 = b) with
  | none =>
    obtain ⟨q, hq, rfl⟩ := List.mem_map.mp h
    have := List.find?_eq_none.mp e q hq
    simp at this
  | some q => exact ⟨q, List.mem_of_find?_eq_some e, by have := List.find?_some e; simpa using this, rfl⟩
/-- one more thread behind b -/
def addQ (Q : List Qe) (b : Option Int) (t : Th) : List Qe := Q.map fun x => if x.1 = b then (x.1, x.2.1, x.2.2 ++ [t]) else x
theorem addQ_pv (Q : List Qe) (b : Option Int) (t : Th) : pv (addQ Q b t) = pv Q := by
  unfold pv addQ
  rw [List.map_map]
  exact List.map_congr_left fun x _ => by
    by_cases z : x.1 = b <;> simp [z]
theorem addQ_k (Q : List Qe) (b : Option Int) (t : Th) : (addQ Q b t).map (·.1) = Q.map (·.1) := by
  unfold addQ
  rw [List.map_map]
  exact List.map_congr_left fun x _ => by
    by_cases z : x.1 = b <;> simp [z]
theorem addQ_l (Q : List Qe) (b : Option Int) (t : Th) : (addQ Q b t).map (·.2.1) = Q.map (·.2.1) := by
  unfold addQ
  rw [List.map_map]
  exact List.map_congr_left fun x _ => by
    by_cases z : x.1 = b <;> simp [z]
theorem addQ_out {Q : List Qe} {b : Option Int} {t : Th} (h : b ∉ Q.map (·.1)) : addQ Q b t = Q := by
  unfold addQ
  refine (List.map_congr_left fun x hx => ?_).trans (List.map_id' Q)
  rw [if_neg fun z => h (List.mem_map.mpr ⟨x, hx, z⟩)]
theorem addQ_sm (Q : List Qe) (b : Option Int) (t : Th) (nd : (Q.map (·.1)).Nodup) : sm (addQ Q b t) ≤ sm Q + 1 := by
  induction Q with
  | nil => simp [sm, addQ]
  | cons q Q ih =>
    rw [List.map_cons, List.nodup_cons] at nd
    have ih := ih nd.2
    by_cases z : q.1 = b
    · have e : addQ (q :: Q) b t = (q.1, q.2.1, q.2.2 ++ [t]) :: Q := by
        have := addQ_out (t := t) (z ▸ nd.1 : b ∉ Q.map (·.1))
        unfold addQ at this ⊢
        rw [List.map_cons, if_pos z, this]
      rw [e]
      simp [sm]
      omega
    · have e : addQ (q :: Q) b t = q :: addQ Q b t := by
        unfold addQ
        rw [List.map_cons, if_neg z]
      rw [e]
      simp only [sm, List.map_cons, List.sum_cons] at ih ⊢
      omega
theorem QI.add {k : Int} {mu : Mu} {Q : List Qe} {q : Qe} {t : Th} (h : QI k mu Q) (hq : q ∈ Q) (ht : ThOk k t) : QI k (mu.set q.2.1 (some (.lst ((q.2.2 ++ [t]).map (Val.t ∘ thT))))) (addQ Q q.1 t) := by
  refine ⟨fun x hx => ?_, by rw [addQ_k]; exact h.nk, by rw [addQ_l]; exact h.nl⟩
  obtain ⟨y, hy, rfl⟩ := List.mem_map.mp hx
  have hl := (List.getElem?_eq_some_iff.mp (h.lab q hq).2.2.1).1
  by_cases z : y.1 = q.1
  · have := inj_nd h.nk hy hq z
    subst this
    rw [if_pos rfl]
    have g := h.lab y hy
    refine ⟨g.1, g.2.1, List.getElem?_set_self hl, fun s hs => ?_⟩
    rcases List.mem_append.mp hs with hs | hs
    · exact g.2.2.2 s hs
    · cases List.mem_singleton.mp hs; exact ht
  · rw [if_neg z]
    have g := h.lab y hy
    refine ⟨g.1, g.2.1, ?_, g.2.2.2⟩
    rw [List.getElem?_set_ne fun e => z (congrArg (·.1) (inj_nd h.nl hy hq e.symm))]
    exact g.2.2.1
/-- a new list behind b -/
def newQ (Q : List Qe) (b : Option Int) (l : Nat) : List Qe := if b ∈ Q.map (·.1) then Q.map (fun x => if x.1 = b then (x.1, l, []) else x) else Q ++ [(b, l, [])]
theorem newQ_pv (Q : List Qe) (b : Option Int) (l : Nat) : putT (pv Q) (kT b) (.lab l) = pv (newQ Q b l) := by
  unfold putT newQ
  have e : ((pv Q).any fun p => teq p.1 (kT b)) = decide (b ∈ Q.map (·.1)) := by
    unfold pv
    rw [List.any_map, Bool.eq_iff_iff]
    simp [teq_kT]
  rw [e]
  by_cases z : b ∈ Q.map (·.1)
  · rw [if_pos (by simpa using z), if_pos z]
    unfold pv
    rw [List.map_map, List.map_map]
    exact List.map_congr_left fun x _ => by
      by_cases y : x.1 = b <;> simp [teq_kT, y]
  · rw [if_neg (by simpa using z), if_neg z]
    unfold pv
    simp
theorem newQ_k {Q : List Qe} {b : Option Int} {l : Nat} : b ∈ (newQ Q b l).map (·.1) := by
  unfold newQ
  split
  · rename_i h
    obtain ⟨q, hq, rfl⟩ := List.mem_map.mp h
    exact List.mem_map.mpr ⟨_, List.mem_map.mpr ⟨q, hq, rfl⟩, by simp⟩
  · simp
theorem newQ_sm (Q : List Qe) (b : Option Int) (l : Nat) : sm (newQ Q b l) ≤ sm Q := by
  unfold newQ
  split
  · rename_i h
    clear h
    induction Q with
    | nil => simp [sm]
    | cons q Q ih =>
      simp only [sm, List.map_cons, List.sum_cons] at ih ⊢
      by_cases z : q.1 = b
      · rw [if_pos z]
        simp only [List.length_nil]
        omega
      · rw [if_neg z]
        omega
  · simp [sm]
theorem newQ_len (Q : List Qe) (b : Option Int) (l : Nat) : (newQ Q b l).length ≤ Q.length + 1 := by
  unfold newQ
  split <;> simp
theorem QI.new {k : Int} {mu : Mu} {Q : List Qe} {b : Option Int} {d : List (T × Val)} (h : QI k mu Q) (h2 : mu.length ≠ 0 ∧ mu.length ≠ 2) (hlen : 2 < mu.length) : QI k ((mu ++ [some (Cell.lst [])]).set 2 (some (.dct .n d))) (newQ Q b mu.length) := by
  have new : ((mu ++ [some (Cell.lst [])]).set 2 (some (.dct .n d)))[mu.length]? = some (some (.lst [])) := by
    rw [List.getElem?_set_ne (by omega)]
    simp
  have old : ∀ q ∈ Q, ((mu ++ [some (Cell.lst [])]).set 2 (some (.dct .n d)))[q.2.1]? = some (some (.lst (q.2.2.map (Val.t ∘ thT)))) := fun q hq => by
    have g := h.lab q hq
    rw [List.getElem?_set_ne (fun e => g.2.1 e.symm), List.getElem?_append_left (List.getElem?_eq_some_iff.mp g.2.2.1).1]
    exact g.2.2.1
  have lt : ∀ q ∈ Q, q.2.1 < mu.length := fun q hq => (List.getElem?_eq_some_iff.mp (h.lab q hq).2.2.1).1
  unfold newQ
  split
  · rename_i hb
    refine ⟨fun x hx => ?_, ?_, ?_⟩
    · obtain ⟨y, hy, rfl⟩ := List.mem_map.mp hx
      by_cases z : y.1 = b
      · rw [if_pos z]
        exact ⟨h2.1, h2.2, new, fun t ht => by cases ht⟩
      · rw [if_neg z]
        have g := h.lab y hy
        exact ⟨g.1, g.2.1, old y hy, g.2.2.2⟩
    · have e : (Q.map fun x => if x.1 = b then (x.1, mu.length, []) else x).map (·.1) = Q.map (·.1) := by
        rw [List.map_map]
        exact List.map_congr_left fun x _ => by
          by_cases z : x.1 = b <;> simp [z]
      rw [e]; exact h.nk
    · obtain ⟨q, hq, rfl⟩ := List.mem_map.mp hb
      have nk := h.nk
      have nl := h.nl
      clear hb hq old new h
      induction Q with
      | nil => simp
      | cons y Q ih =>
        rw [List.map_cons, List.nodup_cons] at nk nl
        have ih := ih (fun q hq => lt q (List.mem_cons_of_mem _ hq)) nk.2 nl.2
        rw [List.map_cons, List.map_cons, List.nodup_cons]
        refine ⟨fun hx => ?_, ih⟩
        obtain ⟨x', hx', e⟩ := List.mem_map.mp hx
        obtain ⟨x, hx2, rfl⟩ := List.mem_map.mp hx'
        have ly := lt y (List.mem_cons_self ..)
        have lx := lt x (List.mem_cons_of_mem _ hx2)
        by_cases z : x.1 = q.1
        · by_cases y' : y.1 = q.1
          · exact nk.1 (List.mem_map.mpr ⟨x, hx2, z.trans y'.symm⟩)
          · rw [if_pos z, if_neg y'] at e
            simp at e
            omega
        · by_cases y' : y.1 = q.1
          · rw [if_neg z, if_pos y'] at e
            simp at e
            omega
          · rw [if_neg z, if_neg y'] at e
            exact nl.1 (List.mem_map.mpr ⟨x, hx2, e⟩)
  · rename_i hb
    refine ⟨fun x hx => ?_, ?_, ?_⟩
    · rcases List.mem_append.mp hx with hx | hx
      · have g := h.lab x hx
        exact ⟨g.1, g.2.1, old x hx, g.2.2.2⟩
      · cases List.mem_singleton.mp hx
        exact ⟨h2.1, h2.2, new, fun t ht => by cases ht⟩
    · rw [List.map_append, List.nodup_append]
      refine ⟨h.nk, by simp, fun a ha c hc e => ?_⟩
      simp at hc
      subst hc
      subst e
      exact hb ha
    · rw [List.map_append, List.nodup_append]
      refine ⟨h.nl, by simp, fun a ha c hc e => ?_⟩
      simp at hc
      subst hc
      obtain ⟨q, hq, rfl⟩ := List.mem_map.mp ha
      have := lt q hq
      omega
end HdK

set_option Elab.async false
set_option linter.all false
set_option maxRecDepth 100000
set_option maxHeartbeats 4000000
namespace HdK
open PySem PySem.Spec PyProof.Rows L2 Vi
theorem keyOk_n (b : Option Int) : keyOk .n (kT b) = true := by cases b <;> rfl
theorem wl4_in {x0 x1 x3 x5 x10 x11 x12 xb : Option Val} {mu : Mu} {k late e : Int} {line : Str} {kvs pvs : List (T × Val)} (m0 : mu[0]? = some (some (.dct .k kvs))) (m2 : mu[2]? = some (some (.dct .n pvs))) (hf : findT kvs (.int late) = some (.t (.int e))) (hl : pvs.length < 100000) :
    A_lb_woven_on_4 [x0, x1, some (.t (.int k)), x3, some (.lab 0), x5, some (.lab 2), xb, some (.t (.int late)), some (.t (.str line)), x10, x11, x12] mu =
      some (.nx [x0, x1, some (.t (.int k)), x3, some (.lab 0), x5, some (.lab 2), some (.t (.int e)), some (.t (.int late)), some (.t (.str line)), x10, x11, x12] ((mu ++ [some (Cell.lst [])]).set 2 (some (.dct .n (putT pvs (.int e) (.lab mu.length)))))) := by
  have hm : 2 < mu.length := (List.getElem?_eq_some_iff.mp m2).1
  have m2' : (mu ++ [some (Cell.lst [])])[2]? = some (some (.dct .n pvs)) := by
    rw [List.getElem?_append_left hm]; exact m2
  have k1 : keyOk .k (.int late) = true := rfl
  have k2 : keyOk .n (.int e) = true := rfl
  unfold A_lb_woven_on_4
  simp [m0, m2, m2', hf, k1, k2, hl, textLine, -keyOk]
theorem wl4_out {x0 x1 x3 x5 x10 x11 x12 : Option Val} {mu : Mu} {k late : Int} {line : Str} {kvs pvs : List (T × Val)} {b : Option Int} {l : Nat} {xs : List Th} (m0 : mu[0]? = some (some (.dct .k kvs))) (m2 : mu[2]? = some (some (.dct .n pvs))) (hf : findT kvs (.int late) = none)
    (hb : findT pvs (kT b) = some (.lab l)) (ml : mu[l]? = some (some (.lst (xs.map (Val.t ∘ thT))))) (hl : xs.length < 100000) :
    A_lb_woven_on_4 [x0, x1, some (.t (.int k)), x3, some (.lab 0), x5, some (.lab 2), some (.t (kT b)), some (.t (.int late)), some (.t (.str line)), x10, x11, x12] mu =
      some (.nx [x0, x1, some (.t (.int k)), x3, some (.lab 0), x5, some (.lab 2), some (.t (kT b)), some (.t (.int late)), some (.t (.str line)), x10, x11, x12] (mu.set l (some (.lst ((xs ++ [(Th.mk line k none)]).map (Val.t ∘ thT)))))) := by
  have k1 : keyOk .k (.int late) = true := rfl
  have k2 := keyOk_n b
  have e : thT ⟨line, k, none⟩ = .tuple [.str line, .int k, .none] := rfl
  unfold A_lb_woven_on_4
  simp [m0, m2, hf, hb, ml, k1, k2, hl, textLine, e, -keyOk]
theorem kd_find {n : Nat} {kvs : List (T × Val)} (h : KdOk n kvs) (l : Int) : findT kvs (.int l) = none ∨ ∃ e : Int, findT kvs (.int l) = some (.t (.int e)) ∧ 0 ≤ e ∧ e < n := by
  unfold findT
  cases e : kvs.find? fun p => teq p.1 (.int l) with
  | none => exact .inl rfl
  | some p =>
    obtain ⟨l', e', rfl, h1, h2⟩ := h.2 p (List.mem_of_find?_eq_some e)
    exact .inr ⟨e', rfl, h1, h2⟩
theorem sm_mem : ∀ {Q : List Qe} {q : Qe}, q ∈ Q → q.2.2.length ≤ sm Q
  | x :: Q, q, h => by
    simp only [sm, List.map_cons, List.sum_cons]
    rcases List.mem_cons.mp h with rfl | h
    · omega
    · have := sm_mem h
      unfold sm at this
      omega
theorem wl4_step {w : List Th} {newer : List T} {k : Int} {x3 : Option Val} {kvs : List (T × Val)} {n : Nat} (hk : 0 ≤ k) (hkb : k ≤ 50) (hn : Lns newer) (kd : KdOk n kvs) (i : Nat) (v : Val) (env : En) (mu : Mu) (hi : (enumL newer)[i]? = some v)
    (hI : ∃ (Q : List Qe) (b : Option Int) (v8 v9 : Option Val), env = [some (.bor (wT w)), some (.bor (.list newer)), some (.t (.int k)), x3, some (.lab 0), none, some (.lab 2), some (.t (kT b)), v8, v9, none, none, none] ∧ mu[0]? = some (some (.dct .k kvs)) ∧ mu[2]? = some (some (.dct .n (pv Q))) ∧ QI k mu Q ∧ b ∈ Q.map (·.1) ∧ none ∈ Q.map (·.1) ∧ sm Q ≤ i ∧ Q.length ≤ i + 1) :
    ∃ env1 env2 mu2, gtTup 2 (gtCons (gtName 8) (gtCons (gtName 9) gtNil)) v env = some env1 ∧ A_lb_woven_on_4 env1 mu = some (.nx env2 mu2) ∧
      ∃ (Q : List Qe) (b : Option Int) (v8 v9 : Option Val), env2 = [some (.bor (wT w)), some (.bor (.list newer)), some (.t (.int k)), x3, some (.lab 0), none, some (.lab 2), some (.t (kT b)), v8, v9, none, none, none] ∧ mu2[0]? = some (some (.dct .k kvs)) ∧ mu2[2]? = some (some (.dct .n (pv Q))) ∧ QI k mu2 Q ∧ b ∈ Q.map (·.1) ∧ none ∈ Q.map (·.1) ∧ sm Q ≤ i + 1 ∧ Q.length ≤ i + 1 + 1 := by
  obtain ⟨Q, b, v8, v9, rfl, m0, m2, hQ, hb, hnone, hs, hql⟩ := hI
  obtain ⟨d, hd, rfl⟩ := enumL_get hi
  have hi2 : i < newer.length := (List.getElem?_eq_some_iff.mp hd).1
  have hl1 := hn.1
  obtain ⟨s, hs2, rfl⟩ := hn.2 d (List.mem_of_getElem? hd)
  have hm : 2 < mu.length := (List.getElem?_eq_some_iff.mp m2).1
  rcases kd_find kd i with hf | ⟨e, hf, e0, e1⟩
  · obtain ⟨q, hq, rfl, hfq⟩ := find_mem hb
    have g := hQ.lab q hq
    have hlen : q.2.2.length ≤ sm Q := by
      exact sm_mem hq
    refine ⟨_, _, _, rfl, wl4_out m0 m2 hf hfq g.2.2.1 (by omega), addQ Q q.1 (Th.mk s k none), q.1, some (.t (.int i)), some (.t (.str s)), rfl, ?_, ?_, hQ.add (t := Th.mk s k none) hq ⟨⟨s, hs2, rfl⟩, hk, Int.le_refl _, fun g hg => by cases hg⟩, by rw [addQ_k]; exact hb, by rw [addQ_k]; exact hnone, Nat.le_trans (addQ_sm Q q.1 _ hQ.nk) (by omega), by simp [addQ]; omega⟩
    · rw [List.getElem?_set_ne g.1]; exact m0
    · rw [List.getElem?_set_ne g.2.1, addQ_pv]; exact m2
  · refine ⟨_, _, _, rfl, wl4_in m0 m2 hf (by unfold pv; rw [List.length_map]; omega), newQ Q (some e) mu.length, some e, some (.t (.int i)), some (.t (.str s)), rfl, ?_, ?_, hQ.new (by omega) hm, newQ_k, ?_, Nat.le_trans (newQ_sm _ _ _) (by omega), Nat.le_trans (newQ_len _ _ _) (by omega)⟩
    · rw [List.getElem?_set_ne (by omega), List.getElem?_append_left (by omega)]; exact m0
    · rw [← newQ_pv, List.getElem?_set_self (by simp; omega)]; rfl
    · unfold newQ
      split
      · obtain ⟨q, hq, hqe⟩ := List.mem_map.mp hnone
        refine List.mem_map.mpr ⟨_, List.mem_map.mpr ⟨q, hq, rfl⟩, ?_⟩
        by_cases z : q.1 = some e
        · rw [if_pos z]; exact hqe
        · rw [if_neg z]; exact hqe
      · rw [List.map_append]
        exact List.mem_append.mpr (.inl hnone)
end HdK

set_option Elab.async false
set_option linter.all false
set_option maxRecDepth 100000
set_option maxHeartbeats 4000000
namespace HdK
open PySem PySem.Spec PyProof.Rows L2 Vi
def gl (Q : List Qe) (b : Option Int) : List Th := ((Q.find? fun q => decide (q.1 = b)).map (·.2.2)).getD []
theorem sm_mono {Q : List Qe} {P P' : Qe → Bool} (h : ∀ q, P q = true → P' q = true) : sm (Q.filter P) ≤ sm (Q.filter P') := by
  induction Q with
  | nil => simp [sm]
  | cons q Q ih =>
    rw [List.filter_cons, List.filter_cons]
    by_cases z : P q = true
    · rw [if_pos z, if_pos (h q z)]
      simp only [sm, List.map_cons, List.sum_cons] at ih ⊢
      omega
    · rw [if_neg z]
      split
      · simp only [sm, List.map_cons, List.sum_cons] at ih ⊢
        omega
      · exact ih
theorem sm_le (Q : List Qe) (P : Qe → Bool) : sm (Q.filter P) ≤ sm Q := by
  induction Q with
  | nil => simp [sm]
  | cons q Q ih =>
    rw [List.filter_cons]
    split
    · simp only [sm, List.map_cons, List.sum_cons] at ih ⊢
      omega
    · simp only [sm, List.map_cons, List.sum_cons] at ih ⊢
      omega
theorem sm_step {Q : List Qe} {P P' : Qe → Bool} {b : Option Int} (h : ∀ q, P q = true → P' q = true) (h1 : ∀ q, q.1 = b → P q = false) (h2 : ∀ q, q.1 = b → P' q = true) : sm (Q.filter P) + (gl Q b).length ≤ sm (Q.filter P') := by
  induction Q with
  | nil => simp [sm, gl]
  | cons q Q ih =>
    by_cases z : q.1 = b
    · have e : gl (q :: Q) b = q.2.2 := by simp [gl, z]
      rw [e, List.filter_cons, List.filter_cons, if_neg (by rw [h1 q z]; decide), if_pos (h2 q z)]
      have := sm_mono (Q := Q) h
      simp only [sm, List.map_cons, List.sum_cons] at this ⊢
      omega
    · have e : gl (q :: Q) b = gl Q b := by simp [gl, z]
      rw [e, List.filter_cons, List.filter_cons]
      by_cases y : P q = true
      · rw [if_pos y, if_pos (h q y)]
        simp only [sm, List.map_cons, List.sum_cons] at ih ⊢
        omega
      · rw [if_neg y]
        split
        · simp only [sm, List.map_cons, List.sum_cons] at ih ⊢
          omega
        · exact ih
theorem gl_find {k : Int} {mu : Mu} {Q : List Qe} (h : QI k mu Q) (b : Option Int) : (findT (pv Q) (kT b) = none ∧ gl Q b = []) ∨ ∃ l, findT (pv Q) (kT b) = some (.lab l) ∧ mu[l]? = some (some (.lst ((gl Q b).map (Val.t ∘ thT)))) := by
  rw [find_pv]
  unfold gl
  cases e : Q.find? fun q => decide (q.1 = b) with
  | none => exact .inl ⟨rfl, rfl⟩
  | some q => exact .inr ⟨q.2.1, rfl, (h.lab q (List.mem_of_find?_eq_some e)).2.2.1⟩
theorem gl_ok {k : Int} {mu : Mu} {Q : List Qe} (h : QI k mu Q) (b : Option Int) : ∀ t ∈ gl Q b, ThOk k t := fun t ht => by
  unfold gl at ht
  cases e : Q.find? fun q => decide (q.1 = b) with
  | none => rw [e] at ht; cases ht
  | some q => rw [e] at ht; exact (h.lab q (List.mem_of_find?_eq_some e)).2.2.2 t ht
def cutTh (t : Th) (k : Int) (z : Bool) : Th := if t.stands (k - 1) && z then ⟨t.s, t.put, some k⟩ else t
theorem goS (k : Int) : goT (some k) = .int k := rfl
theorem wl5_b {M : FnS} {x0 x1 x3 x7 x8 x9 x12 : Option Val} {v5 : Val} {mu : Mu} {k : Int} {p : Nat} {t : Th} {Q : List Qe} {fl : List Th} (hM : M [.b (thT t), .b (.int (k - 1))] = some (.v (.bool (t.stands (k - 1))), [])) (m2 : mu[2]? = some (some (.dct .n (pv Q)))) (hQ : QI k mu Q)
    (hv : (∃ l, v5 = .lab l ∧ mu[l]? = some (some (.lst (fl.map (Val.t ∘ thT))))) ∨ v5 = .t (wT fl)) (hl : fl.length + (gl Q (some (p : Int))).length < 90000) :
    A_lb_woven_on_5 M [x0, x1, some (.t (.int k)), x3, some (.lab 0), some v5, some (.lab 2), x7, x8, x9, some (.t (.int p)), some (.t (thT t)), x12] mu =
      some (.nx [x0, x1, some (.t (.int k)), x3, some (.lab 0), some (.t (wT (fl ++ [cutTh t k (findT (pv Q) (kT (some (p : Int)))).isNone] ++ gl Q (some (p : Int))))), some (.lab 2), x7, x8, x9, some (.t (.int p)), some (.t (thT (cutTh t k (findT (pv Q) (kT (some (p : Int)))).isNone))), x12] mu) := by
  have k2 : keyOk .n (.int (p : Int)) = true := rfl
  have e0 : thT ⟨t.s, t.put, some k⟩ = .tuple [.str t.s, .int t.put, .int k] := rfl
  have q1 : fl.length + 1 ≤ 100000 := by omega
  have q2 : fl.length + 1 + (gl Q (some (p : Int))).length ≤ 100000 := by omega
  have q3 : fl.length + 1 ≤ 100000 := by omega
  have a1 : atI [PyData.str t.s, PyData.int t.put, goT t.gone] 0 = some (.str t.s) := rfl
  have a2 : atI [PyData.str t.s, PyData.int t.put, goT t.gone] 1 = some (.int t.put) := rfl
  unfold cutTh
  generalize t.stands (k - 1) = z at hM
  unfold A_lb_woven_on_5
  unfold thT at hM
  rcases gl_find hQ (some (p : Int)) with ⟨hf, hg⟩ | ⟨l, hf, ml⟩
  · have hf' : findT (pv Q) (.int (p : Int)) = none := hf
    rw [hg] at q2 ⊢
    rcases hv with ⟨l0, rfl, m0⟩ | rfl
    · cases z <;> simp [hM, m0, m2, hf, hf', k2, a1, a2, q1, q2, q3, wT, thT, goS, textLine, -keyOk]
    · cases z <;> simp [hM, m2, hf, hf', k2, a1, a2, q1, q2, q3, wT, thT, goS, textLine, -keyOk]
  · have hf' : findT (pv Q) (.int (p : Int)) = some (.lab l) := hf
    generalize gl Q (some (p : Int)) = G at ml q2 ⊢
    rcases hv with ⟨l0, rfl, m0⟩ | rfl
    · cases z <;> simp [hM, m0, m2, ml, hf, hf', k2, a1, a2, q1, q2, q3, wT, thT, goS, textLine, -keyOk]
    · cases z <;> simp [hM, m2, ml, hf, hf', k2, a1, a2, q1, q2, q3, wT, thT, goS, textLine, -keyOk]
end HdK

set_option Elab.async false
set_option linter.all false
set_option maxRecDepth 100000
set_option maxHeartbeats 4000000
namespace HdK
open PySem PySem.Spec PyProof.Rows L2 Vi
def used (i : Nat) (q : Qe) : Bool := match q.1 with
  | none => true
  | some e => decide (e < (i : Int))
theorem cutTh_ok {t : Th} {k : Int} {z : Bool} (h : ThOk (k - 1) t) : ThOk k (cutTh t k z) := by
  unfold cutTh
  split
  · rename_i hz
    refine ⟨h.ln, h.p0, by have := h.pb; show t.put ≤ k; omega, fun g hg => ?_⟩
    cases hg
    have := h.pb
    show t.put < k ∧ k ≤ k
    omega
  · exact ⟨h.ln, h.p0, by have := h.pb; omega, fun g hg => by have := h.g g hg; omega⟩
theorem wl5 {M : FnS} {w : List Th} {newer : List T} {x3 x7 x8 x9 : Option Val} {mu : Mu} {k : Int} {Q : List Qe} {l0 : Nat} (hM : ∀ (t : Th) (k : Int), M [.b (thT t), .b (.int k)] = some (.v (.bool (t.stands k)), [])) (m2 : mu[2]? = some (some (.dct .n (pv Q)))) (hQ : QI k mu Q)
    (hw : ∀ t ∈ w, ThOk (k - 1) t) (m0 : mu[l0]? = some (some (.lst ((gl Q none).map (Val.t ∘ thT))))) (hlen : w.length + sm Q < 80000) :
    ∃ (v5 : Val) (fl : List Th) (v10 v11 : Option Val), A_l_woven_on_5 (A_lb_woven_on_5 M) [some (.bor (wT w)), some (.bor (.list newer)), some (.t (.int k)), x3, some (.lab 0), some (.lab l0), some (.lab 2), x7, x8, x9, none, none, none] mu =
      some (.nx [some (.bor (wT w)), some (.bor (.list newer)), some (.t (.int k)), x3, some (.lab 0), some v5, some (.lab 2), x7, x8, x9, v10, v11, none] mu) ∧
      ((∃ l, v5 = .lab l ∧ mu[l]? = some (some (.lst (fl.map (Val.t ∘ thT))))) ∨ v5 = .t (wT fl)) ∧ (∀ t ∈ fl, ThOk k t) ∧ fl.length ≤ w.length + sm Q := by
  have hle : (enumL (w.map thT)).length = w.length := by rw [enumL_len]; simp
  obtain ⟨env', mu', e, v5, fl, v10, v11, rfl, rfl, hv, hf, hl⟩ := sFor_inv (it := iEnm (eVar 0)) (t := gtTup 2 (gtCons (gtName 10) (gtCons (gtName 11) gtNil))) (body := A_lb_woven_on_5 M) (items := enumL (w.map thT)) (env := [some (.bor (wT w)), some (.bor (.list newer)), some (.t (.int k)), x3, some (.lab 0), some (.lab l0), some (.lab 2), x7, x8, x9, none, none, none]) (mu := mu) (mu1 := mu)
    (fun i env mu' => ∃ (v5 : Val) (fl : List Th) (v10 v11 : Option Val), env = [some (.bor (wT w)), some (.bor (.list newer)), some (.t (.int k)), x3, some (.lab 0), some v5, some (.lab 2), x7, x8, x9, v10, v11, none] ∧ mu' = mu ∧
      ((∃ l, v5 = .lab l ∧ mu[l]? = some (some (.lst (fl.map (Val.t ∘ thT))))) ∨ v5 = .t (wT fl)) ∧ (∀ t ∈ fl, ThOk k t) ∧ fl.length ≤ i + sm (Q.filter (used i)))
    (by simp [wT]) ⟨.lab l0, gl Q none, none, none, rfl, rfl, .inl ⟨l0, rfl, m0⟩, gl_ok hQ none, by
      have := sm_step (Q := Q) (P := fun _ => false) (P' := used 0) (b := none) (fun _ h => by cases h) (fun _ _ => rfl) (fun q h => by unfold used; rw [h])
      omega⟩ (fun i v env mu' hi hI => by
      obtain ⟨v5, fl, v10, v11, rfl, rfl, hv, hf, hl⟩ := hI
      obtain ⟨d, hd, rfl⟩ := enumL_get hi
      rw [List.getElem?_map] at hd
      cases ht : w[i]? with
      | none => rw [ht] at hd; cases hd
      | some t =>
        rw [ht] at hd
        cases hd
        have hi2 : i < w.length := (List.getElem?_eq_some_iff.mp ht).1
        have hs := sm_step (Q := Q) (P := used i) (P' := used (i + 1)) (b := some (i : Int)) (fun q h => by
          unfold used at h ⊢
          split at h
          · rfl
          · rename_i e _
            simp at h ⊢
            omega) (fun q h => by unfold used; rw [h]; simp) (fun q h => by unfold used; rw [h]; simp; omega)
        have hs2 := sm_le Q (used (i + 1))
        have hs3 := sm_le Q (used i)
        refine ⟨_, _, _, rfl, wl5_b (hM t (k - 1)) m2 hQ hv (by omega), _, _, _, _, rfl, rfl, .inr rfl, fun s hs' => ?_, ?_⟩
        · simp only [List.mem_append, List.mem_singleton] at hs'
          rcases hs' with (hs' | hs') | hs'
          · exact hf s hs'
          · rw [hs']; exact cutTh_ok (hw t (List.mem_of_getElem? ht))
          · exact gl_ok hQ _ s hs'
        · simp only [List.length_append, List.length_cons, List.length_nil]
          omega)
  rw [hle] at hl
  have hs3 := sm_le Q (used w.length)
  exact ⟨v5, fl, v10, v11, e, hv, hf, by omega⟩
theorem wl4 {w : List Th} {newer : List T} {k : Int} {x3 : Option Val} {kvs : List (T × Val)} {n : Nat} (hk : 0 ≤ k) (hkb : k ≤ 50) (hn : Lns newer) (kd : KdOk n kvs) :
    ∃ (mu : Mu) (Q : List Qe) (x7 x8 x9 : Option Val), A_l_woven_on_4 A_lb_woven_on_4 [some (.bor (wT w)), some (.bor (.list newer)), some (.t (.int k)), x3, some (.lab 0), none, some (.lab 2), some (.t .none), none, none, none, none, none] [some (.dct .k kvs), some (.lst []), some (.dct .n [(.none, .lab 1)])] =
      some (.nx [some (.bor (wT w)), some (.bor (.list newer)), some (.t (.int k)), x3, some (.lab 0), none, some (.lab 2), x7, x8, x9, none, none, none] mu) ∧ mu[2]? = some (some (.dct .n (pv Q))) ∧ QI k mu Q ∧ none ∈ Q.map (·.1) ∧ sm Q ≤ newer.length := by
  obtain ⟨env', mu', e, Q, b, v8, v9, rfl, m0, m2, hQ, hb, hnone, hs, _⟩ := sFor_inv (it := iEnm (eVar 1)) (t := gtTup 2 (gtCons (gtName 8) (gtCons (gtName 9) gtNil))) (body := A_lb_woven_on_4) (items := enumL newer) (env := [some (.bor (wT w)), some (.bor (.list newer)), some (.t (.int k)), x3, some (.lab 0), none, some (.lab 2), some (.t .none), none, none, none, none, none]) (mu := [some (.dct .k kvs), some (.lst []), some (.dct .n [(.none, .lab 1)])]) (mu1 := [some (.dct .k kvs), some (.lst []), some (.dct .n [(.none, .lab 1)])])
    (fun i env mu => ∃ (Q : List Qe) (b : Option Int) (v8 v9 : Option Val), env = [some (.bor (wT w)), some (.bor (.list newer)), some (.t (.int k)), x3, some (.lab 0), none, some (.lab 2), some (.t (kT b)), v8, v9, none, none, none] ∧ mu[0]? = some (some (.dct .k kvs)) ∧ mu[2]? = some (some (.dct .n (pv Q))) ∧ QI k mu Q ∧ b ∈ Q.map (·.1) ∧ none ∈ Q.map (·.1) ∧ sm Q ≤ i ∧ Q.length ≤ i + 1)
    (by simp) ⟨[(none, 1, [])], none, none, none, rfl, rfl, rfl, ⟨fun q hq => by
      cases List.mem_singleton.mp hq
      exact ⟨by decide, by decide, rfl, fun t ht => by cases ht⟩, by simp, by simp⟩, by simp, by simp, by simp [sm], by simp⟩ (wl4_step hk hkb hn kd)
  rw [enumL_len] at hs
  exact ⟨mu', Q, _, v8, v9, e, m2, hQ, hnone, hs⟩
theorem woven_A {L1 L3 : Fx} {L4 L5 : Sx} {w : List Th} {newer : List T} {k : Int} {es : List Int} {kvs : List (T × Val)} {mu : Mu} {pvs : List (T × Val)} {l0 : Nat} {v5 : Val} {fl : List Th} {x7 x8 x9 v10 v11 : Option Val}
    (e1 : L1 [some (.bor (wT w)), some (.bor (.list newer)), some (.t (.int k)), none, none, none, none, none, none, none, none, none, none] [] = some (.lst ((es.map PyData.int).map .t), []))
    (e3 : L3 [some (.bor (wT w)), some (.bor (.list newer)), some (.t (.int k)), some (.t (nsT es)), none, none, none, none, none, none, none, none, none] [] = some (.dct .k kvs, []))
    (e4 : L4 [some (.bor (wT w)), some (.bor (.list newer)), some (.t (.int k)), some (.t (nsT es)), some (.lab 0), none, some (.lab 2), some (.t .none), none, none, none, none, none] [some (.dct .k kvs), some (.lst []), some (.dct .n [(.none, .lab 1)])] =
      some (.nx [some (.bor (wT w)), some (.bor (.list newer)), some (.t (.int k)), some (.t (nsT es)), some (.lab 0), none, some (.lab 2), x7, x8, x9, none, none, none] mu))
    (m2 : mu[2]? = some (some (.dct .n pvs))) (hf : findT pvs .none = some (.lab l0))
    (e5 : L5 [some (.bor (wT w)), some (.bor (.list newer)), some (.t (.int k)), some (.t (nsT es)), some (.lab 0), some (.lab l0), some (.lab 2), x7, x8, x9, none, none, none] mu =
      some (.nx [some (.bor (wT w)), some (.bor (.list newer)), some (.t (.int k)), some (.t (nsT es)), some (.lab 0), some v5, some (.lab 2), x7, x8, x9, v10, v11, none] mu))
    (hv : (∃ l, v5 = .lab l ∧ mu[l]? = some (some (.lst (fl.map (Val.t ∘ thT))))) ∨ v5 = .t (wT fl)) :
    fnS 3 13 (A_b_woven_on L1 L3 L4 L5) [.b (wT w), .b (.list newer), .f (.int k)] = some (.v (wT fl), []) ∨ fnS 3 13 (A_b_woven_on L1 L3 L4 L5) [.b (wT w), .b (.list newer), .f (.int k)] = some (.fr (.lst ((fl.map thT).map .t)), []) := by
  have k2 : keyOk .n .none = true := rfl
  unfold A_b_woven_on
  unfold wT at e1 e3 e4 e5 ⊢
  unfold nsT at e3 e4 e5
  simp at e1
  rcases hv with ⟨l, rfl, ml⟩ | rfl
  · refine .inr ?_
    simp [e1, e3, e4, e5, m2, hf, ml, k2, textLine, -keyOk]
  · refine .inl ?_
    simp [e1, e3, e4, e5, m2, hf, k2, textLine, wT, -keyOk]
end HdK

set_option Elab.async false
set_option linter.all false
set_option maxRecDepth 100000
set_option maxHeartbeats 4000000
namespace HdK
open PySem PySem.Spec PyProof.Rows L2 Vi
theorem woven_on_ok {w : List Th} {newer : List T} {k : Int} (hk : 1 ≤ k) (hkb : k ≤ 50) (hw : ∀ t ∈ w, ThOk (k - 1) t) (hl : w.length ≤ 1000) (hn : Lns newer) :
    ∃ fl : List Th, (m_woven_on [.b (wT w), .b (.list newer), .f (.int k)] = some (.v (wT fl), []) ∨ m_woven_on [.b (wT w), .b (.list newer), .f (.int k)] = some (.fr (.lst ((fl.map thT).map .t)), [])) ∧ (∀ t ∈ fl, ThOk k t) ∧ fl.length ≤ w.length + newer.length := by
  obtain ⟨es, e1, he⟩ := wo_1 (M := m_stands_at) (newer := newer) (k := k) hl stands_at_ok
  obtain ⟨ls, e2, hls, hll⟩ := wo_2 (newer := newer) (k := k) hl (fun t ht => (hw t ht).ln) he
  obtain ⟨ps, eM, hp1, hp2⟩ := common_ok hls hn
  rw [hll] at hp2
  have hn1 := hn.1
  obtain ⟨kvs, e3, kd⟩ := wo_3 (M := m_common_row) he hn1 hp1 hp2 e2 eM
  obtain ⟨mu, Q, x7, x8, x9, e4, m2, hQ, hnone, hs⟩ := wl4 (w := w) (x3 := some (.t (nsT es))) (by omega) hkb hn kd
  obtain ⟨q, hq, hqn, hf⟩ := find_mem hnone
  have g := gl_find hQ none
  have hf2 : findT (pv Q) (kT none) = some (.lab q.2.1) := hf
  have m0 : mu[q.2.1]? = some (some (.lst ((gl Q none).map (Val.t ∘ thT)))) := by
    rcases g with ⟨z, _⟩ | ⟨l, z, m⟩
    · rw [hf2] at z; cases z
    · rw [hf2] at z; cases z; exact m
  obtain ⟨v5, fl, v10, v11, e5, hv, hfl, hlen⟩ := wl5 (M := m_stands_at) (newer := newer) (x3 := some (.t (nsT es))) (x7 := x7) (x8 := x8) (x9 := x9) stands_at_ok m2 hQ hw m0 (by omega)
  exact ⟨fl, woven_A (L1 := l_woven_on_1) (L3 := l_woven_on_3) (L4 := l_woven_on_4) (L5 := l_woven_on_5) e1 e3 e4 m2 hf2 e5 hv, hfl, by omega⟩
/-! ### woven lines -/
def LT (LL : List (List T)) : T := .list (LL.map .list)
theorem plain_lines {ls : List T} (h : ∀ x ∈ ls, IsLine x) : PyData.plainAll ls = true := by
  induction ls with
  | nil => rfl
  | cons x ls ih =>
    obtain ⟨s, _, rfl⟩ := h x (List.mem_cons_self ..)
    simp only [PyData.plainAll, PyData.plain, ih fun y hy => h y (List.mem_cons_of_mem _ hy), Bool.and_self]
theorem plain_LT {LL : List (List T)} (h : LsOk LL) : PyData.plain (LT LL) = true := by
  unfold LT
  simp only [PyData.plain]
  induction LL with
  | nil => rfl
  | cons x LL ih =>
    simp only [List.map_cons, PyData.plainAll, PyData.plain, plain_lines (h x (List.mem_cons_self ..)).2, ih fun y hy => h y (List.mem_cons_of_mem _ hy), Bool.and_self]
theorem eq_LT {LL : List (List T)} (h : LsOk LL) (hne : LL ≠ []) {mu : Mu} : gEq false (.bor (LT LL)) (.t (.list [])) mu = some (.t (.bool false), mu) := by
  have e1 := plain_LT h
  have e2 : PyData.eqv (LT LL) (.list []) = false := by
    cases LL with
    | nil => exact absurd rfl hne
    | cons x LL => simp only [LT, List.map_cons, PyData.eqv, PyData.eqvAll]
  have e3 : PyData.depth (.list []) ≤ 60 := by decide
  simp only [gEq, rd, e1, e2]
  rw [if_pos ⟨(by first | trivial | rfl), (by first | trivial | rfl), Nat.le_trans (Nat.min_le_right _ _) e3⟩]
  simp
theorem LsOk.lns {LL : List (List T)} (h : LsOk LL) {ls : List T} (hl : ls ∈ LL) : Lns ls := ⟨Nat.le_trans (h ls hl).1 (by omega), (h ls hl).2⟩
theorem wv_l1 {M : FnS} {LL : List (List T)} (h : LsOk LL) (hl : LL.length ≤ 1000) (hM : ∀ ls ∈ LL, M [.b (.list ls)] = some (.v (.bool true), [])) : A_l_woven_lines_1 (A_lm_woven_lines_1 M) [some (.bor (LT LL)), none, none, none, none] [] = some (.lst ((LL.map fun _ => true).map (Val.t ∘ PyData.bool)), []) := by
  unfold A_l_woven_lines_1
  refine all_ok PyData.list (fun _ => true) (by simp [LT]) (by decide) (fun ls hls => ⟨[some (.bor (LT LL)), none, none, none, some (.t (.list ls))], rfl, ?_⟩) (by unfold textLine; omega)
  have := hM ls hls
  unfold A_lm_woven_lines_1
  simp [this]
def th0 (d : T) : Th := ⟨(match d with | .str s => s | _ => ""), 0, none⟩
theorem wv_l2 {LL : List (List T)} {l0 : List T} (h : Lns l0) (h0 : LL[0]? = some l0) : A_l_woven_lines_2 A_lm_woven_lines_2 [some (.bor (LT LL)), none, none, none, none] [] = some (.lst (((l0.map th0).map thT).map .t), []) := by
  have a1 : atI (LL.map (Val.t ∘ PyData.list)) 0 = some (.t (.list l0)) := atI_at (j := 0) (by rw [List.getElem?_map, h0]; rfl)
  unfold A_l_woven_lines_2
  rw [show (l0.map th0).map thT = l0.map (thT ∘ th0) by rw [List.map_map]]
  refine fComp_map id (thT ∘ th0) (by simp [LT, a1]) (by decide) (fun d hd => ⟨[some (.bor (LT LL)), none, none, some (.t d), none], rfl, ?_⟩) (by have := h.1; unfold textLine; omega)
  obtain ⟨s, _, rfl⟩ := h.2 d hd
  unfold A_lm_woven_lines_2
  simp [thT, th0, goT, textLine]
theorem wv_b {M : FnS} {LL : List (List T)} {w fl : List Th} {ls : List T} {i : Nat} {x3 x4 : Option Val} (hi : LL[i]? = some ls) (e : M [.b (wT w), .b (.list ls), .f (.int i)] = some (.v (wT fl), []) ∨ M [.b (wT w), .b (.list ls), .f (.int i)] = some (.fr (.lst ((fl.map thT).map .t)), [])) :
    A_lb_woven_lines_3 M [some (.bor (LT LL)), some (.t (wT w)), some (.t (.int i)), x3, x4] [] = some (.nx [some (.bor (LT LL)), some (.t (wT fl)), some (.t (.int i)), x3, x4] []) := by
  have a1 : atI (LL.map (Val.t ∘ PyData.list)) (i : Int) = some (.t (.list ls)) := atI_at (by rw [List.getElem?_map, hi]; rfl)
  unfold A_lb_woven_lines_3
  unfold wT LT at *
  rcases e with e | e
  · simp [a1, e]
  · simp at e
    simp [a1, e]
theorem wv_it {LL : List (List T)} {x1 x2 x3 x4 : Option Val} (hl : LL.length ≤ 1000) : iRng2 (aCons (eC (.int 1)) (aCons (eCB gLen (aCons (eVar 0) aNil)) aNil)) [some (.bor (LT LL)), x1, x2, x3, x4] [] = some ((rangeI 1 (LL.length - 1)).map (Val.t ∘ PyData.int), []) := by
  have q3 : -4611686018427387904 ≤ (LL.length : Int) := by omega
  have q4 : (LL.length : Int) < 4611686018427387904 := by omega
  have e : ((LL.length : Int) - 1).toNat = LL.length - 1 := by omega
  simp [LT, gR2_ok, q3, q4, e, rangeL_eq]
theorem wv_l3 {LL : List (List T)} {l0 : List T} (h : LsOk LL) (hl : LL.length ≤ 10) (h0 : LL[0]? = some l0) :
    ∃ (w : List Th) (v2 : Option Val), A_l_woven_lines_3 (A_lb_woven_lines_3 m_woven_on) [some (.bor (LT LL)), some (.t (wT (l0.map th0))), none, none, none] [] = some (.nx [some (.bor (LT LL)), some (.t (wT w)), v2, none, none] []) ∧ W 50 w := by
  have hlen : ((rangeI 1 (LL.length - 1)).map (Val.t ∘ PyData.int)).length = LL.length - 1 := by rw [List.length_map, rangeI_length]
  have hm0 : l0 ∈ LL := List.mem_of_getElem? h0
  obtain ⟨env', mu', e, w, v2, rfl, rfl, hw, hwl⟩ := sFor_inv (t := gtName 2) (body := A_lb_woven_lines_3 m_woven_on) (fun i env mu => ∃ (w : List Th) (v2 : Option Val), env = [some (.bor (LT LL)), some (.t (wT w)), v2, none, none] ∧ mu = [] ∧ (∀ t ∈ w, ThOk (i : Int) t) ∧ w.length ≤ 60 * (i + 1))
    (wv_it (x1 := some (.t (wT (l0.map th0)))) (x2 := none) (x3 := none) (x4 := none) (by omega)) ⟨l0.map th0, none, rfl, rfl, fun t ht => by
      obtain ⟨d, hd, rfl⟩ := List.mem_map.mp ht
      obtain ⟨s, hs, rfl⟩ := (h l0 hm0).2 d hd
      exact ⟨⟨s, hs, rfl⟩, Int.le_refl _, Int.le_refl _, fun g hg => by cases hg⟩, by rw [List.length_map]; have := (h l0 hm0).1; omega⟩ (fun i v env mu hi hI => by
      obtain ⟨w, v2, rfl, rfl, hw, hwl⟩ := hI
      have hi2 : i < LL.length - 1 := by
        have := (List.getElem?_eq_some_iff.mp hi).1
        rw [hlen] at this; exact this
      have hv : v = .t (.int ((i + 1 : Nat) : Int)) := by
        unfold rangeI at hi
        rw [List.getElem?_map, List.getElem?_map, List.getElem?_range hi2] at hi
        cases hi
        have : (1 : Int) + (i : Int) = ((i + 1 : Nat) : Int) := by omega
        exact congrArg (fun z => Val.t (PyData.int z)) this
      subst hv
      have g : LL[i + 1]? = some (LL[i + 1]'(by omega)) := List.getElem?_eq_getElem _
      have gm : LL[i + 1]'(by omega) ∈ LL := List.getElem_mem _
      generalize LL[i + 1]'(by omega) = ls at g gm
      obtain ⟨fl, e, hfl, hfll⟩ := woven_on_ok (w := w) (newer := ls) (k := ((i + 1 : Nat) : Int)) (by omega) (by omega) (fun t ht => by
        have : ((i + 1 : Nat) : Int) - 1 = (i : Int) := by omega
        rw [this]; exact hw t ht) (by omega) (h.lns gm)
      have := (h ls gm).1
      exact ⟨_, _, _, rfl, wv_b g e, fl, _, rfl, rfl, hfl, by omega⟩)
  rw [hlen] at hw hwl
  exact ⟨w, v2, e, by omega, fun t ht => by
    have k := hw t ht
    have hb : ((LL.length - 1 : Nat) : Int) ≤ 50 := by omega
    exact ⟨k.ln, k.p0, Int.le_trans k.pb hb, fun g hg => ⟨(k.g g hg).1, Int.le_trans (k.g g hg).2 hb⟩⟩⟩
theorem wv_end {L1 L2' : Fx} {L3 : Sx} {LL : List (List T)} {w0 w : List Th} {v2 : Option Val} (h : LsOk LL) (hne : LL ≠ [])
    (e1 : L1 [some (.bor (LT LL)), none, none, none, none] [] = some (.lst ((LL.map fun _ => true).map (Val.t ∘ PyData.bool)), []))
    (e2 : L2' [some (.bor (LT LL)), none, none, none, none] [] = some (.lst ((w0.map thT).map .t), []))
    (e3 : L3 [some (.bor (LT LL)), some (.t (wT w0)), none, none, none] [] = some (.nx [some (.bor (LT LL)), some (.t (wT w)), v2, none, none] [])) :
    fnS 1 5 (A_b_woven_lines L1 L2' L3) [.b (LT LL)] = some (.v (wT w), []) := by
  have q := fun mu => eq_LT h hne (mu := mu)
  have e : ((LL.map fun _ => true).all id) = true := by simp
  generalize (LL.map fun _ => true) = bs at e1 e
  unfold A_b_woven_lines
  unfold LT wT at *
  simp at e2
  simp [e1, e2, e3, e, q, textLine]
theorem woven_lines_ok {LL : List (List T)} (h : LsOk LL) (hl : LL.length ≤ 10) (hne : LL ≠ []) : ∃ w : List Th, m_woven_lines [.b (LT LL)] = some (.v (wT w), []) ∧ W 50 w := by
  have hp : 0 < LL.length := List.length_pos_iff.mpr hne
  have h0 : LL[0]? = some (LL[0]'hp) := List.getElem?_eq_getElem _
  have hm : LL[0]'hp ∈ LL := List.getElem_mem _
  generalize LL[0]'hp = l0 at h0 hm
  obtain ⟨w, v2, e3, hw⟩ := wv_l3 h hl h0
  exact ⟨w, wv_end (L1 := l_woven_lines_1) (L2' := l_woven_lines_2) (L3 := l_woven_lines_3) h hne (wv_l1 (M := m_is_list_of_lines) h (by omega) fun ls hls => is_list_ok (h.lns hls)) (wv_l2 (h.lns hm) h0) e3, hw⟩
end HdK

set_option Elab.async false
set_option linter.all false
set_option maxRecDepth 100000
set_option maxHeartbeats 4000000
namespace HdK
open PySem PySem.Spec PyProof.Rows L2 Vi
theorem law_b {Pu' D We O Li R Wo : FnS} {sc few LLt : List T} {spot : Int} {ws wv : List T} {C0 C1 C2 C3 C4 C5 C6 C7 C8 C9 : Cell} {r4 o81 many ch m8 : Int} {v2 v3 v4 v5 : Option Val}
    (p0 : Pure C0 = true) (p1 : Pure C1 = true) (p2 : Pure C2 = true) (p3 : Pure C3 = true) (p4 : Pure C4 = true) (p5 : Pure C5 = true) (p6 : Pure C6 = true) (p7 : Pure C7 = true) (p8 : Pure C8 = true) (p9 : Pure C9 = true)
    (eP : Pu' [.b (.list sc), .f (.int spot)] = some (.fr C0, [])) (e1 : D [.m C0, .b (.int 4)] = some (.v (.int r4), [C1])) (ef : cutL [PyData.str "a", PyData.str "b", PyData.str "c", PyData.str "d"] none (some (1 + r4)) = few)
    (e2 : O [.m C1, .b (.list [.int 4, .int 20, .int 81])] = some (.v (.int o81), [C2])) (e3 : D [.m C2, .b (.int o81)] = some (.v (.int many), [C3])) (e4 : D [.m C3, .b (.int 12)] = some (.v (.int ch), [C4]))
    (e5 : We [.m C4, .b (.int many), .b (.int (1 + ch)), .b (.list few)] = some (.fr (.lst (ws.map .t)), [C5])) (e6 : D [.m C5, .b (.int 8)] = some (.v (.int m8), [C6])) (e7 : Li [.m C6, .b (.int (1 + m8)), .b (.list few)] = some (.fr (.lst (LLt.map .t)), [C7]))
    (e8 : R [.m C7, .f (.list ws)] = some (.v (.bool true), [C8])) (e9 : Wo [.b (.list LLt)] = some (.v (.list wv), [])) (e10 : R [.m C8, .f (.list (wv.take 80))] = some (.v (.bool true), [C9])) :
    ∀ mu : Mu, ∃ env' mu', A_lb_law_1 Pu' D We O Li R Wo [some (.bor (.list sc)), some (.t (.int spot)), v2, v3, v4, v5] mu = some (.nx env' mu') ∧ ∃ w2 w3 w4 w5, env' = [some (.bor (.list sc)), some (.t (.int spot)), w2, w3, w4, w5] := by
  intro mu
  have cut80 : cutL (wv.map Val.t) none (some 80) = (wv.take 80).map Val.t := by
    rw [cutL_map]
    exact congrArg _ (cutL_take wv 80)
  have cutf : cutL [Val.t (PyData.str "a"), Val.t (PyData.str "b"), Val.t (PyData.str "c"), Val.t (PyData.str "d")] none (some (1 + r4)) = few.map Val.t := by
    rw [← ef, ← cutL_map]; rfl
  generalize wv.take 80 = wv8 at e10 cut80
  refine ⟨[some (.bor (.list sc)), some (.t (.int spot)), some (.lab mu.length), some (.t (.list few)), some (.t (.list ws)), some (.t (.list LLt))], mu ++ [some C9], ?_, _, _, _, _, rfl⟩
  unfold A_lb_law_1
  simp [eP, e1, cutf, e2, e3, e4, e5, e6, e7, e8, e9, e10, cut80, p0, p1, p2, p3, p4, p5, p6, p7, p8, p9, textLine]
end HdK

set_option Elab.async false
set_option linter.all false
set_option maxRecDepth 100000
set_option maxHeartbeats 4000000
namespace HdK
open PySem PySem.Spec PyProof.Rows L2 Vi
theorem law_step (ns : List Int) (i : Nat) (hi : i < 2) (v2 v3 v4 v5 : Option Val) (mu : Mu) : ∃ env' mu', lb_law_1 [some (.bor (.list (ns.map .int))), some (.t (.int i)), v2, v3, v4, v5] mu = some (.nx env' mu') ∧ ∃ w2 w3 w4 w5, env' = [some (.bor (.list (ns.map .int))), some (.t (.int i)), w2, w3, w4, w5] := by
  obtain ⟨C0, eP, h0⟩ := purse_ok ns i (by omega) (by omega)
  obtain ⟨r4, C1, e1, r40, r41, h1⟩ := draw_ok (many := 4) h0 (by omega) (by omega) (by omega)
  obtain ⟨few, ef⟩ : ∃ few, cutL [PyData.str "a", PyData.str "b", PyData.str "c", PyData.str "d"] none (some (1 + r4)) = few := ⟨_, rfl⟩
  have fsub : ∀ d ∈ few, IsLine d := fun d hd => by
    rw [← ef] at hd
    have := (cutL_sub _ _ _).mem hd
    simp only [List.mem_cons, List.not_mem_nil, or_false] at this
    rcases this with h | h | h | h <;> subst h <;> exact ⟨_, by unfold lset; simp, rfl⟩
  have flen : few.length < 1000 := by
    rw [← ef]
    have := (cutL_sub [PyData.str "a", PyData.str "b", PyData.str "c", PyData.str "d"] none (some (1 + r4))).length_le
    simp at this
    omega
  have fne : few ≠ [] := fun z => by
    subst z
    obtain ⟨j, rfl⟩ := Int.eq_ofNat_of_zero_le r40
    have e : (1 : Int) + (j : Int) = ((1 + j : Nat) : Int) := by omega
    have q : cutL [PyData.str "a", PyData.str "b", PyData.str "c", PyData.str "d"] none (some ((1 + j : Nat) : Int)) = _ := cutL_take _ (1 + j)
    rw [e, q] at ef
    rw [Nat.add_comm, List.take_succ_cons] at ef
    cases ef
  obtain ⟨d, C2, e2, hd, h2⟩ := one_of_ok (ds := [.int 4, .int 20, .int 81]) h1 (by omega) (by simp) (by simp)
  have hm : ∃ m : Int, d = .int m ∧ 4 ≤ m ∧ m ≤ 81 := by
    simp only [List.mem_cons, List.not_mem_nil, or_false] at hd
    rcases hd with h | h | h <;> subst h <;> exact ⟨_, rfl, by omega, by omega⟩
  obtain ⟨o81, rfl, o1, o2⟩ := hm
  obtain ⟨many, C3, e3, m0, m1, h3⟩ := draw_ok (many := o81) h2 (by omega) (by omega) (by omega)
  obtain ⟨mn, rfl⟩ := Int.eq_ofNat_of_zero_le m0
  obtain ⟨ch, C4, e4, c0, c1, h4⟩ := draw_ok (many := 12) h3 (by omega) (by omega) (by omega)
  obtain ⟨w, C5, e5, hw, hwl, h5⟩ := weave_ok (many := mn) (ch := 1 + ch) h4 (by omega) (by omega) (by omega) (by omega) fne flen fsub
  obtain ⟨m8, C6, e6, m80, m81, h6⟩ := draw_ok (many := 8) h5 (by omega) (by omega) (by omega)
  obtain ⟨m8n, rfl⟩ := Int.eq_ofNat_of_zero_le m80
  obtain ⟨LL, C7, e7, hL, hLl, h7⟩ := lists_ok (many := 1 + m8n) fne flen fsub h6 (by omega) (by omega)
  have wW : W 100 w := W.up (b := 20) ⟨by omega, hw⟩ (by omega)
  obtain ⟨C8, e8, h8⟩ := right_ok h7 (by omega) wW
  obtain ⟨wv, e9, hwv⟩ := woven_lines_ok hL (by omega) (fun z => by subst z; simp at hLl)
  have wW2 : W 100 (wv.take 80) := W.up (b := 50) ⟨by rw [List.length_take]; omega, fun t ht => hwv.2 t (List.mem_of_mem_take ht)⟩ (by omega)
  obtain ⟨C9, e10, h9⟩ := right_ok h8 (by omega) wW2
  have e7' : m__law_lists [.m C6, .b (.int (1 + (m8n : Int))), .b (.list few)] = some (.fr (.lst ((LL.map PyData.list).map .t)), [C7]) := by
    have : ((1 + m8n : Nat) : Int) = 1 + (m8n : Int) := by omega
    rw [this] at e7
    rw [e7, List.map_map]
  have e5' : m__law_weave [.m C4, .b (.int (mn : Int)), .b (.int (1 + ch)), .b (.list few)] = some (.fr (.lst ((w.map thT).map .t)), [C5]) := by
    rw [e5, List.map_map]
  have e10' : m__law_right [.m C8, .f (.list ((wv.map thT).take 80))] = some (.v (.bool true), [C9]) := by
    rw [← List.map_take]; exact e10
  exact law_b (Pu' := m__law_purse) (D := m__law_draw) (We := m__law_weave) (O := m__law_one_of) (Li := m__law_lists) (R := m__law_right) (Wo := m_woven_lines) (v2 := v2) (v3 := v3) (v4 := v4) (v5 := v5) h0.pure h1.pure h2.pure h3.pure h4.pure h5.pure h6.pure h7.pure h8.pure h9.pure eP e1 ef e2 e3 e4 e5' e6 e7' e8 e9 e10' mu
theorem law_it {env : En} {mu : Mu} : iRng1 (aCons (eC (.int 2)) aNil) env mu = some ((rangeL 0 1 2).map .t, mu) := by
  simp [gR1_ok]
theorem law_loop (ns : List Int) : ∃ (w1 w2 w3 w4 w5 : Option Val) (mu' : Mu), l_law_1 [some (.bor (.list (ns.map .int))), none, none, none, none, none] [] = some (.nx [some (.bor (.list (ns.map .int))), w1, w2, w3, w4, w5] mu') := by
  obtain ⟨env', mu', e, w1, w2, w3, w4, w5, rfl⟩ := sFor_inv (it := iRng1 (aCons (eC (.int 2)) aNil)) (t := gtName 1) (body := lb_law_1) (env := [some (.bor (.list (ns.map .int))), none, none, none, none, none]) (mu := []) (fun i env mu => ∃ w1 w2 w3 w4 w5, env = [some (.bor (.list (ns.map .int))), w1, w2, w3, w4, w5]) law_it ⟨none, none, none, none, none, rfl⟩ (fun i v env mu hi hI => by
    obtain ⟨w1, w2, w3, w4, w5, rfl⟩ := hI
    have hlen : ((rangeL 0 1 2).map Val.t).length = 2 := rfl
    have hi2 : i < 2 := by
      have := (List.getElem?_eq_some_iff.mp hi).1
      rw [hlen] at this; exact this
    have hv : v = .t (.int (i : Int)) := by
      have : i = 0 ∨ i = 1 := by omega
      rcases this with rfl | rfl
      · cases hi; rfl
      · cases hi; rfl
    subst hv
    obtain ⟨env2, mu2, e, x2, x3, x4, x5, rfl⟩ := law_step ns i hi2 w2 w3 w4 w5 mu
    exact ⟨_, _, _, rfl, e, _, _, _, _, _, rfl⟩)
  exact ⟨w1, w2, w3, w4, w5, mu', e⟩
theorem eqE {mu : Mu} : gEq false (.t (.list [])) (.t (.list [])) mu = some (.t (.bool true), mu) := by
  simp only [gEq, rd, PyData.plain, PyData.plainAll, PyData.eqv, PyData.eqvAll]
  rfl
theorem eqA {mu : Mu} : gEq false (.t (.list [.str "a"])) (.t (.list [.str "a"])) mu = some (.t (.bool true), mu) := by
  have e : (("a" : Str) == "a") = true := by decide
  simp only [gEq, rd, PyData.plain, PyData.plainAll, PyData.eqv, PyData.eqvAll, e]
  rfl
theorem law_A {L : Sx} {LA LC LO LBy : FnS} {sc : List T} {w1 w2 w3 w4 w5 : Option Val} {mu' : Mu} (eL : L [some (.bor (.list sc)), none, none, none, none, none] [] = some (.nx [some (.bor (.list sc)), w1, w2, w3, w4, w5] mu'))
    (e1 : LA [.b (.list []), .b (.int 3)] = some (.fr (.lst []), [])) (e2 : LC [.b (.list [])] = some (.v (.int 0), [])) (e3 : LO [.b (.list []), .b (.list [.int 7])] = some (.fr (.lst []), []))
    (e4 : LBy [.b (.list [.tuple [.str "a", .int 0, .int 1], .tuple [.str "b", .int 1, .none]]), .b (.list [])] = some (.fr (.lst [.t (.str "a")]), [])) :
    fnS 1 6 (A_b_law L LA LC LO LBy) [.b (.list sc)] = some (.v (.bool true), []) := by
  unfold A_b_law
  simp [eL, e1, e2, e3, e4, eqE, eqA, textLine]
theorem hlaw (ns : List Int) : m_law [.b (.list (ns.map .int))] = some (.v (.bool true), []) := by
  obtain ⟨w1, w2, w3, w4, w5, mu', eL⟩ := law_loop ns
  have W0 : W 100 [] := ⟨by simp, fun t ht => by cases ht⟩
  have W1 : W 100 [⟨"a", 0, some 1⟩, ⟨"b", 1, none⟩] := ⟨by simp, fun t ht => by
    simp only [List.mem_cons, List.not_mem_nil, or_false] at ht
    rcases ht with h | h <;> subst h
    · exact ⟨⟨"a", by unfold lset; simp, rfl⟩, by decide, by decide, fun g hg => by cases hg; decide⟩
    · exact ⟨⟨"b", by unfold lset; simp, rfl⟩, by decide, by decide, fun g hg => by cases hg⟩⟩
  refine law_A (L := l_law_1) (LA := m_lines_at) (LC := m_last_change) (LO := m_left_out) (LBy := m_lines_by) eL ?_ ?_ ?_ ?_
  · exact lines_at_ok (k := 3) W0 (by decide)
  · exact last_change_ok W0
  · exact left_out_ok (ns := [7]) W0 ⟨by simp, by simp, by simp⟩
  · have := lines_by_ok (ns := []) W1 nsOk_nil
    have e : LB [⟨"a", 0, some 1⟩, ⟨"b", 1, none⟩] [] = [.str "a"] := by rfl
    rw [e] at this
    exact this
end HdK

open PySem PySem.W PySem.Calls PyProof.Rows
theorem PySem.Challenge.cw_allmayedit_k52_whole_changes_left_out_holds : PySem.Challenge.rw_allmayedit_k52_whole_changes_left_out.Holds := by
  w_on; o_law
  refine HandSHeadRun.head_any (r := OpenLaw.row PySem.Challenge.rw_allmayedit_k52_whole_changes_left_out) (q := view (OpenLaw.row PySem.Challenge.rw_allmayedit_k52_whole_changes_left_out).prog [54]) (H := HdK.hk) (ob := HdK.ob) (M := 3000) (loose := HdK.names) (d := HandSHeadRun.topDef (OpenLaw.row PySem.Challenge.rw_allmayedit_k52_whole_changes_left_out).prog 54) (kwd := []) HdK.ob_eq
    (by kernel_rfl) (fun s => by kernel_rfl) HdK.run (by kernel_rfl) (by kernel_rfl) (by kernel_rfl) (by rfl) (by first | assumption | decide +kernel) (by decide +kernel) ⟨rfl, rfl, rfl, rfl, rfl, by decide +kernel⟩ ?hw ?hc
  case hw => w_witness2
  case hc =>
    refine L2.walk_ofE (l := PySem.Challenge.rw_allmayedit_k52_whole_changes_left_out) (n := 63) (k := 15) (x := "script") (CX := L2.CX0) rfl (by decide) (by kernel_rfl) ⟨rfl, by decide, by decide⟩ ?F (fun _ _ _ _ z => z)
    intro w mg fa h Y G hmg0
    obtain ⟨K, KX, c⟩ := Y
    have hmg : mg ("law" : PySem.Str) = some (.ref fa) := by
      have e : (HandSHeadRun.topDef (OpenLaw.row PySem.Challenge.rw_allmayedit_k52_whole_changes_left_out).prog 54).name = ("law" : PySem.Str) := by kernel_rfl
      rw [← e]
      exact hmg0
    obtain ⟨fd, hb, hF⟩ := HdK.law_facts (fun ns _ => HdK.hlaw ns) (P := (PySem.Challenge.rw_allmayedit_k52_whole_changes_left_out).prog) (w := w) KX G hmg c
    exact ⟨K, fd, HdK.spLaw K, KX, hb, fun H a ns hl _ hS => ⟨a, ns, rfl, hS, hl, fun _ => rfl⟩, hF⟩
