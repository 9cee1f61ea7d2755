import PyProof.Rows.All
import Wide.All
import OpenK.AllK
import Wide.FinOn
import KE.KStateDown
import HandS.Base
import HandS.Call
import HandS.Ends
import HandS.More
import HandS.Words
import HandS.WordsExc
import HandS.Defaults
import HandS.Head0
import HandS.Head1
import HandS.Head2
import HandS.HeadEnd
import HandS.HeadHook1
import HandS.HeadHook2
import HandS.ForMost
import HandS.Wide
import PySem.Challenge.RW_bendworks_k20_whole_causes_together
import HandS.Deep
import HandS.IsInst
import HandS.TupAny
import HandS.TupMul
import HandS.Walk
import HandS.Zip
import HandS.DictComp
import HandS.DictTup
import HandS.Iter
import KE.GoesMore
import KE.GoesEnum
import HandS.NoneIn
import HandS.Star
import PyProof.StrBlock
import HandS.Style
import HandS.Replace
import KE.KDictCopyH
import PyProof.TupleOfSeq
import HandS.ExcValue
import KE.GoesZip
import HandS.Zip0
import KE.KDictZip
import HandS.CallLocal
set_option Elab.async false
set_option linter.all false
set_option maxRecDepth 100000
set_option maxHeartbeats 4000000
/-! a layer of data over HandS: what an expression, a block gives, told by plain data (PyData) and a store of own objects -/
namespace BW
open PySem PySem.Spec PyProof.Rows L2

/-! ### weakest readings -/
def We (X : Cx) (e : Expr) : TE := fun σ H Q => ∀ (pins : List (Addr × Obj)) (s : Shared), Inv X pins σ H s → wpAny (model X.prog X.w) X.A (eval e X.env) (EP X pins σ Q) X.xe s
def Wt (X : Cx) (e : Expr) : TT := fun σ H Q => ∀ (pins : List (Addr × Obj)) (s : Shared), Inv X pins σ H s → wpAny (model X.prog X.w) X.A (isTrue e X.env (eval e X.env)) (TP X pins σ Q) X.xe s
def Wa (X : Cx) (es : List Expr) : TA := fun σ H Q => ∀ (pos : Pos) (pins : List (Addr × Obj)) (s : Shared), Inv X pins σ H s → wpAny (model X.prog X.w) X.A (spliced (backTo pos (starEach es X.env))) (AP X pins σ Q) X.xe s
def Wb (X : Cx) (ss : List Stmt) : TS := fun D σ H => ∀ (pins : List (Addr × Obj)) (s : Shared), Inv X pins σ H s → wpAny (model X.prog X.w) X.A (execs ss X.env) (SP X pins D) X.xe s
def Wg (X : Cx) (t : Expr) : TG := fun v σ H Q => ∀ (pins : List (Addr × Obj)) (s : Shared) (u : Value), Inv X pins σ H s → RelV v u → wpAny (model X.prog X.w) X.A (assign t X.env u) (fun _ s' => ∃ σ' H', Inv X pins σ' H' s' ∧ Q σ' H') X.xe s
theorem We.pe (X : Cx) (e : Expr) : PE X e (We X e) := ⟨fun pins s _ _ _ I h => h pins s I⟩
theorem Wt.pt (X : Cx) (e : Expr) : PT X e (Wt X e) := ⟨fun pins s _ _ _ I h => h pins s I⟩
theorem Wa.pa (X : Cx) (es : List Expr) : PA X es (Wa X es) := ⟨fun pos pins s _ _ _ I h => h pos pins s I⟩
theorem Wb.ps (X : Cx) (ss : List Stmt) : PSs X ss (Wb X ss) := ⟨fun pins s _ _ _ I h => h pins s I⟩
theorem Wg.pg (X : Cx) (t : Expr) : PG X t (Wg X t) := ⟨fun pins s _ _ _ u _ I r h => h pins s u I r⟩
theorem We.of {X : Cx} {e : Expr} {t : TE} (h : PE X e t) {σ : L2.St} {H : Hp} {Q : VK} (q : t σ H Q) : We X e σ H Q := fun pins s I => h.run pins s σ H Q I q
theorem Wt.of {X : Cx} {e : Expr} {t : TT} (h : PT X e t) {σ : L2.St} {H : Hp} {Q : Bool → Hp → Prop} (q : t σ H Q) : Wt X e σ H Q := fun pins s I => h.run pins s σ H Q I q
theorem Wa.of {X : Cx} {e : List Expr} {t : TA} (h : PA X e t) {σ : L2.St} {H : Hp} {Q : List V → Hp → Prop} (q : t σ H Q) : Wa X e σ H Q := fun pos pins s I => h.run pos pins s σ H Q I q
theorem Wb.of {X : Cx} {ss : List Stmt} {t : TS} (h : PSs X ss t) {σ : L2.St} {H : Hp} {D : Ends} (q : t D σ H) : Wb X ss D σ H := fun pins s I => h.run pins s σ H D I q
theorem Wg.of {X : Cx} {e : Expr} {t : TG} (h : PG X e t) {v : V} {σ : L2.St} {H : Hp} {Q : L2.St → Hp → Prop} (q : t v σ H Q) : Wg X e v σ H Q := fun pins s u I r => h.run pins s σ H v u Q I r q

/-! ### data -/
def kD : Key → PyData
  | .inl i => .int i
  | .inr x => .str x
def keyD (k : List Key) : PyData := .tuple (k.map kD)
inductive Rv where
  | dat (d : PyData)
  | own (n : Nat)
  | raw (v : V)
inductive Cell where
  | L (rs : List Rv)
  | M (kvs : List (List Key × Rv))
  | Q (od : Obj) (ws : List (List Key × V)) (kvs : List (List Key × Rv))
  | Z (d : PyData)

/-- a tuple of the written part -/
def SqK (K : PySem.W.Frag) (a : Addr) (xs : List V) : Prop := ∃ (o : Obj) (its : Array Value) (n : Nat), K.lookup a = some o ∧ o.cls = .type "tuple" ∧ o.data = .seq its n ∧ its.size ≤ sizeLine ∧ Vals xs its.toList
def kcI : PyData → Bool
  | .int _ => true
  | _ => false
def kcS : PyData → Bool
  | .str _ => true
  | _ => false
/-- ints alone, or texts alone: no key of ours -/
def kc (ds : List PyData) : Bool := ds.all kcI || ds.all kcS
mutual
inductive Rp (K : PySem.W.Frag) (F : Hp) : V → PyData → Prop
  | non : Rp K F .non .none
  | bl (b : Bool) : Rp K F (.bl b) (.bool b)
  | int (i : Int) : Rp K F (.int i) (.int i)
  | str (x : Str) : Rp K F (.str x) (.str x)
  | lst {a : Addr} {xs : List V} {ds : List PyData} : SqL K F a xs → RpA K F xs ds → Rp K F (.ref a) (.list ds)
  | tup {a : Addr} {xs : List V} {ds : List PyData} : F a = some (.tup xs) → RpA K F xs ds → Rp K F (.ref a) (.tuple ds)
  | tupK {a : Addr} {xs : List V} {ds : List PyData} : SqK K a xs → kc ds = true → RpA K F xs ds → Rp K F (.ref a) (.tuple ds)
  | dct {a : Addr} {o : Obj} {ws : List (List Key × V)} {ds : List (PyData × PyData)} : F a = some (.frz o (.dT ws)) → RpK K F ws ds → Rp K F (.ref a) (.dict ds)
inductive RpA (K : PySem.W.Frag) (F : Hp) : List V → List PyData → Prop
  | nil : RpA K F [] []
  | cons {v : V} {vs : List V} {d : PyData} {ds : List PyData} : Rp K F v d → RpA K F vs ds → RpA K F (v :: vs) (d :: ds)
inductive RpK (K : PySem.W.Frag) (F : Hp) : List (List Key × V) → List (PyData × PyData) → Prop
  | nil : RpK K F [] []
  | cons {k : List Key} {v : V} {ws : List (List Key × V)} {d : PyData} {ds : List (PyData × PyData)} : Rp K F v d → RpK K F ws ds → RpK K F ((k, v) :: ws) ((keyD k, d) :: ds)
end

/-- what may be read in F may be read in F' -/
structure Gw (F F' : Hp) : Prop where
  l : ∀ a xs, Rd F a (.lst xs) → Rd F' a (.lst xs)
  t : ∀ a xs, F a = some (.tup xs) → F' a = some (.tup xs)
  d : ∀ a o ws, F a = some (.frz o (.dT ws)) → F' a = some (.frz o (.dT ws))
theorem Gw.refl (F : Hp) : Gw F F := ⟨fun _ _ h => h, fun _ _ h => h, fun _ _ _ h => h⟩
theorem Gw.trans {F F1 F2 : Hp} (a : Gw F F1) (b : Gw F1 F2) : Gw F F2 := ⟨fun x y h => b.l x y (a.l x y h), fun x y h => b.t x y (a.t x y h), fun x y z h => b.d x y z (a.d x y z h)⟩
theorem same_rd {F F' : Hp} (e : Same F F') {a : Addr} {u : HO} (h : Rd F a u) : Rd F' a u := by
  rcases h with h | ⟨o, h⟩
  · exact .inl (e a _ h)
  · exact .inr ⟨o, e a _ h⟩
theorem Gw.of {F F' : Hp} (e : Same F F') : Gw F F' := ⟨fun _ _ h => same_rd e h, fun _ _ h => e _ _ h, fun _ _ _ h => e _ _ h⟩
theorem Gw.sl {K : PySem.W.Frag} {F F' : Hp} (g : Gw F F') {a : Addr} {xs : List V} (h : SqL K F a xs) : SqL K F' a xs := by
  rcases h with h | h
  · exact .inl (g.l a xs h)
  · exact .inr h
section
variable {K : PySem.W.Frag} {F F' : Hp}
mutual
theorem Rp.mono (g : Gw F F') : ∀ {v : V} {d : PyData}, Rp K F v d → Rp K F' v d
  | _, _, .non => .non
  | _, _, .bl b => .bl b
  | _, _, .int i => .int i
  | _, _, .str x => .str x
  | _, _, .lst h r => .lst (g.sl h) (RpA.mono g r)
  | _, _, .tup h r => .tup (g.t _ _ h) (RpA.mono g r)
  | _, _, .tupK h k r => .tupK h k (RpA.mono g r)
  | _, _, .dct h r => .dct (g.d _ _ _ h) (RpK.mono g r)
theorem RpA.mono (g : Gw F F') : ∀ {vs : List V} {ds : List PyData}, RpA K F vs ds → RpA K F' vs ds
  | _, _, .nil => .nil
  | _, _, .cons h r => .cons (Rp.mono g h) (RpA.mono g r)
theorem RpK.mono (g : Gw F F') : ∀ {vs : List (List Key × V)} {ds : List (PyData × PyData)}, RpK K F vs ds → RpK K F' vs ds
  | _, _, .nil => .nil
  | _, _, .cons h r => .cons (Rp.mono g h) (RpK.mono g r)
end
theorem RpA.length : ∀ {vs : List V} {ds : List PyData}, RpA K F vs ds → vs.length = ds.length
  | _, _, .nil => rfl
  | _, _, .cons _ r => by rw [List.length_cons, List.length_cons, RpA.length r]
theorem RpA.get : ∀ {vs : List V} {ds : List PyData} {i : Nat} {d : PyData}, RpA K F vs ds → ds[i]? = some d → ∃ v, vs[i]? = some v ∧ Rp K F v d
  | _, _, _, _, .nil, e => by simp at e
  | _, _, 0, _, .cons h _, e => by
    simp at e
    subst e
    exact ⟨_, rfl, h⟩
  | _, _, i + 1, d, .cons _ r, e => by
    obtain ⟨v, h1, h2⟩ := RpA.get (i := i) (d := d) r (by simpa using e)
    exact ⟨v, by simpa using h1, h2⟩
theorem RpA.get' : ∀ {vs : List V} {ds : List PyData} {i : Nat} {v : V}, RpA K F vs ds → vs[i]? = some v → ∃ d, ds[i]? = some d ∧ Rp K F v d
  | _, _, _, _, .nil, e => by simp at e
  | _, _, 0, _, .cons h _, e => by
    simp at e
    subst e
    exact ⟨_, rfl, h⟩
  | _, _, i + 1, d, .cons _ r, e => by
    obtain ⟨v, h1, h2⟩ := RpA.get' (i := i) r (by simpa using e)
    exact ⟨v, by simpa using h1, h2⟩
theorem RpA.append : ∀ {vs ws : List V} {ds es : List PyData}, RpA K F vs ds → RpA K F ws es → RpA K F (vs ++ ws) (ds ++ es)
  | _, _, _, _, .nil, s => s
  | _, _, _, _, .cons h r, s => .cons h (RpA.append r s)
theorem RpA.snoc {vs : List V} {ds : List PyData} {v : V} {d : PyData} (r : RpA K F vs ds) (h : Rp K F v d) : RpA K F (vs ++ [v]) (ds ++ [d]) := r.append (.cons h .nil)
theorem RpA.take : ∀ {vs : List V} {ds : List PyData} (n : Nat), RpA K F vs ds → RpA K F (vs.take n) (ds.take n)
  | _, _, 0, _ => .nil
  | _, _, _ + 1, .nil => .nil
  | _, _, n + 1, .cons h r => .cons h (RpA.take n r)
theorem RpA.drop : ∀ {vs : List V} {ds : List PyData} (n : Nat), RpA K F vs ds → RpA K F (vs.drop n) (ds.drop n)
  | _, _, 0, r => r
  | _, _, _ + 1, .nil => .nil
  | _, _, n + 1, .cons _ r => RpA.drop n r
theorem Rp.intE {v : V} {i : Int} (h : Rp K F v (.int i)) : v = .int i := by cases h; rfl
theorem Rp.blE {v : V} {b : Bool} (h : Rp K F v (.bool b)) : v = .bl b := by cases h; rfl
theorem Rp.strE {v : V} {x : Str} (h : Rp K F v (.str x)) : v = .str x := by cases h; rfl
theorem Rp.tupE {v : V} {ds : List PyData} (h : Rp K F v (.tuple ds)) : ∃ a xs, v = .ref a ∧ SqT K F a xs ∧ RpA K F xs ds := by
  cases h with
  | tup h r => exact ⟨_, _, rfl, .inl (.inl h), r⟩
  | tupK h k r => exact ⟨_, _, rfl, .inr h, r⟩
theorem Rp.lstE {v : V} {ds : List PyData} (h : Rp K F v (.list ds)) : ∃ a xs, v = .ref a ∧ SqL K F a xs ∧ RpA K F xs ds := by
  cases h with
  | lst h r => exact ⟨_, _, rfl, h, r⟩
theorem Rp.dctE {v : V} {ds : List (PyData × PyData)} (h : Rp K F v (.dict ds)) : ∃ a o ws, v = .ref a ∧ F a = some (.frz o (.dT ws)) ∧ RpK K F ws ds := by
  cases h with
  | dct h r => exact ⟨_, _, _, rfl, h, r⟩
end

def ROk (K : PySem.W.Frag) (F : Hp) (as : List Addr) (v : V) : Rv → Prop
  | .dat d => Rp K F v d
  | .own n => ∃ a, as[n]? = some a ∧ v = .ref a
  | .raw u => v = u
def COk (K : PySem.W.Frag) (R F H : Hp) (as : List Addr) (a : Addr) : Cell → Prop
  | .L rs => ∃ vs, H a = some (.lst vs) ∧ F a = none ∧ R a = none ∧ Paired (ROk K F as) vs rs
  | .M kvs => ∃ ws, H a = some (.dT ws) ∧ F a = none ∧ R a = none ∧ Paired (fun (p : List Key × V) (q : List Key × Rv) => p.1 = q.1 ∧ ROk K F as p.2 q.2) ws kvs
  | .Q od ws kvs => H a = some (.frz od (.dT ws)) ∧ F a = none ∧ R a = none ∧ Paired (fun (p : List Key × V) (q : List Key × Rv) => p.1 = q.1 ∧ ROk K F as p.2 q.2) ws kvs
  | .Z d => F a ≠ none ∧ Rp K F (.ref a) d
/-- nothing stands there, or a tuple -/
def nT (x : Option HO) : Prop := x = none ∨ ∃ xs, x = some (.tup xs)
structure Sta (K : PySem.W.Frag) (R F H : Hp) (as : List Addr) (σ : L2.St) (ρ : List (Option Rv)) (μ : List Cell) : Prop where
  rh : Same R H
  fh : Same F H
  dj : ∀ a, R a = none ∨ nT (F a)
  nd : as.Nodup
  len : as.length = μ.length
  cel : ∀ (n : Nat) (a : Addr) (c : Cell), as[n]? = some a → μ[n]? = some c → COk K R F H as a c
  slt : ∀ (i : Nat) (r : Rv), ρ[i]? = some (some r) → ∃ v, σ[i]? = some (some v) ∧ ROk K F as v r
  sl : σ.length = ρ.length
structure Ext (F : Hp) (as : List Addr) (F' : Hp) (as' : List Addr) : Prop where
  f : Same F F'
  p : as <+: as'
theorem Ext.refl (F : Hp) (as : List Addr) : Ext F as F as := ⟨Same.refl F, List.prefix_refl as⟩
theorem Ext.trans {F F1 F2 : Hp} {as as1 as2 : List Addr} (a : Ext F as F1 as1) (b : Ext F1 as1 F2 as2) : Ext F as F2 as2 := ⟨a.f.trans b.f, a.p.trans b.p⟩
theorem pre_get {α : Type} {as as' : List α} (p : as <+: as') {n : Nat} {a : α} (h : as[n]? = some a) : as'[n]? = some a := by
  obtain ⟨t, rfl⟩ := p
  have hl : n < as.length := (List.getElem?_eq_some_iff.mp h).1
  rw [List.getElem?_append_left hl]
  exact h
section
variable {K : PySem.W.Frag} {R F F' H H' : Hp} {as as' : List Addr} {σ : L2.St} {ρ : List (Option Rv)} {μ : List Cell}
theorem ROk.mono (g : Gw F F') (p : as <+: as') {v : V} {r : Rv} (h : ROk K F as v r) : ROk K F' as' v r := by
  cases r with
  | dat d => exact Rp.mono g h
  | own n =>
    obtain ⟨a, h1, h2⟩ := h
    exact ⟨a, pre_get p h1, h2⟩
  | raw u => exact h
theorem ROk.ext (e : Ext F as F' as') {v : V} {r : Rv} (h : ROk K F as v r) : ROk K F' as' v r := h.mono (Gw.of e.f) e.p
theorem fresh_of (e : Same F H) {p : Addr} (h : H p = none) : F p = none := by
  cases q : F p with
  | none => rfl
  | some o =>
    rw [e p o q] at h
    cases h
theorem same_new (e : Same F H) {p : Addr} {o : HO} (h : H p = none) : Same F (upd H p o) := fun b u hb => by
  rw [upd_ne (ne_of_none (e b u hb) h)]
  exact e b u hb
theorem same_upd {p : Addr} {o : HO} (h : F p = none) : Same F (upd F p o) := fun b u hb => by
  rw [upd_ne (ne_of_none hb h)]
  exact hb
theorem same_both (e : Same F H) (p : Addr) (o : HO) : Same (upd F p o) (upd H p o) := fun b u hb => by
  by_cases hp : b = p
  · subst hp
    rw [upd_same] at hb ⊢
    exact hb
  · rw [upd_ne hp] at hb ⊢
    exact e b u hb
theorem COk.there {a : Addr} {c : Cell} (fh : Same F H) (h : COk K R F H as a c) : H a ≠ none := by
  cases c with
  | L rs =>
    obtain ⟨vs, h, _⟩ := h
    rw [h]
    exact fun q => nomatch q
  | M kvs =>
    obtain ⟨vs, h, _⟩ := h
    rw [h]
    exact fun q => nomatch q
  | Q od vs kvs =>
    obtain ⟨h, _⟩ := h
    rw [h]
    exact fun q => nomatch q
  | Z d =>
    obtain ⟨h, _⟩ := h
    intro q
    exact h (fresh_of fh q)
/-- a cell's facts where F has grown (not at a) and the object stands as it did -/
theorem COk.grow {a : Addr} {c : Cell} (h : COk K R F H as a c) (g : Same F F') (p : as <+: as') (hH : ∀ o, H a = some o → H' a = some o) (hF : F a = none → F' a = none) : COk K R F' H' as' a c := by
  cases c with
  | L rs =>
    obtain ⟨vs, h1, h2, h3, h4⟩ := h
    exact ⟨vs, hH _ h1, hF h2, h3, Paired.mapP h4 fun _ _ z => z.mono (Gw.of g) p⟩
  | M kvs =>
    obtain ⟨vs, h1, h2, h3, h4⟩ := h
    exact ⟨vs, hH _ h1, hF h2, h3, Paired.mapP h4 fun _ _ z => ⟨z.1, z.2.mono (Gw.of g) p⟩⟩
  | Q od vs kvs =>
    obtain ⟨h1, h2, h3, h4⟩ := h
    exact ⟨hH _ h1, hF h2, h3, Paired.mapP h4 fun _ _ z => ⟨z.1, z.2.mono (Gw.of g) p⟩⟩
  | Z d =>
    obtain ⟨h1, h2⟩ := h
    refine ⟨fun q => ?_, h2.mono (Gw.of g)⟩
    exact h1 (fresh_of g q)
/-- a new object, frozen -/
theorem Sta.laid (S : Sta K R F H as σ ρ μ) {p : Addr} (hp : H p = none) (o : HO) : Sta K R (upd F p o) (upd H p o) as σ ρ μ where
  rh := same_new S.rh hp
  fh := same_both S.fh p o
  dj := fun a => by
    by_cases h : a = p
    · subst h
      exact .inl (fresh_of S.rh hp)
    · rw [upd_ne h]
      exact S.dj a
  nd := S.nd
  len := S.len
  cel := fun n a c h1 h2 => by
    have h := S.cel n a c h1 h2
    have hne : a ≠ p := fun e => by
      subst e
      exact h.there S.fh hp
    exact h.grow (same_upd (fresh_of S.fh hp)) (List.prefix_refl _) (fun o h => by rw [upd_ne hne]; exact h) (fun h => by rw [upd_ne hne]; exact h)
  slt := fun i r h => by
    obtain ⟨v, h1, h2⟩ := S.slt i r h
    exact ⟨v, h1, h2.mono (Gw.of (same_upd (fresh_of S.fh hp))) (List.prefix_refl _)⟩
  sl := S.sl
/-- a new object that nothing speaks of -/
theorem Sta.lost (S : Sta K R F H as σ ρ μ) {p : Addr} (hp : H p = none) (o : HO) : Sta K R F (upd H p o) as σ ρ μ where
  rh := same_new S.rh hp
  fh := same_new S.fh hp
  dj := S.dj
  nd := S.nd
  len := S.len
  cel := fun n a c h1 h2 => by
    have h := S.cel n a c h1 h2
    have hne : a ≠ p := fun e => by
      subst e
      exact h.there S.fh hp
    exact h.grow (Same.refl F) (List.prefix_refl _) (fun o h => by rw [upd_ne hne]; exact h) (fun h => h)
  slt := S.slt
  sl := S.sl
/-- a new object of our own -/
theorem Sta.owned (S : Sta K R F H as σ ρ μ) {p : Addr} (hp : H p = none) {o : HO} {c : Cell} (hc : COk K R F (upd H p o) (as ++ [p]) p c) : Sta K R F (upd H p o) (as ++ [p]) σ ρ (μ ++ [c]) where
  rh := same_new S.rh hp
  fh := same_new S.fh hp
  dj := S.dj
  nd := by
    refine List.nodup_append.mpr ⟨S.nd, by simp, ?_⟩
    intro a ha b hb
    have : b = p := by simpa using hb
    subst this
    intro e
    subst e
    obtain ⟨n, hn⟩ := List.getElem?_of_mem ha
    have hl : n < μ.length := by rw [← S.len]; exact (List.getElem?_eq_some_iff.mp hn).1
    exact (S.cel n a μ[n] hn (List.getElem?_eq_getElem hl)).there S.fh hp
  len := by rw [List.length_append, List.length_append, S.len]; rfl
  cel := fun n a c' h1 h2 => by
    by_cases hn : n < as.length
    · rw [List.getElem?_append_left hn] at h1
      rw [List.getElem?_append_left (by rw [← S.len]; exact hn)] at h2
      have h := S.cel n a c' h1 h2
      have hne : a ≠ p := fun e => by
        subst e
        exact h.there S.fh hp
      exact h.grow (Same.refl F) (List.prefix_append _ _) (fun o h => by rw [upd_ne hne]; exact h) (fun h => h)
    · have h3 : as.length ≤ n := Nat.le_of_not_lt hn
      rw [List.getElem?_append_right h3] at h1
      rw [List.getElem?_append_right (by rw [← S.len]; exact h3), ← S.len] at h2
      have h4 : n - as.length = 0 := by
        have := (List.getElem?_eq_some_iff.mp h1).1
        simp at this
        exact this
      rw [h4] at h1 h2
      simp at h1 h2
      subst h1 h2
      exact hc
  slt := fun i r h => by
    obtain ⟨v, h1, h2⟩ := S.slt i r h
    exact ⟨v, h1, h2.mono (Gw.refl F) (List.prefix_append _ _)⟩
  sl := S.sl
/-- the cell n changes, its object with it -/
theorem Sta.set (S : Sta K R F H as σ ρ μ) {n : Nat} {a : Addr} {o : HO} {c : Cell} (ha : as[n]? = some a) (hF : F a = none) (hR : R a = none) (hc : COk K R F (upd H a o) as a c) : Sta K R F (upd H a o) as σ ρ (μ.set n c) where
  rh := fun b u hb => by
    rw [upd_ne (ne_of_none hb hR)]
    exact S.rh b u hb
  fh := fun b u hb => by
    rw [upd_ne (ne_of_none hb hF)]
    exact S.fh b u hb
  dj := S.dj
  nd := S.nd
  len := by rw [List.length_set]; exact S.len
  cel := fun m b c' h1 h2 => by
    by_cases hm : m = n
    · subst hm
      rw [ha] at h1
      cases h1
      have hl : m < μ.length := by rw [← S.len]; exact (List.getElem?_eq_some_iff.mp ha).1
      rw [List.getElem?_set_self hl] at h2
      cases h2
      exact hc
    · rw [List.getElem?_set_ne (Ne.symm hm)] at h2
      have h := S.cel m b c' h1 h2
      have hne : b ≠ a := fun e => by
        subst e
        exact hm (nd_ix S.nd h1 ha)
      exact h.grow (Same.refl F) (List.prefix_refl _) (fun o h => by rw [upd_ne hne]; exact h) (fun h => h)
  slt := S.slt
  sl := S.sl
/-- slots -/
theorem Sta.slots {σ' : L2.St} {ρ' : List (Option Rv)} (S : Sta K R F H as σ ρ μ) (hl : σ'.length = ρ'.length) (h : ∀ (i : Nat) (r : Rv), ρ'[i]? = some (some r) → ∃ v, σ'[i]? = some (some v) ∧ ROk K F as v r) : Sta K R F H as σ' ρ' μ :=
  ⟨S.rh, S.fh, S.dj, S.nd, S.len, S.cel, h, hl⟩
theorem Sta.store (S : Sta K R F H as σ ρ μ) {i : Nat} {v : V} {r : Rv} (hv : ROk K F as v r) (hi : i < ρ.length) : Sta K R F H as (σ.set i (some v)) (ρ.set i (some r)) μ := S.slots (by rw [List.length_set, List.length_set, S.sl]) fun j r' h => by
  have hi : i < σ.length := by rw [S.sl]; exact hi
  by_cases hj : i = j
  · subst hj
    by_cases hl : i < ρ.length
    · rw [List.getElem?_set_self hl] at h
      cases h
      exact ⟨v, List.getElem?_set_self hi, hv⟩
    · rw [List.getElem?_eq_none (by rw [List.length_set]; omega)] at h
      cases h
  · rw [List.getElem?_set_ne hj] at h
    obtain ⟨v', h1, h2⟩ := S.slt j r' h
    exact ⟨v', by rw [List.getElem?_set_ne hj]; exact h1, h2⟩
/-- freeze: a cell's object becomes data -/
theorem Sta.frz (S : Sta K R F H as σ ρ μ) {n : Nat} {a : Addr} {o : HO} {d : PyData} (ha : as[n]? = some a) (hH : H a = some o) (hF : F a = none) (hR : R a = none) (hd : Rp K (upd F a o) (.ref a) d) : Sta K R (upd F a o) H as σ ρ (μ.set n (.Z d)) where
  rh := S.rh
  fh := fun b u hb => by
    by_cases e : b = a
    · subst e
      rw [upd_same] at hb
      cases hb
      exact hH
    · rw [upd_ne e] at hb
      exact S.fh b u hb
  dj := fun b => by
    by_cases e : b = a
    · subst e
      exact .inl hR
    · rw [upd_ne e]
      exact S.dj b
  nd := S.nd
  len := by rw [List.length_set]; exact S.len
  cel := fun m b c' h1 h2 => by
    by_cases hm : m = n
    · subst hm
      rw [ha] at h1
      cases h1
      have hl : m < μ.length := by rw [← S.len]; exact (List.getElem?_eq_some_iff.mp ha).1
      rw [List.getElem?_set_self hl] at h2
      cases h2
      exact ⟨(by rw [upd_same]; exact (fun q => nomatch q)), hd⟩
    · rw [List.getElem?_set_ne (Ne.symm hm)] at h2
      have h := S.cel m b c' h1 h2
      have hne : b ≠ a := fun e => by
        subst e
        exact hm (nd_ix S.nd h1 ha)
      exact h.grow (same_upd hF) (List.prefix_refl _) (fun o h => h) (fun h => by rw [upd_ne hne]; exact h)
  slt := fun i r h => by
    obtain ⟨v, h1, h2⟩ := S.slt i r h
    exact ⟨v, h1, h2.mono (Gw.of (same_upd hF)) (List.prefix_refl _)⟩
  sl := S.sl
/-- freeze, the object changing its note (a dict is locked) -/
theorem Sta.frzAt (S : Sta K R F H as σ ρ μ) {n : Nat} {a : Addr} {o : HO} {d : PyData} (ha : as[n]? = some a) (hF : F a = none) (hR : R a = none) (hd : Rp K (upd F a o) (.ref a) d) : Sta K R (upd F a o) (upd H a o) as σ ρ (μ.set n (.Z d)) where
  rh := fun b u hb => by
    rw [upd_ne (ne_of_none hb hR)]
    exact S.rh b u hb
  fh := same_both S.fh a o
  dj := fun b => by
    by_cases e : b = a
    · subst e
      exact .inl hR
    · rw [upd_ne e]
      exact S.dj b
  nd := S.nd
  len := by rw [List.length_set]; exact S.len
  cel := fun m b c' h1 h2 => by
    by_cases hm : m = n
    · subst hm
      rw [ha] at h1
      cases h1
      have hl : m < μ.length := by rw [← S.len]; exact (List.getElem?_eq_some_iff.mp ha).1
      rw [List.getElem?_set_self hl] at h2
      cases h2
      exact ⟨(by rw [upd_same]; exact (fun q => nomatch q)), hd⟩
    · rw [List.getElem?_set_ne (Ne.symm hm)] at h2
      have h := S.cel m b c' h1 h2
      have hne : b ≠ a := fun e => by
        subst e
        exact hm (nd_ix S.nd h1 ha)
      exact h.grow (same_upd hF) (List.prefix_refl _) (fun o h => by rw [upd_ne hne]; exact h) (fun h => by rw [upd_ne hne]; exact h)
  slt := fun i r h => by
    obtain ⟨v, h1, h2⟩ := S.slt i r h
    exact ⟨v, h1, h2.mono (Gw.of (same_upd hF)) (List.prefix_refl _)⟩
  sl := S.sl
end
end BW

namespace BW
open PySem PySem.Spec PyProof.Rows L2

abbrev Rho := List (Option Rv)
abbrev Mu := List Cell
abbrev PR := Mu → Rv → Prop
theorem okD {K : PySem.W.Frag} {F : Hp} {as : List Addr} {v : V} {d : PyData} (h : Rp K F v d) : ROk K F as v (.dat d) := h
theorem okR {K : PySem.W.Frag} {F : Hp} {as : List Addr} {v : V} : ROk K F as v (.raw v) := rfl
def Post (K : PySem.W.Frag) (R F : Hp) (as : List Addr) (σ : L2.St) (ρ : Rho) (P : PR) (Q : VK) : Prop :=
  ∀ v F' H' as' μ' r, Sta K R F' H' as' σ ρ μ' → Ext F as F' as' → ROk K F' as' v r → P μ' r → Q v H'
/-- the expression e gives r, leaving the store μ', of which P μ' r holds -/
def Dm (X : Cx) (ρ : Rho) (μ : Mu) (e : Expr) (P : PR) : Prop := ∀ R F H as σ, Sta X.K R F H as σ ρ μ → ∀ Q : VK, Post X.K R F as σ ρ P Q → We X e σ H Q
/-- a test -/
def Tm (X : Cx) (ρ : Rho) (μ : Mu) (e : Expr) (P : Mu → Bool → Prop) : Prop := ∀ R F H as σ, Sta X.K R F H as σ ρ μ → ∀ Q : Bool → Hp → Prop,
  (∀ b F' H' as' μ', Sta X.K R F' H' as' σ ρ μ' → Ext F as F' as' → P μ' b → Q b H') → Wt X e σ H Q
/-- arguments -/
def Am (X : Cx) (ρ : Rho) (μ : Mu) (es : List Expr) (P : Mu → List Rv → Prop) : Prop := ∀ R F H as σ, Sta X.K R F H as σ ρ μ → ∀ Q : List V → Hp → Prop,
  (∀ vs F' H' as' μ' rs, Sta X.K R F' H' as' σ ρ μ' → Ext F as F' as' → Paired (ROk X.K F' as') vs rs → P μ' rs → Q vs H') → Wa X es σ H Q
/-- a target -/
def Gm (X : Cx) (ρ : Rho) (μ : Mu) (t : Expr) (r : Rv) (N : Rho → Mu → Prop) : Prop := ∀ R F H as σ v, Sta X.K R F H as σ ρ μ → ROk X.K F as v r → ∀ Q : L2.St → Hp → Prop,
  (∀ σ' F' H' as' ρ' μ', Sta X.K R F' H' as' σ' ρ' μ' → Ext F as F' as' → N ρ' μ' → Q σ' H') → Wg X t v σ H Q
structure Jm where
  nx : Rho → Mu → Prop
  rt : Mu → Rv → Prop
  bk : Rho → Mu → Prop := fun _ _ => False
  ct : Rho → Mu → Prop := fun _ _ => False
def Nx (K : PySem.W.Frag) (R F : Hp) (as : List Addr) (N : Rho → Mu → Prop) (D : L2.St → Hp → Prop) : Prop :=
  ∀ σ' F' H' as' ρ' μ', Sta K R F' H' as' σ' ρ' μ' → Ext F as F' as' → N ρ' μ' → D σ' H'
structure JOk (K : PySem.W.Frag) (R F : Hp) (as : List Addr) (J : Jm) (D : Ends) : Prop where
  nx : Nx K R F as J.nx D.nx
  rt : ∀ v F' H' as' σ' ρ' μ' r, Sta K R F' H' as' σ' ρ' μ' → Ext F as F' as' → ROk K F' as' v r → J.rt μ' r → D.rt v H'
  bk : Nx K R F as J.bk D.bk
  ct : Nx K R F as J.ct D.ct
/-- a block -/
def Ds (X : Cx) (ρ : Rho) (μ : Mu) (ss : List Stmt) (J : Jm) : Prop := ∀ R F H as σ, Sta X.K R F H as σ ρ μ → ∀ D : Ends, JOk X.K R F as J D → Wb X ss D σ H

theorem Nx.ext {K : PySem.W.Frag} {R F F1 : Hp} {as as1 : List Addr} {N : Rho → Mu → Prop} {D : L2.St → Hp → Prop} (h : Nx K R F as N D) (e : Ext F as F1 as1) : Nx K R F1 as1 N D :=
  fun σ' F' H' as' ρ' μ' S x n => h σ' F' H' as' ρ' μ' S (e.trans x) n
theorem JOk.ext {K : PySem.W.Frag} {R F F1 : Hp} {as as1 : List Addr} {J : Jm} {D : Ends} (h : JOk K R F as J D) (e : Ext F as F1 as1) : JOk K R F1 as1 J D :=
  ⟨h.nx.ext e, fun v F' H' as' σ' ρ' μ' r S x => h.rt v F' H' as' σ' ρ' μ' r S (e.trans x), h.bk.ext e, h.ct.ext e⟩
theorem Post.ext {K : PySem.W.Frag} {R F F1 : Hp} {as as1 : List Addr} {σ : L2.St} {ρ : Rho} {P : PR} {Q : VK} (h : Post K R F as σ ρ P Q) (e : Ext F as F1 as1) : Post K R F1 as1 σ ρ P Q :=
  fun v F' H' as' μ' r S x => h v F' H' as' μ' r S (e.trans x)

/-! ### what a value is to be -/
abbrev IntP (f : Mu → Int → Prop) : PR := fun μ r => ∃ i, r = .dat (.int i) ∧ f μ i
abbrev BoolP (f : Mu → Bool → Prop) : PR := fun μ r => ∃ b, r = .dat (.bool b) ∧ f μ b
abbrev StrP (f : Mu → Str → Prop) : PR := fun μ r => ∃ x, r = .dat (.str x) ∧ f μ x
abbrev TupP (f : Mu → List PyData → Prop) : PR := fun μ r => ∃ ds, r = .dat (.tuple ds) ∧ f μ ds
abbrev LstP (f : Mu → List PyData → Prop) : PR := fun μ r => ∃ ds, r = .dat (.list ds) ∧ f μ ds
abbrev DatP (f : Mu → PyData → Prop) : PR := fun μ r => ∃ d, r = .dat d ∧ f μ d

section
variable {X : Cx} {ρ : Rho} {μ : Mu} {P : PR} {a b c e : Expr} {es : List Expr} {x : Str} {pos : Pos} {J : Jm} {rest : List Stmt}

theorem Dm.imp {P' : PR} (h : Dm X ρ μ e P) (i : ∀ μ r, P μ r → P' μ r) : Dm X ρ μ e P' := fun R F H as σ S Q q => h R F H as σ S Q fun v F' H' as' μ' r S' x o p => q v F' H' as' μ' r S' x o (i μ' r p)
theorem Tm.imp {P P' : Mu → Bool → Prop} (h : Tm X ρ μ e P) (i : ∀ μ b, P μ b → P' μ b) : Tm X ρ μ e P' := fun R F H as σ S Q q => h R F H as σ S Q fun b F' H' as' μ' S' x p => q b F' H' as' μ' S' x (i μ' b p)

/-! ### names and constants -/
theorem dm_name {i : Nat} {r : Rv} (hN : X.N[i]? = some x) (hr : ρ[i]? = some (some r)) (h : P μ r) (hv : Vis X.env.scope x := by first | exact Or.inl rfl | exact Or.inr (Or.inl rfl) | exact Or.inr (Or.inr rfl)) (hd : (x == ("__debug__" : Str)) = false := by decide)
    (hcd : (x == ("__classdict__" : Str)) = false := by decide) : Dm X ρ μ (.Name x pos) P := fun R F H as σ S Q q => by
  obtain ⟨v, h1, h2⟩ := S.slt i r hr
  exact We.of (pe_var hN hv hd hcd) ⟨v, h1, q v F H as μ r S (Ext.refl F as) h2 h⟩
/-- a name whose cell is frozen -/
theorem dm_nameZ {i n : Nat} {d : PyData} (hN : X.N[i]? = some x) (hr : ρ[i]? = some (some (.own n))) (hz : μ[n]? = some (.Z d)) (h : P μ (.dat d)) (hv : Vis X.env.scope x := by first | exact Or.inl rfl | exact Or.inr (Or.inl rfl) | exact Or.inr (Or.inr rfl)) (hd : (x == ("__debug__" : Str)) = false := by decide)
    (hcd : (x == ("__classdict__" : Str)) = false := by decide) : Dm X ρ μ (.Name x pos) P := fun R F H as σ S Q q => by
  obtain ⟨v, h1, a, h2, rfl⟩ := S.slt i _ hr
  obtain ⟨_, h3⟩ := S.cel n a _ h2 hz
  exact We.of (pe_var hN hv hd hcd) ⟨_, h1, q _ F H as μ (.dat d) S (Ext.refl F as) h3 h⟩
theorem dm_int {i : Int} {j} (h : P μ (.dat (.int i))) : Dm X ρ μ (.Constant (.int i) j pos) P := fun R F H as σ S Q q => We.of pe_int (q _ F H as μ _ S (Ext.refl F as) (okD (.int i)) h)
theorem dm_bool {i : Bool} {j} (h : P μ (.dat (.bool i))) : Dm X ρ μ (.Constant (.bool i) j pos) P := fun R F H as σ S Q q => We.of pe_bl (q _ F H as μ _ S (Ext.refl F as) (okD (.bl i)) h)
theorem dm_none {j} (h : P μ (.dat .none)) : Dm X ρ μ (.Constant .none j pos) P := fun R F H as σ S Q q => We.of pe_non (q _ F H as μ _ S (Ext.refl F as) (okD .non) h)
theorem dm_str {z : Str} {j} (h : P μ (.dat (.str z))) : Dm X ρ μ (.Constant (.str z) j pos) P := fun R F H as σ S Q q => We.of pe_str (q _ F H as μ _ S (Ext.refl F as) (okD (.str z)) h)
/-- a module's name -/
theorem dm_glob {u : Value} {v : V} {d : PyData} (hg : Gl X x) (hm : X.mg x = some u) (rv : RelV v u) (hd : ∀ F, Rp X.K F v d) (h : P μ (.dat d)) (hb : (x == ("__debug__" : Str)) = false := by decide) : Dm X ρ μ (.Name x pos) P := fun R F H as σ S Q q =>
  We.of (pe_glob hg hm rv hb) (q _ F H as μ _ S (Ext.refl F as) (okD (hd F)) h)
theorem dm_globR {u : Value} {v : V} (hg : Gl X x) (hm : X.mg x = some u) (rv : RelV v u) (h : P μ (.raw v)) (hb : (x == ("__debug__" : Str)) = false := by decide) : Dm X ρ μ (.Name x pos) P := fun R F H as σ S Q q =>
  We.of (pe_glob hg hm rv hb) (q _ F H as μ _ S (Ext.refl F as) okR h)
/-- a builtin's name as a value -/
theorem dm_blt {u : Value} {v : V} (hg : Gl X x) (hm : X.mg x = none) (hv : bootBuiltins x = some u) (rv : RelV v u) (h : P μ (.raw v)) (hn : x ≠ "__name__" := by decide) (hb : (x == ("__debug__" : Str)) = false := by decide) : Dm X ρ μ (.Name x pos) P := fun R F H as σ S Q q =>
  We.of (pe_bltn hg hm hv rv hn hb) (q _ F H as μ _ S (Ext.refl F as) okR h)

/-! ### operations by values -/
def OpD (X : Cx) (ρ : Rho) (r : R2) (μ : Mu) (r1 r2 : Rv) (P : PR) : Prop := ∀ R F H as σ y z, Sta X.K R F H as σ ρ μ → ROk X.K F as y r1 → ROk X.K F as z r2 → ∀ Q : VK, Post X.K R F as σ ρ P Q → r y z H Q
theorem dm_bin {op : Operator} {r : R2} (ho : OpR X (binaryOp op) r) (h : Dm X ρ μ a fun μ1 r1 => Dm X ρ μ1 b fun μ2 r2 => OpD X ρ r μ2 r1 r2 P) : Dm X ρ μ (.BinOp a op b pos) P := fun R F H as σ S Q q => by
  refine We.of (pe_op ho (We.pe X a) (We.pe X b)) ?_
  refine h R F H as σ S _ fun v F1 H1 as1 μ1 r1 S1 x1 o1 h1 => ?_
  refine h1 R F1 H1 as1 σ S1 _ fun w F2 H2 as2 μ2 r2 S2 x2 o2 h2 => ?_
  exact h2 R F2 H2 as2 σ v w S2 (o1.ext x2) o2 Q (q.ext (x1.trans x2))
theorem dm_cmp {op : CmpOp} {r : R2} (ho : OpR X (compareOp op) r) (hm : behindInMarks op b = false) (h : Dm X ρ μ a fun μ1 r1 => Dm X ρ μ1 b fun μ2 r2 => OpD X ρ r μ2 r1 r2 P) : Dm X ρ μ (.Compare a [op] [b] pos) P := fun R F H as σ S Q q => by
  refine We.of (pe_cmpR ho (We.pe X a) (We.pe X b) hm) ?_
  refine h R F H as σ S _ fun v F1 H1 as1 μ1 r1 S1 x1 o1 h1 => ?_
  refine h1 R F1 H1 as1 σ S1 _ fun w F2 H2 as2 μ2 r2 S2 x2 o2 h2 => ?_
  exact h2 R F2 H2 as2 σ v w S2 (o1.ext x2) o2 Q (q.ext (x1.trans x2))
theorem tm_cmp {op : CmpOp} {r : R2} {f : Mu → Bool → Prop} (ho : OpR X (compareOp op) r) (hm : behindInMarks op b = false) (h : Dm X ρ μ a fun μ1 r1 => Dm X ρ μ1 b fun μ2 r2 => OpD X ρ r μ2 r1 r2 (BoolP f)) : Tm X ρ μ (.Compare a [op] [b] pos) f := fun R F H as σ S Q q => by
  refine Wt.of (pt_cmpR ho (We.pe X a) (We.pe X b) hm) ?_
  refine h R F H as σ S _ fun v F1 H1 as1 μ1 r1 S1 x1 o1 h1 => ?_
  refine h1 R F1 H1 as1 σ S1 _ fun w F2 H2 as2 μ2 r2 S2 x2 o2 h2 => ?_
  refine h2 R F2 H2 as2 σ v w S2 (o1.ext x2) o2 _ fun v F' H' as' μ' r S' x' o' h' => ?_
  obtain ⟨k, rfl, h'⟩ := h'
  exact ⟨k, Rp.blE o', q k F' H' as' μ' S' ((x1.trans x2).trans x') h'⟩
theorem opd_I {C : Int → Int → Prop} {g : Int → Int → Int} {i j : Int} (hc : C i j) (h : P μ (.dat (.int (g i j)))) : OpD X ρ (rI C fun i j => .int (g i j)) μ (.dat (.int i)) (.dat (.int j)) P := fun R F H as σ y z S o1 o2 Q q =>
  ⟨i, j, Rp.intE o1, Rp.intE o2, hc, q _ F H as μ _ S (Ext.refl F as) (okD (.int _)) h⟩
theorem opd_I0 {g : Int → Int → Int} {i j : Int} (h : P μ (.dat (.int (g i j)))) : OpD X ρ (rI0 fun i j => .int (g i j)) μ (.dat (.int i)) (.dat (.int j)) P := fun R F H as σ y z S o1 o2 Q q =>
  ⟨i, j, Rp.intE o1, Rp.intE o2, q _ F H as μ _ S (Ext.refl F as) (okD (.int _)) h⟩
theorem opd_B0 {g : Int → Int → Bool} {i j : Int} (h : P μ (.dat (.bool (g i j)))) : OpD X ρ (rI0 fun i j => .bl (g i j)) μ (.dat (.int i)) (.dat (.int j)) P := fun R F H as σ y z S o1 o2 Q q =>
  ⟨i, j, Rp.intE o1, Rp.intE o2, q _ F H as μ _ S (Ext.refl F as) (okD (.bl _)) h⟩
theorem opd_eqI {i j : Int} (h : P μ (.dat (.bool (decide (i = j))))) : OpD X ρ rEq μ (.dat (.int i)) (.dat (.int j)) P := fun R F H as σ y z S o1 o2 Q q => by
  obtain rfl := Rp.intE o1
  obtain rfl := Rp.intE o2
  refine ⟨rfl, ?_⟩
  rw [dec_int, Bool.beq_eq_decide_eq]
  exact q _ F H as μ _ S (Ext.refl F as) (okD (.bl _)) h
theorem opd_neI {i j : Int} (h : P μ (.dat (.bool (!decide (i = j))))) : OpD X ρ rNe μ (.dat (.int i)) (.dat (.int j)) P := fun R F H as σ y z S o1 o2 Q q => by
  obtain rfl := Rp.intE o1
  obtain rfl := Rp.intE o2
  refine ⟨rfl, ?_⟩
  rw [dec_int, Bool.beq_eq_decide_eq]
  exact q _ F H as μ _ S (Ext.refl F as) (okD (.bl _)) h
theorem opd_eqS {i j : Str} (h : P μ (.dat (.bool (decide (i = j))))) : OpD X ρ rEq μ (.dat (.str i)) (.dat (.str j)) P := fun R F H as σ y z S o1 o2 Q q => by
  obtain rfl := Rp.strE o1
  obtain rfl := Rp.strE o2
  refine ⟨rfl, ?_⟩
  rw [dec_str, Bool.beq_eq_decide_eq]
  exact q _ F H as μ _ S (Ext.refl F as) (okD (.bl _)) h
theorem opd_eqB {i j : Bool} (h : P μ (.dat (.bool (decide (i = j))))) : OpD X ρ rEq μ (.dat (.bool i)) (.dat (.bool j)) P := fun R F H as σ y z S o1 o2 Q q => by
  obtain rfl := Rp.blE o1
  obtain rfl := Rp.blE o2
  refine ⟨rfl, ?_⟩
  rw [dec_bl, Bool.beq_eq_decide_eq]
  exact q _ F H as μ _ S (Ext.refl F as) (okD (.bl _)) h
theorem opd_neB {i j : Bool} (h : P μ (.dat (.bool (!decide (i = j))))) : OpD X ρ rNe μ (.dat (.bool i)) (.dat (.bool j)) P := fun R F H as σ y z S o1 o2 Q q => by
  obtain rfl := Rp.blE o1
  obtain rfl := Rp.blE o2
  refine ⟨rfl, ?_⟩
  rw [dec_bl, Bool.beq_eq_decide_eq]
  exact q _ F H as μ _ S (Ext.refl F as) (okD (.bl _)) h
theorem dm_neg (h : Dm X ρ μ a (IntP fun μ1 i => P μ1 (.dat (.int (-i))))) : Dm X ρ μ (.UnaryOp .USub a pos) P := fun R F H as σ S Q q => by
  refine We.of (pe_un un_neg (We.pe X a)) ?_
  refine h R F H as σ S _ fun v F1 H1 as1 μ1 r1 S1 x1 o1 h1 => ?_
  obtain ⟨i, rfl, h1⟩ := h1
  exact ⟨i, Rp.intE o1, q _ F1 H1 as1 μ1 _ S1 x1 (okD (.int _)) h1⟩

/-! ### chains -/
theorem dm_chain {op op' : CmpOp} {r r' : R2} (ho : OpR X (compareOp op) r) (ho' : OpR X (compareOp op') r') (h : Dm X ρ μ a fun μ1 r1 => Dm X ρ μ1 b fun μ2 r2 => OpD X ρ r μ2 r1 r2 (BoolP fun μ3 k =>
      (k = true → Dm X ρ μ3 c fun μ4 r4 => OpD X ρ r' μ4 r2 r4 P) ∧ (k = false → P μ3 (.dat (.bool false))))) (hl : lastMarks [op, op'] [b, c] = false := by rfl) : Dm X ρ μ (.Compare a [op, op'] [b, c] pos) P := fun R F H as σ S Q q => by
  refine We.of (pe_chain ho ho' (We.pe X a) (We.pe X b) (We.pe X c) (hm := hl)) ?_
  refine h R F H as σ S _ fun v F1 H1 as1 μ1 r1 S1 x1 o1 h1 => ?_
  refine h1 R F1 H1 as1 σ S1 _ fun w F2 H2 as2 μ2 r2 S2 x2 o2 h2 => ?_
  refine h2 R F2 H2 as2 σ v w S2 (o1.ext x2) o2 _ fun z F3 H3 as3 μ3 r3 S3 x3 o3 h3 => ?_
  obtain ⟨k, rfl, h3, h4⟩ := h3
  refine ⟨k, Rp.blE o3, ?_⟩
  have x123 := (x1.trans x2).trans x3
  cases k with
  | true =>
    rw [if_pos rfl]
    refine h3 rfl R F3 H3 as3 σ S3 _ fun z4 F4 H4 as4 μ4 r4 S4 x4 o4 h5 => ?_
    exact h5 R F4 H4 as4 σ w z4 S4 (o2.ext (x3.trans x4)) o4 Q (q.ext (x123.trans x4))
  | false =>
    rw [if_neg Bool.false_ne_true]
    exact q _ F3 H3 as3 μ3 _ S3 x123 (okD (.bl false)) (h4 rfl)
theorem tm_chain {op op' : CmpOp} {r r' : R2} {f : Mu → Bool → Prop} (ho : OpR X (compareOp op) r) (ho' : OpR X (compareOp op') r') (h : Dm X ρ μ a fun μ1 r1 => Dm X ρ μ1 b fun μ2 r2 => OpD X ρ r μ2 r1 r2 (BoolP fun μ3 k =>
      (k = true → Dm X ρ μ3 c fun μ4 r4 => OpD X ρ r' μ4 r2 r4 (BoolP f)) ∧ (k = false → f μ3 false))) (hl : lastMarks [op, op'] [b, c] = false := by rfl) : Tm X ρ μ (.Compare a [op, op'] [b, c] pos) f := fun R F H as σ S Q q => by
  refine Wt.of (pt_chain ho ho' (We.pe X a) (We.pe X b) (We.pe X c) (hm := hl)) ?_
  refine h R F H as σ S _ fun v F1 H1 as1 μ1 r1 S1 x1 o1 h1 => ?_
  refine h1 R F1 H1 as1 σ S1 _ fun w F2 H2 as2 μ2 r2 S2 x2 o2 h2 => ?_
  refine h2 R F2 H2 as2 σ v w S2 (o1.ext x2) o2 _ fun z F3 H3 as3 μ3 r3 S3 x3 o3 h3 => ?_
  obtain ⟨k, rfl, h3, h4⟩ := h3
  refine ⟨k, Rp.blE o3, ?_⟩
  have x123 := (x1.trans x2).trans x3
  cases k with
  | true =>
    rw [if_pos rfl]
    refine h3 rfl R F3 H3 as3 σ S3 _ fun z4 F4 H4 as4 μ4 r4 S4 x4 o4 h5 => ?_
    refine h5 R F4 H4 as4 σ w z4 S4 (o2.ext (x3.trans x4)) o4 _ fun v5 F5 H5 as5 μ5 r5 S5 x5 o5 h6 => ?_
    obtain ⟨k5, rfl, h6⟩ := h6
    exact ⟨k5, Rp.blE o5, q k5 F5 H5 as5 μ5 S5 ((x123.trans x4).trans x5) h6⟩
  | false =>
    rw [if_neg Bool.false_ne_true]
    exact ⟨false, rfl, q _ F3 H3 as3 μ3 S3 x123 (h4 rfl)⟩

/-! ### tests -/
theorem tm_val {f : Mu → Bool → Prop} (h : Dm X ρ μ e (BoolP f)) (he : ∀ whole, isTrue e X.env whole = (do let v ← whole; standAt e.pos; holding [v] (truthy v)) := by intro _; rfl) : Tm X ρ μ e f := fun R F H as σ S Q q => by
  refine Wt.of (pt_val (We.pe X e) he) ?_
  refine h R F H as σ S _ fun v F1 H1 as1 μ1 r1 S1 x1 o1 h1 => ?_
  obtain ⟨k, rfl, h1⟩ := h1
  exact ⟨k, Rp.blE o1, q k F1 H1 as1 μ1 S1 x1 h1⟩
theorem tm_not {f : Mu → Bool → Prop} (h : Tm X ρ μ a fun μ1 k => f μ1 (!k)) : Tm X ρ μ (.UnaryOp .Not a pos) f := fun R F H as σ S Q q => by
  refine Wt.of (pt_not (Wt.pt X a)) ?_
  exact h R F H as σ S _ fun k F1 H1 as1 μ1 S1 x1 h1 => q _ F1 H1 as1 μ1 S1 x1 h1
/-- a chain of and, or, whatever its whole is -/
def Wm (X : Cx) (ρ : Rho) (μ : Mu) (e : Expr) (P : Mu → Bool → Prop) : Prop := ∀ R F H as σ, Sta X.K R F H as σ ρ μ → ∀ Q : Bool → Hp → Prop,
  (∀ b F' H' as' μ', Sta X.K R F' H' as' σ ρ μ' → Ext F as F' as' → P μ' b → Q b H') → ∀ (whole : Sem Value) (pins : List (Addr × Obj)) (s : Shared), Inv X pins σ H s → wpAny (model X.prog X.w) X.A (isTrue e X.env whole) (TP X pins σ Q) X.xe s
theorem tm_w {f : Mu → Bool → Prop} (h : Wm X ρ μ e f) : Tm X ρ μ e f := fun R F H as σ S Q q pins s I => h R F H as σ S Q q _ pins s I
def Ww (X : Cx) (e : Expr) : TT := fun σ H Q => ∀ (whole : Sem Value) (pins : List (Addr × Obj)) (s : Shared), Inv X pins σ H s → wpAny (model X.prog X.w) X.A (isTrue e X.env whole) (TP X pins σ Q) X.xe s
theorem Ww.pw (X : Cx) (e : Expr) : PW X e (Ww X e) := ⟨fun wh pins s _ _ _ I h => h wh pins s I⟩
theorem wm_and1 {f : Mu → Bool → Prop} (h : Tm X ρ μ a f) : Wm X ρ μ (.BoolOp .And [a] pos) f := fun R F H as σ S Q q wh pins s I =>
  (pw_and1 (Wt.pt X a)).run wh pins s σ H Q I (h R F H as σ S Q q)
theorem wm_or1 {f : Mu → Bool → Prop} (h : Tm X ρ μ a f) : Wm X ρ μ (.BoolOp .Or [a] pos) f := fun R F H as σ S Q q wh pins s I =>
  (pw_or1 (Wt.pt X a)).run wh pins s σ H Q I (h R F H as σ S Q q)
theorem wm_and {f : Mu → Bool → Prop} {es : List Expr} (h : Tm X ρ μ a fun μ1 k => (k = true → Wm X ρ μ1 (.BoolOp .And (b :: es) pos) f) ∧ (k = false → f μ1 false)) : Wm X ρ μ (.BoolOp .And (a :: b :: es) pos) f := fun R F H as σ S Q q wh pins s I => by
  refine (pw_and (Wt.pt X a) (Ww.pw X _)).run wh pins s σ H Q I ?_
  refine h R F H as σ S _ fun k F1 H1 as1 μ1 S1 x1 h1 => ?_
  cases k with
  | true =>
    rw [if_pos rfl]
    exact fun wh pins s I => h1.1 rfl R F1 H1 as1 σ S1 Q (fun k F2 H2 as2 μ2 S2 x2 => q k F2 H2 as2 μ2 S2 (x1.trans x2)) wh pins s I
  | false =>
    rw [if_neg Bool.false_ne_true]
    exact q false F1 H1 as1 μ1 S1 x1 (h1.2 rfl)
theorem wm_or {f : Mu → Bool → Prop} {es : List Expr} (h : Tm X ρ μ a fun μ1 k => (k = true → f μ1 true) ∧ (k = false → Wm X ρ μ1 (.BoolOp .Or (b :: es) pos) f)) : Wm X ρ μ (.BoolOp .Or (a :: b :: es) pos) f := fun R F H as σ S Q q wh pins s I => by
  refine (pw_or (Wt.pt X a) (Ww.pw X _)).run wh pins s σ H Q I ?_
  refine h R F H as σ S _ fun k F1 H1 as1 μ1 S1 x1 h1 => ?_
  cases k with
  | true =>
    rw [if_pos rfl]
    exact q true F1 H1 as1 μ1 S1 x1 (h1.1 rfl)
  | false =>
    rw [if_neg Bool.false_ne_true]
    exact fun wh pins s I => h1.2 rfl R F1 H1 as1 σ S1 Q (fun k F2 H2 as2 μ2 S2 x2 => q k F2 H2 as2 μ2 S2 (x1.trans x2)) wh pins s I
/-- a test that is never come to -/
theorem wm_and2 {f : Mu → Bool → Prop} (h : Tm X ρ μ a fun μ1 k => (k = true → Tm X ρ μ1 b f) ∧ (k = false → f μ1 false)) : Wm X ρ μ (.BoolOp .And [a, b] pos) f := wm_and (h.imp fun _ _ z => ⟨fun e => wm_and1 (z.1 e), z.2⟩)
theorem wm_or2 {f : Mu → Bool → Prop} (h : Tm X ρ μ a fun μ1 k => (k = true → f μ1 true) ∧ (k = false → Tm X ρ μ1 b f)) : Wm X ρ μ (.BoolOp .Or [a, b] pos) f := wm_or (h.imp fun _ _ z => ⟨z.1, fun e => wm_or1 (z.2 e)⟩)
/-- and, or as values -/
theorem dm_one {op} (h : Dm X ρ μ a P) : Dm X ρ μ (.BoolOp op [a] pos) P := fun R F H as σ S Q q => We.of (pe_one (We.pe X a)) (h R F H as σ S Q q)
theorem dm_and {es : List Expr} (h : Dm X ρ μ a (BoolP fun μ1 k => (k = true → Dm X ρ μ1 (.BoolOp .And (b :: es) pos) P) ∧ (k = false → P μ1 (.dat (.bool false))))) : Dm X ρ μ (.BoolOp .And (a :: b :: es) pos) P := fun R F H as σ S Q q => by
  refine We.of (pe_and (We.pe X a) (We.pe X _)) ?_
  refine h R F H as σ S _ fun v F1 H1 as1 μ1 r1 S1 x1 o1 h1 => ?_
  obtain ⟨k, rfl, h1, h2⟩ := h1
  refine ⟨k, Rp.blE o1, ?_⟩
  cases k with
  | true =>
    rw [if_pos rfl]
    exact h1 rfl R F1 H1 as1 σ S1 Q (q.ext x1)
  | false =>
    rw [if_neg Bool.false_ne_true]
    exact q _ F1 H1 as1 μ1 _ S1 x1 (okD (.bl false)) (h2 rfl)
theorem dm_or {es : List Expr} (h : Dm X ρ μ a (BoolP fun μ1 k => (k = true → P μ1 (.dat (.bool true))) ∧ (k = false → Dm X ρ μ1 (.BoolOp .Or (b :: es) pos) P))) : Dm X ρ μ (.BoolOp .Or (a :: b :: es) pos) P := fun R F H as σ S Q q => by
  refine We.of (pe_or (We.pe X a) (We.pe X _)) ?_
  refine h R F H as σ S _ fun v F1 H1 as1 μ1 r1 S1 x1 o1 h1 => ?_
  obtain ⟨k, rfl, h1, h2⟩ := h1
  refine ⟨k, Rp.blE o1, ?_⟩
  cases k with
  | true =>
    rw [if_pos rfl]
    exact q _ F1 H1 as1 μ1 _ S1 x1 (okD (.bl true)) (h1 rfl)
  | false =>
    rw [if_neg Bool.false_ne_true]
    exact h2 rfl R F1 H1 as1 σ S1 Q (q.ext x1)
theorem dm_not (h : Dm X ρ μ a (BoolP fun μ1 k => P μ1 (.dat (.bool (!k))))) : Dm X ρ μ (.UnaryOp .Not a pos) P := fun R F H as σ S Q q => by
  refine We.of (pe_not (We.pe X a)) ?_
  refine h R F H as σ S _ fun v F1 H1 as1 μ1 r1 S1 x1 o1 h1 => ?_
  obtain ⟨k, rfl, h1⟩ := h1
  exact ⟨k, Rp.blE o1, q _ F1 H1 as1 μ1 _ S1 x1 (okD (.bl _)) h1⟩
theorem dm_if (h : Tm X ρ μ c fun μ1 k => (k = true → Dm X ρ μ1 a P) ∧ (k = false → Dm X ρ μ1 b P)) : Dm X ρ μ (.IfExp c a b pos) P := fun R F H as σ S Q q => by
  refine We.of (pe_ifExp (Wt.pt X c) (We.pe X a) (We.pe X b)) ?_
  refine h R F H as σ S _ fun k F1 H1 as1 μ1 S1 x1 h1 => ?_
  cases k with
  | true =>
    rw [if_pos rfl]
    exact h1.1 rfl R F1 H1 as1 σ S1 Q (q.ext x1)
  | false =>
    rw [if_neg Bool.false_ne_true]
    exact h1.2 rfl R F1 H1 as1 σ S1 Q (q.ext x1)

/-! ### arguments and displays -/
theorem am_nil {P : Mu → List Rv → Prop} (h : P μ []) : Am X ρ μ [] P := fun R F H as σ S Q q => Wa.of pa_nil (q [] F H as μ [] S (Ext.refl F as) .nil h)
theorem am_cons {P : Mu → List Rv → Prop} (h : Dm X ρ μ e fun μ1 r => Am X ρ μ1 es fun μ2 rs => P μ2 (r :: rs)) (hs : starEach (e :: es) X.env = (false, eval e X.env) :: starEach es X.env := by rfl) : Am X ρ μ (e :: es) P := fun R F H as σ S Q q => by
  refine Wa.of (pa_cons (We.pe X e) (Wa.pa X es) hs) ?_
  refine h R F H as σ S _ fun v F1 H1 as1 μ1 r1 S1 x1 o1 h1 => ?_
  refine h1 R F1 H1 as1 σ S1 _ fun vs F2 H2 as2 μ2 rs S2 x2 o2 h2 => ?_
  exact q _ F2 H2 as2 μ2 _ S2 (x1.trans x2) (.cons (o1.ext x2) o2) h2
abbrev DatsP (f : Mu → List PyData → Prop) : Mu → List Rv → Prop := fun μ rs => ∃ ds, rs = ds.map Rv.dat ∧ f μ ds
theorem rpA_of {K : PySem.W.Frag} {F : Hp} {as : List Addr} : ∀ {vs : List V} {ds : List PyData}, Paired (ROk K F as) vs (ds.map Rv.dat) → RpA K F vs ds
  | [], [], _ => .nil
  | _ :: _, d :: ds, .cons h r => .cons h (rpA_of r)
theorem paired_len {α β : Type} {F : α → β → Prop} {l₁ : List α} {l₂ : List β} (h : Paired F l₁ l₂) : l₁.length = l₂.length := Paired.length h
/-- (a, b, ..) of data -/
theorem dm_tup {k} (h : Am X ρ μ es (DatsP fun μ1 ds => ds.length ≤ 1000 ∧ P μ1 (.dat (.tuple ds)))) : Dm X ρ μ (.Tuple es k pos) P := fun R F H as σ S Q q => by
  refine We.of (pe_tup (Wa.pa X es)) ?_
  refine h R F H as σ S _ fun vs F1 H1 as1 μ1 rs S1 x1 o1 h1 => ?_
  obtain ⟨ds, rfl, hl, h1⟩ := h1
  have o2 := rpA_of o1
  refine ⟨Nat.le_of_lt (small1000 (by rw [o2.length]; exact hl)), fun p hp => ?_⟩
  refine q _ _ _ as1 μ1 _ (S1.laid hp (.tup vs)) (x1.trans ⟨same_upd (fresh_of S1.fh hp), List.prefix_refl _⟩) ?_ h1
  exact Rp.tup upd_same (o2.mono (Gw.of (same_upd (fresh_of S1.fh hp))))
/-- [a, b, ..] of data, frozen at once -/
theorem dm_lst (h : Am X ρ μ es (DatsP fun μ1 ds => ds.length ≤ 1000 ∧ P μ1 (.dat (.list ds)))) : Dm X ρ μ (.List es pos) P := fun R F H as σ S Q q => by
  refine We.of (pe_lst (Wa.pa X es)) ?_
  refine h R F H as σ S _ fun vs F1 H1 as1 μ1 rs S1 x1 o1 h1 => ?_
  obtain ⟨ds, rfl, hl, h1⟩ := h1
  have o2 := rpA_of o1
  refine ⟨Nat.le_of_lt (small1000 (by rw [o2.length]; exact hl)), fun p hp => ?_⟩
  refine q _ _ _ as1 μ1 _ (S1.laid hp (.lst vs)) (x1.trans ⟨same_upd (fresh_of S1.fh hp), List.prefix_refl _⟩) ?_ h1
  exact Rp.lst (.inl (.inl upd_same)) (o2.mono (Gw.of (same_upd (fresh_of S1.fh hp))))
/-- [a, b, ..], a cell of our own -/
theorem dm_lstO (h : Am X ρ μ es fun μ1 rs => rs.length ≤ 1000 ∧ P (μ1 ++ [.L rs]) (.own μ1.length)) : Dm X ρ μ (.List es pos) P := fun R F H as σ S Q q => by
  refine We.of (pe_lst (Wa.pa X es)) ?_
  refine h R F H as σ S _ fun vs F1 H1 as1 μ1 rs S1 x1 o1 h1 => ?_
  obtain ⟨hl, h1⟩ := h1
  refine ⟨Nat.le_of_lt (small1000 (by rw [paired_len o1]; exact hl)), fun p hp => ?_⟩
  refine q _ _ _ (as1 ++ [p]) _ _ (S1.owned hp (c := .L rs) ?_) (x1.trans ⟨Same.refl _, List.prefix_append _ _⟩) ?_ h1
  · exact ⟨vs, upd_same, fresh_of S1.fh hp, fresh_of S1.rh hp, Paired.mapP o1 fun _ _ z => z.mono (Gw.refl _) (List.prefix_append _ _)⟩
  · refine ⟨p, ?_, rfl⟩
    rw [← S1.len]
    simp
/-- {}, a cell of our own -/
theorem dm_dctO (h : P (μ ++ [.M []]) (.own μ.length)) : Dm X ρ μ (.Dict [] [] pos) P := fun R F H as σ S Q q => by
  refine We.of pe_dnewT fun p hp => ?_
  refine q _ _ _ (as ++ [p]) _ _ (S.owned hp (c := .M []) ?_) ⟨Same.refl _, List.prefix_append _ _⟩ ?_ h
  · exact ⟨[], upd_same, fresh_of S.fh hp, fresh_of S.rh hp, .nil⟩
  · refine ⟨p, ?_, rfl⟩
    rw [← S.len]
    simp

/-! ### subscripts -/
def IxP (X : Cx) (ρ : Rho) (μ : Mu) (r1 : Rv) (i : Int) (P : PR) : Prop := match r1 with
  | .dat (.tuple ds) => ∃ d, atI ds i = some d ∧ P μ (.dat d)
  | .dat (.list ds) => ∃ d, atI ds i = some d ∧ P μ (.dat d)
  | .own n => (∃ rs r, μ[n]? = some (.L rs) ∧ atI rs i = some r ∧ P μ r) ∨ ∃ ds d, μ[n]? = some (.Z (.list ds)) ∧ atI ds i = some d ∧ P μ (.dat d)
  | _ => False
theorem ixN_len {m n : Nat} {i : Int} (e : m = n) : ixN m i = ixN n i := by rw [e]
theorem atI_rp {K : PySem.W.Frag} {F : Hp} {vs : List V} {ds : List PyData} {i : Int} {d : PyData} (r : RpA K F vs ds) (h : atI ds i = some d) : ∃ v, atI vs i = some v ∧ Rp K F v d := by
  unfold atI at h ⊢
  rw [r.length]
  cases e : ixN ds.length i with
  | none => rw [e] at h; cases h
  | some j =>
    rw [e] at h
    obtain ⟨v, h1, h2⟩ := r.get (i := j) (d := d) h
    exact ⟨v, h1, h2⟩
theorem paired_get {α β : Type} {F : α → β → Prop} : ∀ {l₁ : List α} {l₂ : List β} {j : Nat} {y : β}, Paired F l₁ l₂ → l₂[j]? = some y → ∃ x, l₁[j]? = some x ∧ F x y
  | _, _, _, _, .nil, e => by simp at e
  | _, _, 0, _, .cons h _, e => by
    simp at e
    subst e
    exact ⟨_, rfl, h⟩
  | _, _, j + 1, y, .cons _ r, e => by
    obtain ⟨v, h1, h2⟩ := paired_get (j := j) (y := y) r (by simpa using e)
    exact ⟨v, by simpa using h1, h2⟩
theorem atI_pr {α β : Type} {F : α → β → Prop} {vs : List α} {rs : List β} {i : Int} {r : β} (p : Paired F vs rs) (h : atI rs i = some r) : ∃ v, atI vs i = some v ∧ F v r := by
  unfold atI at h ⊢
  rw [paired_len p]
  cases e : ixN rs.length i with
  | none => rw [e] at h; cases h
  | some j =>
    rw [e] at h
    obtain ⟨v, h1, h2⟩ := paired_get p (j := j) h
    exact ⟨v, h1, h2⟩
theorem sq_up {K : PySem.W.Frag} {F H : Hp} (e : Same F H) {a : Addr} {xs : List V} (h : SqL K F a xs) : SqL K H a xs := (Gw.of e).sl h
theorem st_up {K : PySem.W.Frag} {F H : Hp} (e : Same F H) {a : Addr} {xs : List V} (h : SqT K F a xs) : SqT K H a xs := by
  rcases h with h | h
  · exact .inl (same_rd e h)
  · exact .inr h
theorem dm_ix (h : Dm X ρ μ a fun μ1 r1 => Dm X ρ μ1 b (IntP fun μ2 i => IxP X ρ μ2 r1 i P)) (hs : PlainIx b := by exact fun _ _ => rfl) : Dm X ρ μ (.Subscript a b pos) P := fun R F H as σ S Q q => by
  refine We.of (pe_ix ix_seq (We.pe X a) (We.pe X b) hs) ?_
  refine h R F H as σ S _ fun v F1 H1 as1 μ1 r1 S1 x1 o1 h1 => ?_
  refine h1 R F1 H1 as1 σ S1 _ fun w F2 H2 as2 μ2 r2 S2 x2 o2 h2 => ?_
  obtain ⟨i, rfl, h2⟩ := h2
  obtain rfl := Rp.intE o2
  have o1 := o1.ext x2
  have x12 := x1.trans x2
  cases r1 with
  | dat d =>
    cases d with
    | tuple ds =>
      obtain ⟨d, h3, h4⟩ := h2
      obtain ⟨a, xs, rfl, h5, h6⟩ := Rp.tupE o1
      obtain ⟨v, h7, h8⟩ := atI_rp h6 h3
      exact .inr (.inl ⟨a, xs, i, v, rfl, rfl, st_up S2.fh h5, h7, q v F2 H2 as2 μ2 _ S2 x12 (okD h8) h4⟩)
    | list ds =>
      obtain ⟨d, h3, h4⟩ := h2
      obtain ⟨a, xs, rfl, h5, h6⟩ := Rp.lstE o1
      obtain ⟨v, h7, h8⟩ := atI_rp h6 h3
      exact .inl ⟨a, xs, i, v, rfl, rfl, sq_up S2.fh h5, h7, q v F2 H2 as2 μ2 _ S2 x12 (okD h8) h4⟩
    | _ => exact h2.elim
  | own n =>
    obtain ⟨a, h5, rfl⟩ := o1
    rcases h2 with ⟨rs, r, h3, h4, h6⟩ | ⟨ds, d, h3, h4, h6⟩
    · obtain ⟨vs, e1, e2, e3, e4⟩ := S2.cel n a _ h5 h3
      obtain ⟨v, h7, h8⟩ := atI_pr e4 h4
      exact .inl ⟨a, vs, i, v, rfl, rfl, .inl (.inl e1), h7, q v F2 H2 as2 μ2 _ S2 x12 h8 h6⟩
    · obtain ⟨_, e1⟩ := S2.cel n a _ h5 h3
      obtain ⟨a', xs, e, h9, h10⟩ := Rp.lstE e1
      cases e
      obtain ⟨v, h7, h8⟩ := atI_rp h10 h4
      exact .inl ⟨a, xs, i, v, rfl, rfl, sq_up S2.fh h9, h7, q v F2 H2 as2 μ2 _ S2 x12 (okD h8) h6⟩
  | raw v => exact h2.elim

/-! ### statements -/
theorem ds_nil (h : J.nx ρ μ) : Ds X ρ μ [] J := fun R F H as σ S D j => Wb.of pss_nil (j.nx σ F H as ρ μ S (Ext.refl F as) h)
theorem ds_cons_of {st : Stmt} {t : TS} (hp : PS X st t) (h : ∀ R F H as σ, Sta X.K R F H as σ ρ μ → ∀ D : Ends, JOk X.K R F as J D → t { D with nx := Wb X rest D } σ H) : Ds X ρ μ (st :: rest) J := fun R F H as σ S D j =>
  Wb.of (pss_cons hp (Wb.ps X rest)) (h R F H as σ S D j)
theorem ds_asg {tg : Expr} (h : Dm X ρ μ e fun μ1 r => Gm X ρ μ1 tg r fun ρ2 μ2 => Ds X ρ2 μ2 rest J) (hs : swapsWithSole [tg] e pos.line X.env = pure false := by rfl) (hw : swappedStores [tg] e X.env = pure none := by rfl)
    (h1 : (assignEach [tg] X.env).map (·.2) = [assign tg X.env] := by rfl) : Ds X ρ μ (.Assign [tg] e pos :: rest) J :=
  ds_cons_of (ps_asg (We.pe X e) (Wg.pg X tg) hs hw h1) fun R F H as σ S D j => by
    refine h R F H as σ S _ fun v F1 H1 as1 μ1 r1 S1 x1 o1 h1 => ?_
    refine h1 R F1 H1 as1 σ v S1 o1 _ fun σ' F2 H2 as2 ρ2 μ2 S2 x2 h2 => ?_
    exact h2 R F2 H2 as2 σ' S2 D (j.ext (x1.trans x2))
theorem gm_name {i : Nat} {r : Rv} {N : Rho → Mu → Prop} (hN : X.N.Nodup) (hi : X.N[i]? = some x) (h : N (ρ.set i (some r)) μ) (hl : Nat.blt i ρ.length = true := by rfl) (hx : Loc X.env.scope x := by first | exact Or.inl rfl | exact Or.inr rfl)
    (hf : X.fn x = true ∨ X.env.scope.names.lookup x = some .local := by first | exact .inl rfl | exact .inr rfl | assumption) : Gm X ρ μ (.Name x pos) r N := fun R F H as σ v S o Q q =>
  Wg.of (pg_name hN hi hx hf) (q _ F H as _ μ (S.store o (Nat.le_of_ble_eq_true hl)) (Ext.refl F as) h)
theorem ds_ret (h : Dm X ρ μ e J.rt) : Ds X ρ μ (.Return (some e) pos :: rest) J := ds_cons_of (ps_ret (We.pe X e)) fun R F H as σ S D j =>
  h R F H as σ S _ fun v F1 H1 as1 μ1 r1 S1 x1 o1 h1 => j.rt v F1 H1 as1 σ ρ μ1 r1 S1 x1 o1 h1
theorem ds_expr (h : Dm X ρ μ e fun μ1 _ => Ds X ρ μ1 rest J) (hs : swapsWith e none pos.line X.env = pure false := by rfl) : Ds X ρ μ (.Expr e pos :: rest) J := ds_cons_of (ps_expr (We.pe X e) hs) fun R F H as σ S D j =>
  h R F H as σ S _ fun v F1 H1 as1 μ1 r1 S1 x1 o1 h1 => h1 R F1 H1 as1 σ S1 D (j.ext x1)
theorem jok_nx {K : PySem.W.Frag} {R F : Hp} {as : List Addr} {D : Ends} {N : Rho → Mu → Prop} {d : L2.St → Hp → Prop} (j : JOk K R F as J D) (h : Nx K R F as N d) : JOk K R F as { J with nx := N } { D with nx := d } := ⟨h, j.rt, j.bk, j.ct⟩
theorem ds_nx {A : List Stmt} (h : Ds X ρ μ A { J with nx := fun ρ' μ' => Ds X ρ' μ' rest J }) {R F H as σ} (S : Sta X.K R F H as σ ρ μ) {D : Ends} (j : JOk X.K R F as J D) : Wb X A { D with nx := Wb X rest D } σ H :=
  h R F H as σ S _ (jok_nx j fun σ' F' H' as' ρ' μ' S' x' h' => h' R F' H' as' σ' S' D (j.ext x'))
theorem ds_if {A B : List Stmt} (h : Tm X ρ μ c fun μ1 k => (k = true → Ds X ρ μ1 A { J with nx := fun ρ' μ' => Ds X ρ' μ' rest J }) ∧ (k = false → Ds X ρ μ1 B { J with nx := fun ρ' μ' => Ds X ρ' μ' rest J })) : Ds X ρ μ (.If c A B pos :: rest) J :=
  ds_cons_of (ps_if (Wt.pt X c) (Wb.ps X A) (Wb.ps X B)) fun R F H as σ S D j => by
    refine h R F H as σ S _ fun k F1 H1 as1 μ1 S1 x1 h1 => ?_
    cases k with
    | true =>
      rw [if_pos rfl]
      exact ds_nx (h1.1 rfl) S1 (j.ext x1)
    | false =>
      rw [if_neg Bool.false_ne_true]
      exact ds_nx (h1.2 rfl) S1 (j.ext x1)
theorem ds_cont (h : J.ct ρ μ) : Ds X ρ μ (.Continue pos :: rest) J := ds_cons_of ps_continue fun R F H as σ S D j => j.ct σ F H as ρ μ S (Ext.refl F as) h
/-- while: W by a measure -/
theorem ds_while {body : List Stmt} (hp : PassesOwn (model X.prog X.w) X.A X.env X.xe) (W : Nat → Rho → Mu → Prop) (m : Nat) (h0 : W m ρ μ)
    (hs : ∀ m ρ' μ', W m ρ' μ' → Tm X ρ' μ' c fun μ1 k => (k = true → Ds X ρ' μ1 body { J with nx := fun ρ2 μ2 => ∃ m', m' < m ∧ W m' ρ2 μ2, ct := fun ρ2 μ2 => ∃ m', m' < m ∧ W m' ρ2 μ2, bk := fun ρ2 μ2 => Ds X ρ2 μ2 rest J }) ∧ (k = false → Ds X ρ' μ1 rest J)) :
    Ds X ρ μ (.While c body [] pos :: rest) J := ds_cons_of (ps_while hp (Wt.pt X c) (Wb.ps X body)) fun R F H as σ S D j => by
  refine ⟨fun m σ' H' => ∃ F' as' ρ' μ', Sta X.K R F' H' as' σ' ρ' μ' ∧ Ext F as F' as' ∧ W m ρ' μ', ⟨m, F, as, ρ, μ, S, Ext.refl F as, h0⟩, ?_⟩
  rintro m σ' H' ⟨F', as', ρ', μ', S', x', w⟩
  refine hs m ρ' μ' w R F' H' as' σ' S' _ fun k F1 H1 as1 μ1 S1 x1 h1 => ?_
  have xx := x'.trans x1
  cases k with
  | true =>
    rw [if_pos rfl]
    refine ⟨fun σ2 H2 => ∃ m', m' < m ∧ ∃ F2 as2 ρ2 μ2, Sta X.K R F2 H2 as2 σ2 ρ2 μ2 ∧ Ext F as F2 as2 ∧ W m' ρ2 μ2, fun σ2 H2 z => z, ?_⟩
    refine h1.1 rfl R F1 H1 as1 σ' S1 _ ⟨?_, ?_, ?_, ?_⟩
    · rintro σ2 F2 H2 as2 ρ2 μ2 S2 x2 ⟨m', hm, w'⟩
      exact ⟨m', hm, F2, as2, ρ2, μ2, S2, xx.trans x2, w'⟩
    · exact (j.ext xx).rt
    · intro σ2 F2 H2 as2 ρ2 μ2 S2 x2 h2
      exact h2 R F2 H2 as2 σ2 S2 D (j.ext (xx.trans x2))
    · rintro σ2 F2 H2 as2 ρ2 μ2 S2 x2 ⟨m', hm, w'⟩
      exact ⟨m', hm, F2, as2, ρ2, μ2, S2, xx.trans x2, w'⟩
  | false =>
    rw [if_neg Bool.false_ne_true]
    exact h1.2 rfl R F1 H1 as1 σ' S1 D (j.ext xx)
/-- a statement that is not come to -/
theorem ds_never {st : Stmt} (h : False) : Ds X ρ μ (st :: rest) J := h.elim
/-- the cell n becomes data -/
theorem frzL {n : Nat} {rs : List Rv} {ds : List PyData} {K : PySem.W.Frag} {R F H : Hp} {as : List Addr} {σ : L2.St} (S : Sta K R F H as σ ρ μ) (hn : μ[n]? = some (.L rs)) (hr : rs = ds.map Rv.dat) :
    ∃ F', Sta K R F' H as σ ρ (μ.set n (.Z (.list ds))) ∧ Ext F as F' as := by
  have hl : n < as.length := by rw [S.len]; exact (List.getElem?_eq_some_iff.mp hn).1
  have ha : as[n]? = some as[n] := List.getElem?_eq_getElem hl
  obtain ⟨vs, e1, e2, e3, e4⟩ := S.cel n _ _ ha hn
  subst hr
  refine ⟨upd F as[n] (.lst vs), S.frz ha e1 e2 e3 ?_, ⟨same_upd e2, List.prefix_refl _⟩⟩
  exact .lst (.inl (.inl upd_same)) ((rpA_of e4).mono (Gw.of (same_upd e2)))
theorem dm_frzL {n : Nat} {rs : List Rv} (ds : List PyData) (hn : μ[n]? = some (.L rs)) (hr : rs = ds.map Rv.dat) (h : Dm X ρ (μ.set n (.Z (.list ds))) e P) : Dm X ρ μ e P := fun R F H as σ S Q q => by
  obtain ⟨F', S', x'⟩ := frzL S hn hr
  exact h R F' H as σ S' Q (q.ext x')
theorem ds_frzL {n : Nat} {rs : List Rv} {ss : List Stmt} (ds : List PyData) (hn : μ[n]? = some (.L rs)) (hr : rs = ds.map Rv.dat) (h : Ds X ρ (μ.set n (.Z (.list ds))) ss J) : Ds X ρ μ ss J := fun R F H as σ S D j => by
  obtain ⟨F', S', x'⟩ := frzL S hn hr
  exact h R F' H as σ S' D (j.ext x')
end

/-! ### a def that changes nothing of its caller's -/
/-- A ds G: called with the data ds, it gives some d of which G d holds -/
abbrev Tf := List PyData → (PyData → Prop) → Prop
def PureSp (K : PySem.W.Frag) (A : Tf) : Sp := fun vs H Q _ => ∃ R F ds G, Same R H ∧ Same F H ∧ (∀ a, R a = none ∨ nT (F a)) ∧ RpA K F vs ds ∧ A ds G ∧
  ∀ v F' H' d, Same R H' → Same F F' → Same F' H' → (∀ a, R a = none ∨ nT (F' a)) → Rp K F' v d → G d → Q v H'
/-- a def at a module's name: all that a call asks -/
structure Can (P : Program) (w : World) (K : PySem.W.Frag) (mg : Str → Option Value) (base : Heap) (x : Str) (k : Nat) (ps : List Str) (sp : Sp) : Prop where
  ex : ∃ (f : Addr) (fd : FuncData), FnOk P w K mg base CX0 k f fd ps sp ∧ mg x = some (.ref f) ∧ PySem.W.keepIn K (.ref f) = true ∧ Binds K fd ps []
section
variable {X : Cx} {ρ : Rho} {μ : Mu} {P : PR} {e : Expr} {es : List Expr} {x : Str} {p pos : Pos} {k : Nat} {ps : List Str} {A : Tf}
theorem rho_args {vs : List V} {ds : List PyData} {K : PySem.W.Frag} {F : Hp} {as : List Addr} {n : Nat} (r : RpA K F vs ds) : ∀ (i : Nat) (q : Rv), (ds.map (fun d => some (Rv.dat d)) ++ List.replicate n none)[i]? = some (some q) → ∃ v, (vs.map some ++ List.replicate n none : L2.St)[i]? = some (some v) ∧ ROk K F as v q := fun i q h => by
  by_cases hi : i < ds.length
  · rw [List.getElem?_append_left (by rw [List.length_map]; exact hi), List.getElem?_map] at h
    cases e : ds[i]? with
    | none => rw [e] at h; cases h
    | some d =>
      rw [e] at h
      cases h
      obtain ⟨v, h1, h2⟩ := r.get e
      refine ⟨v, ?_, h2⟩
      rw [List.getElem?_append_left (by rw [List.length_map, r.length]; exact hi), List.getElem?_map, h1]
      rfl
  · rw [List.getElem?_append_right (by rw [List.length_map]; omega), List.getElem?_replicate] at h
    split at h <;> cases h
theorem call_pure {R F H : Hp} {as : List Addr} {σ : L2.St} {vs : List V} {ds : List PyData} {Q : VK} {E : XK} {K : PySem.W.Frag} (S : Sta K R F H as σ ρ μ) (r : RpA K F vs ds) (h : A ds fun d => P μ (.dat d)) (q : Post K R F as σ ρ P Q) : PureSp K A vs H Q E := by
  refine ⟨fun a => if a ∈ as ∧ F a = none then H a else R a, F, ds, _, fun a o h => ?_, S.fh, fun a => ?_, r, h, fun v F' H' d h1 h2 h3 h4 h5 h6 => ?_⟩
  · by_cases c : a ∈ as ∧ F a = none
    · have h' : (if a ∈ as ∧ F a = none then H a else R a) = some o := h
      rw [if_pos c] at h'
      exact h'
    · have h' : (if a ∈ as ∧ F a = none then H a else R a) = some o := h
      rw [if_neg c] at h'
      exact S.rh a o h'
  · show (if a ∈ as ∧ F a = none then H a else R a) = none ∨ nT (F a)
    by_cases c : a ∈ as ∧ F a = none
    · exact .inr (.inl c.2)
    · rw [if_neg c]
      exact S.dj a
  · have rh : Same R H' := fun a o e => by
      refine h1 a o ?_
      show (if a ∈ as ∧ F a = none then H a else R a) = some o
      by_cases c : a ∈ as ∧ F a = none
      · rw [if_pos c]
        exact S.rh a o e
      · rw [if_neg c]
        exact e
    have dj : ∀ a, R a = none ∨ nT (F' a) := fun a => by
      have z : (if a ∈ as ∧ F a = none then H a else R a) = none ∨ nT (F' a) := h4 a
      rcases z with z | z
      · by_cases c : a ∈ as ∧ F a = none
        · rw [if_pos c] at z
          exact .inl (fresh_of S.rh z)
        · rw [if_neg c] at z
          exact .inl z
      · exact .inr z
    refine q v F' H' as μ (.dat d) ⟨rh, h3, dj, S.nd, S.len, fun n a c e1 e2 => ?_, fun i r' e => ?_, S.sl⟩ ⟨h2, List.prefix_refl _⟩ h5 h6
    · have hc := S.cel n a c e1 e2
      have ha : a ∈ as := List.mem_of_getElem? e1
      have stay : F a = none → (∀ o, H a = some o → H' a = some o) ∧ (H a ≠ none → (∀ xs, H a ≠ some (.tup xs)) → F' a = none) := fun hF => by
        have e3 : (if a ∈ as ∧ F a = none then H a else R a) = H a := if_pos ⟨ha, hF⟩
        have go : ∀ o, H a = some o → H' a = some o := fun o ho => h1 a o (by show (if a ∈ as ∧ F a = none then H a else R a) = some o; rw [e3]; exact ho)
        refine ⟨fun o ho => h1 a o ?_, fun hn ht => ?_⟩
        · show (if a ∈ as ∧ F a = none then H a else R a) = some o
          rw [e3]
          exact ho
        · have z : (if a ∈ as ∧ F a = none then H a else R a) = none ∨ nT (F' a) := h4 a
          rw [e3] at z
          rcases z.resolve_left hn with z | ⟨xs, z⟩
          · exact z
          · exfalso
            have z2 := h3 a _ z
            cases q : H a with
            | none => exact hn q
            | some o =>
              rw [go o q] at z2
              cases z2
              exact ht xs q
      cases c with
      | L rs =>
        obtain ⟨ws, g1, g2, g3, g4⟩ := hc
        have st := stay g2
        exact ⟨ws, st.1 _ g1, st.2 (by rw [g1]; exact fun z => nomatch z) (by rw [g1]; exact fun _ z => nomatch z), g3, Paired.mapP g4 fun _ _ z => z.mono (Gw.of h2) (List.prefix_refl _)⟩
      | M kvs =>
        obtain ⟨ws, g1, g2, g3, g4⟩ := hc
        have st := stay g2
        exact ⟨ws, st.1 _ g1, st.2 (by rw [g1]; exact fun z => nomatch z) (by rw [g1]; exact fun _ z => nomatch z), g3, Paired.mapP g4 fun _ _ z => ⟨z.1, z.2.mono (Gw.of h2) (List.prefix_refl _)⟩⟩
      | Q od vs kvs =>
        obtain ⟨g1, g2, g3, g4⟩ := hc
        have st := stay g2
        exact ⟨st.1 _ g1, st.2 (by rw [g1]; exact fun z => nomatch z) (by rw [g1]; exact fun _ z => nomatch z), g3, Paired.mapP g4 fun _ _ z => ⟨z.1, z.2.mono (Gw.of h2) (List.prefix_refl _)⟩⟩
      | Z d =>
        obtain ⟨g1, g2⟩ := hc
        exact ⟨fun z => g1 (fresh_of h2 z), g2.mono (Gw.of h2)⟩
    · obtain ⟨v, e1, e2⟩ := S.slt i r' e
      exact ⟨v, e1, e2.mono (Gw.of h2) (List.prefix_refl _)⟩
theorem dm_call (C : Can X.prog X.w X.K X.mg X.base x k ps (PureSp X.K A)) (hr : Room k X.A) (hg : Gl X x) (h : Am X ρ μ (e :: es) (DatsP fun μ1 ds => A ds fun d => P μ1 (.dat d))) (hdb : (x == ("__debug__" : Str)) = false := by decide)
    (he : starEach (e :: es) X.env = (false, eval e X.env) :: starEach es X.env := by rfl) (hpl : (backTo pos (starEach es X.env)).any (·.1) = false := by rfl) (hx : X.xe = fun _ _ => False := by rfl) : Dm X ρ μ (.Call (.Name x p) (e :: es) [] pos) P := fun R F H as σ S Q q => by
  obtain ⟨f, fd, G, hm, hk, hb⟩ := C.ex
  refine We.of (pe_call G hr hg hm hk hb .nil pass0 (Wa.pa X (e :: es)) hdb he hpl) ?_
  refine h R F H as σ S _ fun vs F1 H1 as1 μ1 rs S1 x1 o1 h1 => ?_
  obtain ⟨ds, rfl, h1⟩ := h1
  rw [List.append_nil]
  exact call_pure S1 (rpA_of o1) h1 (q.ext x1)
end
/-- what a body is to give -/
abbrev retJ (G : PyData → Prop) : Jm := { nx := fun _ _ => G .none, rt := fun μ r => ∃ d, r = .dat d ∧ G d }
abbrev XOf (P : Program) (w : World) (K : PySem.W.Frag) (mg : Str → Option Value) (base : Heap) (N : List Str) (qual : Str) (scope : Scope) (f : Addr) (cdv : Value) (A : Around) (outer : List Env) (s : Shared) (H : Hp) (E : XK) : Cx :=
  (cxOf CX0 P w K mg base N qual scope f cdv A outer s H E).nox
/-- THE RULE for a def that changes nothing of its caller's -/
theorem pure_fn {P : Program} {w : World} {K : PySem.W.Frag} {mg : Str → Option Value} {base : Heap} {x qual : Str} {params : Arguments} {body : List Stmt} {scope : Scope} {f : Addr} {fd : FuncData} {N ps : List Str} {k : Nat} {T : Tf} (F : FunD K x qual params body scope [] [] f fd) (S : FnScope N ps scope)
    (hT : ∀ ds G, T ds G → ds.length = ps.length)
    (hbody : ∀ (cdv : Value) (A : Around) (outer : List Env) (s : Shared) (H : Hp) (E : XK), Room k (A.deeper (envOfC qual scope s.heap.objs.size f cdv)) → ∀ ds G, T ds G →
      Ds (XOf P w K mg base N qual scope f cdv A outer s H E) (ds.map (fun d => some (Rv.dat d)) ++ List.replicate (N.length - ds.length) none) [] body (retJ G)) : FnOk P w K mg base CX0 (k + 1) f fd ps (PureSp K T) := by
  refine F.ok S (fun vs H Q E h => ?_) fun cdv A outer s H vs Q E hr h => ?_
  · obtain ⟨R, F, ds, G, _, _, _, r, hA, _⟩ := h
    rw [r.length]
    exact hT ds G hA
  · obtain ⟨R, F, ds, G, h1, h2, h3, r, hA, hQ⟩ := h
    refine ⟨_, PSs.nox (Wb.ps _ _), ?_⟩
    have hl : L2.start N vs = vs.map some ++ List.replicate (N.length - ds.length) none := by
      unfold L2.start
      rw [r.length]
    rw [hl]
    refine hbody cdv A outer s H E hr ds G hA R F H [] _ ⟨h1, h2, h3, List.nodup_nil, rfl, fun n a c e => by simp at e, rho_args r, ?_⟩ _ ⟨?_, ?_, ?_, ?_⟩
    · rw [List.length_append, List.length_append, List.length_map, List.length_map, r.length] <;> simp
    · intro σ' F' H' as' ρ' μ' S' x' g
      exact hQ .non F' H' .none S'.rh x'.f S'.fh S'.dj .non g
    · rintro v F' H' as' σ' ρ' μ' r' S' x' o ⟨d, rfl, g⟩
      exact hQ v F' H' d S'.rh x'.f S'.fh S'.dj o g
    · intro σ' F' H' as' ρ' μ' S' x' g
      exact g.elim
    · intro σ' F' H' as' ρ' μ' S' x' g
      exact g.elim
end BW

namespace BW
open PySem PySem.Spec PyProof.Rows L2
def top (i : Nat) : Stmt := PySem.Challenge.pw_bendworks_k20_whole_causes_together.main.body.getD i (.Pass ⟨0, 0, 0, 0⟩)
def dOf (x : Str) (i : Nat) : He.DefD := ⟨(x, none), x, x, defArgs (top i), defBody (top i), defScope (top i), [], []⟩
abbrev N_is_integer : List Str := ["value"]
abbrev p_is_integer : List Str := ["value"]
theorem sc_is_integer : FnScope N_is_integer p_is_integer (defScope (top 1)) := ⟨rfl, rfl, rfl, by decide +kernel, rfl, by decide +kernel, by decide +kernel⟩
abbrev N_is_in : List Str := ["value", "least", "most"]
abbrev p_is_in : List Str := ["value", "least", "most"]
theorem sc_is_in : FnScope N_is_in p_is_in (defScope (top 2)) := ⟨rfl, rfl, rfl, by decide +kernel, rfl, by decide +kernel, by decide +kernel⟩
abbrev N_is_list : List Str := ["value", "least", "most"]
abbrev p_is_list : List Str := ["value", "least", "most"]
theorem sc_is_list : FnScope N_is_list p_is_list (defScope (top 3)) := ⟨rfl, rfl, rfl, by decide +kernel, rfl, by decide +kernel, by decide +kernel⟩
abbrev N_shared : List Str := ["one", "other"]
abbrev p_shared : List Str := ["one", "other"]
theorem sc_shared : FnScope N_shared p_shared (defScope (top 16)) := ⟨rfl, rfl, rfl, by decide +kernel, rfl, by decide +kernel, by decide +kernel⟩
abbrev N_ratio : List Str := ["top", "bottom", "divisor"]
abbrev p_ratio : List Str := ["top", "bottom"]
theorem sc_ratio : FnScope N_ratio p_ratio (defScope (top 17)) := ⟨rfl, rfl, rfl, by decide +kernel, rfl, by decide +kernel, by decide +kernel⟩
abbrev N_plus : List Str := ["one", "other"]
abbrev p_plus : List Str := ["one", "other"]
theorem sc_plus : FnScope N_plus p_plus (defScope (top 18)) := ⟨rfl, rfl, rfl, by decide +kernel, rfl, by decide +kernel, by decide +kernel⟩
abbrev N_minus : List Str := ["one", "other"]
abbrev p_minus : List Str := ["one", "other"]
theorem sc_minus : FnScope N_minus p_minus (defScope (top 19)) := ⟨rfl, rfl, rfl, by decide +kernel, rfl, by decide +kernel, by decide +kernel⟩
abbrev N_times : List Str := ["one", "other"]
abbrev p_times : List Str := ["one", "other"]
theorem sc_times : FnScope N_times p_times (defScope (top 20)) := ⟨rfl, rfl, rfl, by decide +kernel, rfl, by decide +kernel, by decide +kernel⟩
abbrev N_over : List Str := ["one", "other"]
abbrev p_over : List Str := ["one", "other"]
theorem sc_over : FnScope N_over p_over (defScope (top 21)) := ⟨rfl, rfl, rfl, by decide +kernel, rfl, by decide +kernel, by decide +kernel⟩
abbrev N_negative : List Str := ["one"]
abbrev p_negative : List Str := ["one"]
theorem sc_negative : FnScope N_negative p_negative (defScope (top 22)) := ⟨rfl, rfl, rfl, by decide +kernel, rfl, by decide +kernel, by decide +kernel⟩
abbrev N_whole : List Str := ["number"]
abbrev p_whole : List Str := ["number"]
theorem sc_whole : FnScope N_whole p_whole (defScope (top 23)) := ⟨rfl, rfl, rfl, by decide +kernel, rfl, by decide +kernel, by decide +kernel⟩
abbrev N_total : List Str := ["some", "found", "one"]
abbrev p_total : List Str := ["some"]
theorem sc_total : FnScope N_total p_total (defScope (top 24)) := ⟨rfl, rfl, rfl, by decide +kernel, rfl, by decide +kernel, by decide +kernel⟩
abbrev N_inner : List Str := ["one", "other", "a", "b"]
abbrev p_inner : List Str := ["one", "other"]
theorem sc_inner : FnScope N_inner p_inner (defScope (top 25)) := ⟨rfl, rfl, rfl, by decide +kernel, rfl, by decide +kernel, by decide +kernel⟩
abbrev N_is_ratio : List Str := ["value"]
abbrev p_is_ratio : List Str := ["value"]
theorem sc_is_ratio : FnScope N_is_ratio p_is_ratio (defScope (top 26)) := ⟨rfl, rfl, rfl, by decide +kernel, rfl, by decide +kernel, by decide +kernel⟩
abbrev N_reduced : List Str := ["rows", "found", "pivots", "column", "at", "some", "lead", "place", "factor", "row", "part"]
abbrev p_reduced : List Str := ["rows"]
theorem sc_reduced : FnScope N_reduced p_reduced (defScope (top 28)) := ⟨rfl, rfl, rfl, by decide +kernel, rfl, by decide +kernel, by decide +kernel⟩
abbrev N_lowered : List Str := ["row", "other", "factor", "part", "more"]
abbrev p_lowered : List Str := ["row", "other", "factor"]
theorem sc_lowered : FnScope N_lowered p_lowered (defScope (top 29)) := ⟨rfl, rfl, rfl, by decide +kernel, rfl, by decide +kernel, by decide +kernel⟩
abbrev N_rank : List Str := ["rows"]
abbrev p_rank : List Str := ["rows"]
theorem sc_rank : FnScope N_rank p_rank (defScope (top 30)) := ⟨rfl, rfl, rfl, by decide +kernel, rfl, by decide +kernel, by decide +kernel⟩
abbrev N_kernel : List Str := ["rows", "wide", "some", "pivots", "found", "free", "line", "row", "pivot", "column"]
abbrev p_kernel : List Str := ["rows", "wide"]
theorem sc_kernel : FnScope N_kernel p_kernel (defScope (top 31)) := ⟨rfl, rfl, rfl, by decide +kernel, rfl, by decide +kernel, by decide +kernel⟩
abbrev N_solved : List Str := ["rows", "goal", "wide", "some", "pivots", "found", "row", "pivot", "part"]
abbrev p_solved : List Str := ["rows", "goal"]
theorem sc_solved : FnScope N_solved p_solved (defScope (top 32)) := ⟨rfl, rfl, rfl, by decide +kernel, rfl, by decide +kernel, by decide +kernel⟩
abbrev N_need_nodes : List Str := ["nodes", "index", "node", "part"]
abbrev p_need_nodes : List Str := ["nodes"]
theorem sc_need_nodes : FnScope N_need_nodes p_need_nodes (defScope (top 40)) := ⟨rfl, rfl, rfl, by decide +kernel, rfl, by decide +kernel, by decide +kernel⟩
abbrev N_is_member : List Str := ["value", "nodes", "one", "other", "end", "part"]
abbrev p_is_member : List Str := ["value", "nodes"]
theorem sc_is_member : FnScope N_is_member p_is_member (defScope (top 41)) := ⟨rfl, rfl, rfl, by decide +kernel, rfl, by decide +kernel, by decide +kernel⟩
abbrev N_need_members : List Str := ["members", "nodes", "index", "member", "other"]
abbrev p_need_members : List Str := ["members", "nodes"]
theorem sc_need_members : FnScope N_need_members p_need_members (defScope (top 42)) := ⟨rfl, rfl, rfl, by decide +kernel, rfl, by decide +kernel, by decide +kernel⟩
abbrev N_need_supports : List Str := ["supports", "nodes", "last", "index", "support"]
abbrev p_need_supports : List Str := ["supports", "nodes"]
theorem sc_need_supports : FnScope N_need_supports p_need_supports (defScope (top 43)) := ⟨rfl, rfl, rfl, by decide +kernel, rfl, by decide +kernel, by decide +kernel⟩
abbrev N_need_frame : List Str := ["frame"]
abbrev p_need_frame : List Str := ["frame"]
theorem sc_need_frame : FnScope N_need_frame p_need_frame (defScope (top 44)) := ⟨rfl, rfl, rfl, by decide +kernel, rfl, by decide +kernel, by decide +kernel⟩
abbrev N_need_hinges : List Str := ["frame", "hinges", "index", "hinge"]
abbrev p_need_hinges : List Str := ["frame", "hinges"]
theorem sc_need_hinges : FnScope N_need_hinges p_need_hinges (defScope (top 45)) := ⟨rfl, rfl, rfl, by decide +kernel, rfl, by decide +kernel, by decide +kernel⟩
abbrev N_need : List Str := ["frame", "hinges"]
abbrev p_need : List Str := ["frame", "hinges"]
theorem sc_need : FnScope N_need p_need (defScope (top 46)) := ⟨rfl, rfl, rfl, by decide +kernel, rfl, by decide +kernel, by decide +kernel⟩
abbrev N_length_of : List Str := ["frame", "member", "one", "other", "end"]
abbrev p_length_of : List Str := ["frame", "member"]
theorem sc_length_of : FnScope N_length_of p_length_of (defScope (top 47)) := ⟨rfl, rfl, rfl, by decide +kernel, rfl, by decide +kernel, by decide +kernel⟩
abbrev N_along : List Str := ["frame", "member", "one", "other", "far", "end"]
abbrev p_along : List Str := ["frame", "member"]
theorem sc_along : FnScope N_along p_along (defScope (top 48)) := ⟨rfl, rfl, rfl, by decide +kernel, rfl, by decide +kernel, by decide +kernel⟩
abbrev N_held : List Str := ["frame", "node", "kind", "letter"]
abbrev p_held : List Str := ["frame"]
theorem sc_held : FnScope N_held p_held (defScope (top 49)) := ⟨rfl, rfl, rfl, by decide +kernel, rfl, by decide +kernel, by decide +kernel⟩
abbrev N_free_in : List Str := ["frame", "some", "ways", "node", "letter", "way"]
abbrev p_free_in : List Str := ["frame"]
theorem sc_free_in : FnScope N_free_in p_free_in (defScope (top 50)) := ⟨rfl, rfl, rfl, by decide +kernel, rfl, by decide +kernel, by decide +kernel⟩
abbrev N_ends_by_forces : List Str := ["frame", "member", "forces", "pull", "first", "second", "across"]
abbrev p_ends_by_forces : List Str := ["frame", "member", "forces"]
theorem sc_ends_by_forces : FnScope N_ends_by_forces p_ends_by_forces (defScope (top 51)) := ⟨rfl, rfl, rfl, by decide +kernel, rfl, by decide +kernel, by decide +kernel⟩
abbrev N_at_nodes : List Str := ["frame", "member", "ends", "right", "up", "found", "end", "node", "pull", "across", "turn"]
abbrev p_at_nodes : List Str := ["frame", "member", "ends"]
theorem sc_at_nodes : FnScope N_at_nodes p_at_nodes (defScope (top 52)) := ⟨rfl, rfl, rfl, by decide +kernel, rfl, by decide +kernel, by decide +kernel⟩
abbrev N_scaled : List Str := ["one", "sign"]
abbrev p_scaled : List Str := ["one", "sign"]
theorem sc_scaled : FnScope N_scaled p_scaled (defScope (top 53)) := ⟨rfl, rfl, rfl, by decide +kernel, rfl, by decide +kernel, by decide +kernel⟩
abbrev N_parts_in : List Str := ["frame", "hinges", "found", "member", "end"]
abbrev p_parts_in : List Str := ["frame", "hinges"]
theorem sc_parts_in : FnScope N_parts_in p_parts_in (defScope (top 54)) := ⟨rfl, rfl, rfl, by decide +kernel, rfl, by decide +kernel, by decide +kernel⟩
abbrev N_balance_rows : List Str := ["frame", "hinges", "columns", "member", "part", "forces", "place", "way", "column"]
abbrev p_balance_rows : List Str := ["frame", "hinges"]
theorem sc_balance_rows : FnScope N_balance_rows p_balance_rows (defScope (top 55)) := ⟨rfl, rfl, rfl, by decide +kernel, rfl, by decide +kernel, by decide +kernel⟩
abbrev N_motions : List Str := ["frame", "hinges"]
abbrev p_motions : List Str := ["frame", "hinges"]
theorem sc_motions : FnScope N_motions p_motions (defScope (top 56)) := ⟨rfl, rfl, rfl, by decide +kernel, rfl, by decide +kernel, by decide +kernel⟩
abbrev N_need_load : List Str := ["frame", "load", "joints", "pushes", "index", "row", "part"]
abbrev p_need_load : List Str := ["frame", "load"]
theorem sc_need_load : FnScope N_need_load p_need_load (defScope (top 59)) := ⟨rfl, rfl, rfl, by decide +kernel, rfl, by decide +kernel, by decide +kernel⟩
abbrev N_need_all : List Str := ["frame", "hinges", "load"]
abbrev p_need_all : List Str := ["frame", "hinges", "load"]
theorem sc_need_all : FnScope N_need_all p_need_all (defScope (top 60)) := ⟨rfl, rfl, rfl, by decide +kernel, rfl, by decide +kernel, by decide +kernel⟩
abbrev N_plain_rows : List Str := ["frame", "member", "bend", "stretch", "far", "pull", "one", "two", "four", "half"]
abbrev p_plain_rows : List Str := ["frame", "member"]
theorem sc_plain_rows : FnScope N_plain_rows p_plain_rows (defScope (top 61)) := ⟨rfl, rfl, rfl, by decide +kernel, rfl, by decide +kernel, by decide +kernel⟩
abbrev N_pushed : List Str := ["frame", "member", "push", "far", "side", "turn"]
abbrev p_pushed : List Str := ["frame", "member", "push"]
theorem sc_pushed : FnScope N_pushed p_pushed (defScope (top 62)) := ⟨rfl, rfl, rfl, by decide +kernel, rfl, by decide +kernel, by decide +kernel⟩
abbrev N_released : List Str := ["rows", "forces", "at", "lead", "found", "place", "row", "factor", "left", "part", "more", "force"]
abbrev p_released : List Str := ["rows", "forces", "at"]
theorem sc_released : FnScope N_released p_released (defScope (top 63)) := ⟨rfl, rfl, rfl, by decide +kernel, rfl, by decide +kernel, by decide +kernel⟩
abbrev N_member_rows : List Str := ["frame", "hinges", "member", "forces", "rows", "end"]
abbrev p_member_rows : List Str := ["frame", "hinges", "member", "forces"]
theorem sc_member_rows : FnScope N_member_rows p_member_rows (defScope (top 64)) := ⟨rfl, rfl, rfl, by decide +kernel, rfl, by decide +kernel, by decide +kernel⟩
abbrev N_turned : List Str := ["frame", "member", "moves", "right", "up", "found", "end", "x", "y", "turn", "letter"]
abbrev p_turned : List Str := ["frame", "member", "moves"]
theorem sc_turned : FnScope N_turned p_turned (defScope (top 65)) := ⟨rfl, rfl, rfl, by decide +kernel, rfl, by decide +kernel, by decide +kernel⟩
abbrev N_unit_columns : List Str := ["frame", "member", "ways", "found", "way", "end", "letter", "other"]
abbrev p_unit_columns : List Str := ["frame", "member"]
theorem sc_unit_columns : FnScope N_unit_columns p_unit_columns (defScope (top 66)) := ⟨rfl, rfl, rfl, by decide +kernel, rfl, by decide +kernel, by decide +kernel⟩
abbrev N_system : List Str := ["frame", "hinges", "fixed", "ways", "rows", "goal", "member", "table", "forces", "way", "force", "moves", "ends", "other", "node", "letter", "row"]
abbrev p_system : List Str := ["frame", "hinges", "fixed"]
theorem sc_system : FnScope N_system p_system (defScope (top 67)) := ⟨rfl, rfl, rfl, by decide +kernel, rfl, by decide +kernel, by decide +kernel⟩
abbrev N_response : List Str := ["frame", "hinges", "joints", "fixed", "given", "rows", "goal", "free", "moves", "table", "right", "way", "known", "rest", "part", "found", "move", "ends", "member", "stiff", "forces", "own", "other", "row", "force"]
abbrev p_response : List Str := ["frame", "hinges", "joints", "fixed", "given"]
theorem sc_response : FnScope N_response p_response (defScope (top 68)) := ⟨rfl, rfl, rfl, by decide +kernel, rfl, by decide +kernel, by decide +kernel⟩
abbrev N_fixed_by : List Str := ["frame", "pushes", "member", "push"]
abbrev p_fixed_by : List Str := ["frame", "pushes"]
theorem sc_fixed_by : FnScope N_fixed_by p_fixed_by (defScope (top 69)) := ⟨rfl, rfl, rfl, by decide +kernel, rfl, by decide +kernel, by decide +kernel⟩
abbrev N_by_load : List Str := ["frame", "hinges", "load"]
abbrev p_by_load : List Str := ["frame", "hinges", "load"]
theorem sc_by_load : FnScope N_by_load p_by_load (defScope (top 70)) := ⟨rfl, rfl, rfl, by decide +kernel, rfl, by decide +kernel, by decide +kernel⟩
abbrev N_end_forces : List Str := ["frame", "hinges", "load"]
abbrev p_end_forces : List Str := ["frame", "hinges", "load"]
theorem sc_end_forces : FnScope N_end_forces p_end_forces (defScope (top 71)) := ⟨rfl, rfl, rfl, by decide +kernel, rfl, by decide +kernel, by decide +kernel⟩
abbrev N_need_moves : List Str := ["frame", "given", "some", "last", "index", "move", "node", "kind", "letter"]
abbrev p_need_moves : List Str := ["frame", "given"]
theorem sc_need_moves : FnScope N_need_moves p_need_moves (defScope (top 74)) := ⟨rfl, rfl, rfl, by decide +kernel, rfl, by decide +kernel, by decide +kernel⟩
abbrev N_is_way : List Str := ["value"]
abbrev p_is_way : List Str := ["value"]
theorem sc_is_way : FnScope N_is_way p_is_way (defScope (top 75)) := ⟨rfl, rfl, rfl, by decide +kernel, rfl, by decide +kernel, by decide +kernel⟩
abbrev N_need_strains : List Str := ["frame", "strains", "index", "row", "part"]
abbrev p_need_strains : List Str := ["frame", "strains"]
theorem sc_need_strains : FnScope N_need_strains p_need_strains (defScope (top 76)) := ⟨rfl, rfl, rfl, by decide +kernel, rfl, by decide +kernel, by decide +kernel⟩
abbrev N_need_given : List Str := ["frame", "hinges", "given"]
abbrev p_need_given : List Str := ["frame", "hinges", "given"]
theorem sc_need_given : FnScope N_need_given p_need_given (defScope (top 77)) := ⟨rfl, rfl, rfl, by decide +kernel, rfl, by decide +kernel, by decide +kernel⟩
abbrev N_need_strained : List Str := ["frame", "hinges", "strains"]
abbrev p_need_strained : List Str := ["frame", "hinges", "strains"]
theorem sc_need_strained : FnScope N_need_strained p_need_strained (defScope (top 78)) := ⟨rfl, rfl, rfl, by decide +kernel, rfl, by decide +kernel, by decide +kernel⟩
abbrev N_no_loads : List Str := ["frame"]
abbrev p_no_loads : List Str := ["frame"]
theorem sc_no_loads : FnScope N_no_loads p_no_loads (defScope (top 79)) := ⟨rfl, rfl, rfl, by decide +kernel, rfl, by decide +kernel, by decide +kernel⟩
abbrev N_as_moves : List Str := ["given", "node", "letter", "move"]
abbrev p_as_moves : List Str := ["given"]
theorem sc_as_moves : FnScope N_as_moves p_as_moves (defScope (top 80)) := ⟨rfl, rfl, rfl, by decide +kernel, rfl, by decide +kernel, by decide +kernel⟩
abbrev N_by_moves : List Str := ["frame", "hinges", "given", "fixed"]
abbrev p_by_moves : List Str := ["frame", "hinges", "given"]
theorem sc_by_moves : FnScope N_by_moves p_by_moves (defScope (top 81)) := ⟨rfl, rfl, rfl, by decide +kernel, rfl, by decide +kernel, by decide +kernel⟩
abbrev N_sunk_forces : List Str := ["frame", "hinges", "given"]
abbrev p_sunk_forces : List Str := ["frame", "hinges", "given"]
theorem sc_sunk_forces : FnScope N_sunk_forces p_sunk_forces (defScope (top 82)) := ⟨rfl, rfl, rfl, by decide +kernel, rfl, by decide +kernel, by decide +kernel⟩
abbrev N_strained : List Str := ["frame", "member", "strain", "bend", "stretch", "far", "pull", "turn"]
abbrev p_strained : List Str := ["frame", "member", "strain"]
theorem sc_strained : FnScope N_strained p_strained (defScope (top 83)) := ⟨rfl, rfl, rfl, by decide +kernel, rfl, by decide +kernel, by decide +kernel⟩
abbrev N_by_strains : List Str := ["frame", "hinges", "strains", "fixed", "member", "strain"]
abbrev p_by_strains : List Str := ["frame", "hinges", "strains"]
theorem sc_by_strains : FnScope N_by_strains p_by_strains (defScope (top 84)) := ⟨rfl, rfl, rfl, by decide +kernel, rfl, by decide +kernel, by decide +kernel⟩
abbrev N_warped_forces : List Str := ["frame", "hinges", "strains"]
abbrev p_warped_forces : List Str := ["frame", "hinges", "strains"]
theorem sc_warped_forces : FnScope N_warped_forces p_warped_forces (defScope (top 85)) := ⟨rfl, rfl, rfl, by decide +kernel, rfl, by decide +kernel, by decide +kernel⟩
abbrev N_all_forces : List Str := ["frame", "hinges", "load", "given", "strains", "fixed", "member", "push", "strain", "rows", "one", "other"]
abbrev p_all_forces : List Str := ["frame", "hinges", "load", "given", "strains"]
theorem sc_all_forces : FnScope N_all_forces p_all_forces (defScope (top 86)) := ⟨rfl, rfl, rfl, by decide +kernel, rfl, by decide +kernel, by decide +kernel⟩
abbrev N_law_taken : List Str := ["_law_row", "_law_many", "_law_found", "_law_cell"]
abbrev p_law_taken : List Str := ["_law_row", "_law_many"]
theorem sc_law_taken : FnScope N_law_taken p_law_taken (defScope (top 88)) := ⟨rfl, rfl, rfl, by decide +kernel, rfl, by decide +kernel, by decide +kernel⟩
abbrev N_law_pick : List Str := ["_law_row", "_law_things"]
abbrev p_law_pick : List Str := ["_law_row", "_law_things"]
theorem sc_law_pick : FnScope N_law_pick p_law_pick (defScope (top 89)) := ⟨rfl, rfl, rfl, by decide +kernel, rfl, by decide +kernel, by decide +kernel⟩
abbrev N_law_signed : List Str := ["_law_row", "_law_most"]
abbrev p_law_signed : List Str := ["_law_row", "_law_most"]
theorem sc_law_signed : FnScope N_law_signed p_law_signed (defScope (top 90)) := ⟨rfl, rfl, rfl, by decide +kernel, rfl, by decide +kernel, by decide +kernel⟩
abbrev N_law_alike : List Str := ["_law_found", "_law_due", "_law_k"]
abbrev p_law_alike : List Str := ["_law_found", "_law_due"]
theorem sc_law_alike : FnScope N_law_alike p_law_alike (defScope (top 91)) := ⟨rfl, rfl, rfl, by decide +kernel, rfl, by decide +kernel, by decide +kernel⟩
abbrev N_law_gcd : List Str := ["_law_one", "_law_other"]
abbrev p_law_gcd : List Str := ["_law_one", "_law_other"]
theorem sc_law_gcd : FnScope N_law_gcd p_law_gcd (defScope (top 92)) := ⟨rfl, rfl, rfl, by decide +kernel, rfl, by decide +kernel, by decide +kernel⟩
abbrev N_law_lowest : List Str := ["_law_numerator", "_law_denominator", "_law_common"]
abbrev p_law_lowest : List Str := ["_law_numerator", "_law_denominator"]
theorem sc_law_lowest : FnScope N_law_lowest p_law_lowest (defScope (top 93)) := ⟨rfl, rfl, rfl, by decide +kernel, rfl, by decide +kernel, by decide +kernel⟩
abbrev N_law_plus : List Str := ["_law_one", "_law_other"]
abbrev p_law_plus : List Str := ["_law_one", "_law_other"]
theorem sc_law_plus : FnScope N_law_plus p_law_plus (defScope (top 94)) := ⟨rfl, rfl, rfl, by decide +kernel, rfl, by decide +kernel, by decide +kernel⟩
abbrev N_law_total : List Str := ["_law_some", "_law_found", "_law_one"]
abbrev p_law_total : List Str := ["_law_some"]
theorem sc_law_total : FnScope N_law_total p_law_total (defScope (top 95)) := ⟨rfl, rfl, rfl, by decide +kernel, rfl, by decide +kernel, by decide +kernel⟩
abbrev N_law_frame : List Str := ["_law_row", "_law_far", "_law_high", "_law_way", "_law_foot", "_law_end", "_law_nodes", "_law_supports", "_law_at", "_law_ends", "_law_middle", "_law_members", "_law_one", "_law_other", "_law_pair"]
abbrev p_law_frame : List Str := ["_law_row"]
theorem sc_law_frame : FnScope N_law_frame p_law_frame (defScope (top 96)) := ⟨rfl, rfl, rfl, by decide +kernel, rfl, by decide +kernel, by decide +kernel⟩
abbrev N_law_joints : List Str := ["_law_row", "_law_frame_here", "_law_top", "_law_node", "_law_part"]
abbrev p_law_joints : List Str := ["_law_row", "_law_frame_here"]
theorem sc_law_joints : FnScope N_law_joints p_law_joints (defScope (top 97)) := ⟨rfl, rfl, rfl, by decide +kernel, rfl, by decide +kernel, by decide +kernel⟩
abbrev N_law_load : List Str := ["_law_row", "_law_frame_here", "_law_pushes", "_law_member"]
abbrev p_law_load : List Str := ["_law_row", "_law_frame_here"]
theorem sc_law_load : FnScope N_law_load p_law_load (defScope (top 98)) := ⟨rfl, rfl, rfl, by decide +kernel, rfl, by decide +kernel, by decide +kernel⟩
abbrev N_law_held : List Str := ["_law_frame_here", "_law_found", "_law_node", "_law_kind", "_law_letter"]
abbrev p_law_held : List Str := ["_law_frame_here"]
theorem sc_law_held : FnScope N_law_held p_law_held (defScope (top 99)) := ⟨rfl, rfl, rfl, by decide +kernel, rfl, by decide +kernel, by decide +kernel⟩
abbrev N_law_ratios : List Str := ["_law_row", "_law_many", "_law_top", "_law_at"]
abbrev p_law_ratios : List Str := ["_law_row", "_law_many", "_law_top"]
theorem sc_law_ratios : FnScope N_law_ratios p_law_ratios (defScope (top 100)) := ⟨rfl, rfl, rfl, by decide +kernel, rfl, by decide +kernel, by decide +kernel⟩
abbrev N_law_hinges : List Str := ["_law_row", "_law_frame_here", "_law_some", "_law_found", "_law_member", "_law_end", "_law_node", "_law_ends", "_law_one"]
abbrev p_law_hinges : List Str := ["_law_row", "_law_frame_here"]
theorem sc_law_hinges : FnScope N_law_hinges p_law_hinges (defScope (top 101)) := ⟨rfl, rfl, rfl, by decide +kernel, rfl, by decide +kernel, by decide +kernel⟩
abbrev N_law_given : List Str := ["_law_row", "_law_frame_here", "_law_found", "_law_node", "_law_kind", "_law_letter"]
abbrev p_law_given : List Str := ["_law_row", "_law_frame_here"]
theorem sc_law_given : FnScope N_law_given p_law_given (defScope (top 102)) := ⟨rfl, rfl, rfl, by decide +kernel, rfl, by decide +kernel, by decide +kernel⟩
abbrev N_law_strains : List Str := ["_law_row", "_law_frame_here", "_law_member"]
abbrev p_law_strains : List Str := ["_law_row", "_law_frame_here"]
theorem sc_law_strains : FnScope N_law_strains p_law_strains (defScope (top 103)) := ⟨rfl, rfl, rfl, by decide +kernel, rfl, by decide +kernel, by decide +kernel⟩
abbrev N_law_stiff_hinges : List Str := ["_law_row", "_law_frame_here", "_law_work", "_law_hinges_here"]
abbrev p_law_stiff_hinges : List Str := ["_law_row", "_law_frame_here", "_law_work"]
theorem sc_law_stiff_hinges : FnScope N_law_stiff_hinges p_law_stiff_hinges (defScope (top 104)) := ⟨rfl, rfl, rfl, by decide +kernel, rfl, by decide +kernel, by decide +kernel⟩
abbrev N_law : List Str := ["_law_script", "_law_row", "_law_frame_here", "_law_load_here", "_law_given_here", "_law_strains_here", "_law_hinges_here", "_law_whole", "_law_some", "_law_due", "_law_member", "_law_none", "_law_still", "_law_at", "_law_part"]
abbrev p_law : List Str := ["_law_script"]
theorem sc_law : FnScope N_law p_law (defScope (top 105)) := ⟨rfl, rfl, rfl, by decide +kernel, rfl, by decide +kernel, by decide +kernel⟩
def fn0 : List He.DefD := [dOf "is_integer" 1, dOf "is_in" 2, dOf "is_list" 3, dOf "shared" 16, dOf "ratio" 17, dOf "plus" 18, dOf "minus" 19, dOf "times" 20, dOf "over" 21, dOf "negative" 22, dOf "whole" 23, dOf "total" 24, dOf "inner" 25, dOf "is_ratio" 26, dOf "reduced" 28, dOf "lowered" 29]
def fn1 : List He.DefD := [dOf "rank" 30, dOf "kernel" 31, dOf "solved" 32, dOf "need_nodes" 40, dOf "is_member" 41, dOf "need_members" 42, dOf "need_supports" 43, dOf "need_frame" 44, dOf "need_hinges" 45, dOf "need" 46, dOf "length_of" 47, dOf "along" 48, dOf "held" 49, dOf "free_in" 50, dOf "ends_by_forces" 51, dOf "at_nodes" 52]
def fn2 : List He.DefD := [dOf "scaled" 53, dOf "parts_in" 54, dOf "balance_rows" 55, dOf "motions" 56, dOf "need_load" 59, dOf "need_all" 60, dOf "plain_rows" 61, dOf "pushed" 62, dOf "released" 63, dOf "member_rows" 64, dOf "turned" 65, dOf "unit_columns" 66, dOf "system" 67, dOf "response" 68, dOf "fixed_by" 69, dOf "by_load" 70]
def fn3 : List He.DefD := [dOf "end_forces" 71, dOf "need_moves" 74, dOf "is_way" 75, dOf "need_strains" 76, dOf "need_given" 77, dOf "need_strained" 78, dOf "no_loads" 79, dOf "as_moves" 80, dOf "by_moves" 81, dOf "sunk_forces" 82, dOf "strained" 83, dOf "by_strains" 84, dOf "warped_forces" 85, dOf "all_forces" 86, dOf "_law_taken" 88, dOf "_law_pick" 89]
def fn4 : List He.DefD := [dOf "_law_signed" 90, dOf "_law_alike" 91, dOf "_law_gcd" 92, dOf "_law_lowest" 93, dOf "_law_plus" 94, dOf "_law_total" 95, dOf "_law_frame" 96, dOf "_law_joints" 97, dOf "_law_load" 98, dOf "_law_held" 99, dOf "_law_ratios" 100, dOf "_law_hinges" 101, dOf "_law_given" 102, dOf "_law_strains" 103, dOf "_law_stiff_hinges" 104, dOf "law" 105]
def fn : List He.DefD := fn0 ++ fn1 ++ fn2 ++ fn3 ++ fn4
/-- what the head has to tell -/
structure Txt (K : PySem.W.Frag) (mg : Str → Option Value) : Prop where
  df : ∀ (i : Nat) (d : He.DefD), fn[i]? = some d → ∃ fd, FunD K d.name d.qual d.params d.body d.scope [] [] (He.ga K d.name) fd
  gl : ∀ (i : Nat) (d : He.DefD), fn[i]? = some d → mg d.name = some (.ref (He.ga K d.name))
  b_len : mg "len" = none
  b_abs : mg "abs" = none
  b_isinstance : mg "isinstance" = none
  b_range : mg "range" = none
  b_zip : mg "zip" = none
  b_enumerate : mg "enumerate" = none
  b_tuple : mg "tuple" = none
  b_list : mg "list" = none
  b_all : mg "all" = none
  b_any : mg "any" = none
  b_sorted : mg "sorted" = none
  b_int : mg "int" = none
  b_bool : mg "bool" = none
  b_str : mg "str" = none
  i_MOST : ∃ t, mg "MOST" = some (.int 1000000 t)
  i_MOST_NODES : ∃ t, mg "MOST_NODES" = some (.int 8 t)
  i_MOST_MEMBERS : ∃ t, mg "MOST_MEMBERS" = some (.int 8 t)
  i_MOST_PLACE : ∃ t, mg "MOST_PLACE" = some (.int 20 t)
  i_MOST_STIFF : ∃ t, mg "MOST_STIFF" = some (.int 50 t)
  i_MOST_LOAD : ∃ t, mg "MOST_LOAD" = some (.int 60 t)
  s_LETTERS : ∃ t, mg "LETTERS" = some (.str "xyr" t)
  g_ZERO : mg "ZERO" = some (.ref (He.ga K "ZERO"))
  g_ONE : mg "ONE" = some (.ref (He.ga K "ONE"))
  g_NONE : mg "NONE" = some (.ref (He.ga K "NONE"))
  g_KINDS : mg "KINDS" = some (.ref (He.ga K "KINDS"))
  t_ZERO : SqK K (He.ga K "ZERO") [.int 0, .int 1]
  t_ONE : SqK K (He.ga K "ONE") [.int 1, .int 1]
  t_NONE : SqK K (He.ga K "NONE") [.int 0, .int 0, .int 0]
  t_KINDS : SqK K (He.ga K "KINDS") [.str "x", .str "y", .str "r", .str "xy", .str "xr", .str "yr", .str "xyr"]
section
variable {P : Program} {w : World} {K : PySem.W.Frag} {mg : Str → Option Value} {base : Heap}
theorem can_pure {x : Str} {st : Nat} {N ps : List Str} {k : Nat} {A : Tf} (i : Nat) (T : Txt K mg) (S : FnScope N ps (defScope (top st)))
    (hb : ∀ (kV doc pm : Value) (an : Option Addr) (cdv ct : Value) (us : List Value), us.length = ps.length → bindArgs (PySem.W.fnOf x x (defArgs (top st)) (defBody (top st)) (defScope (top st)) .none kV doc pm an cdv ct) ⟨us, []⟩ = pure (ps.zip us))
    (hT : ∀ ds G, A ds G → ds.length = ps.length)
    (hbody : ∀ (f : Addr) (cdv : Value) (B : Around) (outer : List Env) (s : Shared) (H : Hp) (E : XK), Room k (B.deeper (envOfC x (defScope (top st)) s.heap.objs.size f cdv)) → ∀ ds G, A ds G →
      Ds (XOf P w K mg base N x (defScope (top st)) f cdv B outer s H E) (ds.map (fun d => some (Rv.dat d)) ++ List.replicate (N.length - ds.length) none) [] (defBody (top st)) (retJ G)) (hi : fn[i]? = some (dOf x st) := by rfl) : Can P w K mg base x (k + 1) ps (PureSp K A) := by
  obtain ⟨fd, F⟩ := T.df i _ hi
  exact ⟨_, fd, pure_fn F S hT fun cdv B outer s H E hr ds G hA => hbody _ cdv B outer s H E hr ds G hA, T.gl i _ hi, F.kp, F.bindsN hb⟩
end
end BW

namespace BW
open PySem PySem.Spec PyProof.Rows L2

/-! ### great numbers -/
def CMulB (i j : Int) : Prop := i.natAbs.log2 + j.natAbs.log2 < 100000000
theorem CMulB.ok {i j : Int} (h : CMulB i j) : IntMulOk i j := by
  have b : ∀ z : Int, Builtin.Int.intBits z ≤ z.natAbs.log2 + 1 := fun z => by
    unfold Builtin.Int.intBits
    split <;> omega
  have b1 := b i
  have b2 := b j
  have b3 : i.natAbs.log2 + j.natAbs.log2 < 100000000 := h
  have e : bitsLine = 134217728 := by decide
  intro z
  obtain ⟨_, z2⟩ := Bool.and_eq_true_iff.mp z
  have z3 := of_decide_eq_true z2
  rw [e] at z3
  omega
theorem op_mulB {X : Cx} : OpR X (binaryOp .Mult) (rI CMulB fun i j => .int (i * j)) := opI fun _ _ _ _ _ _ _ hc q => mul_int q hc.ok
/-- that nobody looks at a division by _pylong -/
structure Seer (K : PySem.W.Frag) (mg : Str → Option Value) : Prop where
  st : ∃ o es ep, K.lookup cStatics = some o ∧ o.data = .dict es ep ∧ StrKeys es ∧ nsFind es "sys.audit-hooks" = none ∧ nsFind es "sys.dict" = none
  mo : ∃ o es ep, K.lookup sysModules = some o ∧ o.data = .dict es ep ∧ StrKeys es ∧ nsFind es "_pylong" = none
  ma : ∃ bm ob, mg "__builtins__" = some (.ref bm) ∧ K.lookup bm = some ob ∧ ob.cls = .type "module" ∧ ob.dict = some builtinsNs
theorem Seer.base {K : PySem.W.Frag} {mg : Str → Option Value} {base : Heap} (z : Seer K mg) (M : Mod K mg base) : base.NoSeer where
  statics := by
    obtain ⟨o, es, ep, h1, h2, h3, h4, h5⟩ := z.st
    exact ⟨fun x => nsFind es x, ⟨o, es, ep, M.kin _ _ h1, h2, h3, fun _ => rfl⟩, h4, h5⟩
  mods := by
    obtain ⟨o, es, ep, h1, h2, h3, h4⟩ := z.mo
    exact ⟨fun x => nsFind es x, ⟨o, es, ep, M.kin _ _ h1, h2, h3, fun _ => rfl⟩, h4⟩
  imp := M.blt
  main := by
    obtain ⟨bm, ob, h1, h2, h3, h4⟩ := z.ma
    exact ⟨mg, bm, ob, M.glob, h1, M.kin _ _ h2, h3, h4⟩
theorem pylong_room {X : Cx} {pins : List (Addr × Obj)} {σ : L2.St} {H : Hp} {s : Shared} (I : Inv X pins σ H s) (z : Seer X.K X.mg) (ht : X.prog.given.tree = none) {l : List Env} (hst : X.stack = X.env :: l) (hgen : X.env.scope.isGenerator = false)
    (hco : X.env.scope.isCoroutine = false) (hd : X.A.depth + 100 < recursionLimit) : PylongRoom (model X.prog X.w) X.A s :=
  PylongRoom.of I.nolimit hd (SeerAt.of ((z.base I.mod).keeps I.bk) ht (by rw [I.ok.frames, hst]) hgen hco I.ok.blt I.ok.glob)
theorem op_fdivP {X : Cx} (z : Seer X.K X.mg) (ht : X.prog.given.tree = none) {l : List Env} (hst : X.stack = X.env :: l) (hgen : X.env.scope.isGenerator = false)
    (hco : X.env.scope.isCoroutine = false) (hd : X.A.depth + 100 < recursionLimit) : OpR X (binaryOp .FloorDiv) (rI (fun _ j => j ≠ 0) fun i j => .int (i.fdiv j)) := by
  intro pins s σ H x y v u Q I rx ry h
  obtain ⟨i, j, rfl, rfl, hc, q⟩ := h
  obtain ⟨t, rfl⟩ := rx
  obtain ⟨t', rfl⟩ := ry
  exact floordiv_int hc ⟨.int (i.fdiv j), H, I.tok _, ⟨_, rfl⟩, q⟩ (.inr (pylong_room I z ht hst hgen hco hd))
/-! ### abs -/
theorem dm_abs {X : Cx} {ρ : Rho} {μ : Mu} {P : PR} {a : Expr} {p pos : Pos} (hg : Gl X "abs") (hm : X.mg "abs" = none) (h : Dm X ρ μ a (IntP fun μ1 i => P μ1 (.dat (.int (if i < 0 then -i else i))))) (hs : starEach [a] X.env = (false, eval a X.env) :: starEach [] X.env := by rfl) : Dm X ρ μ (.Call (.Name "abs" p) [a] [] pos) P := fun R F H as σ S Q q => by
  refine We.of (pe_callB call_abs hg hm (by decide +kernel) (pa_cons (We.pe X a) pa_nil hs) (he := hs)) ?_
  refine h R F H as σ S _ fun v F1 H1 as1 μ1 r1 S1 x1 o1 h1 => ?_
  obtain ⟨i, rfl, h1⟩ := h1
  exact ⟨i, congrArg (fun z => [z]) (Rp.intE o1), q _ F1 H1 as1 μ1 (.dat (.int _)) S1 x1 (okD (.int _)) h1⟩
/-! ### indices -/
section
variable {X : Cx} {ρ : Rho} {μ : Mu} {P : PR}
theorem ixp_t {ds : List PyData} {i : Int} {d : PyData} (h : atI ds i = some d) (q : P μ (.dat d)) : IxP X ρ μ (.dat (.tuple ds)) i P := ⟨d, h, q⟩
theorem ixp_l {ds : List PyData} {i : Int} {d : PyData} (h : atI ds i = some d) (q : P μ (.dat d)) : IxP X ρ μ (.dat (.list ds)) i P := ⟨d, h, q⟩
end
/-! ### ratios -/
abbrev rt (q : Rat) : PyData := .tuple [.int q.num, .int q.den]
def Sm (q : Rat) : Prop := q.num.natAbs.log2 ≤ 40000000 ∧ q.den.log2 ≤ 40000000
theorem two_par {X : Cx} {ρ : Rho} {μ : Mu} {a b : Expr} {x y : Str} {i j : Nat} {px py pt pos : Pos} {kt k2 pt2} {J : Jm} {rest : List Stmt} (hN : X.N.Nodup) (hi : X.N[i]? = some x) (hj : X.N[j]? = some y) (hij : i ≠ j) 
    (h : Am X ρ μ [a, b] fun μ1 rs => ∃ r1 r2, rs = [r1, r2] ∧ Ds X ((ρ.set i (some r1)).set j (some r2)) μ1 rest J) (hli : Nat.blt i ρ.length = true := by rfl) (hlj : Nat.blt j ρ.length = true := by rfl) (hc : X.calm = true := by rfl) (hx : X.env.scope.names.lookup x = some .local := by rfl) (hy : X.env.scope.names.lookup y = some .local := by rfl)
    (hw : swappedStores [.Tuple [.Name x px, .Name y py] kt pt] (.Tuple [a, b] k2 pt2) X.env = pure (some [x, y]) := by rfl)
    (hs : swapsWithSole [.Tuple [.Name x px, .Name y py] kt pt] (.Tuple [a, b] k2 pt2) pos.line X.env = pure false := by rfl) : Ds X ρ μ (.Assign [.Tuple [.Name x px, .Name y py] kt pt] (.Tuple [a, b] k2 pt2) pos :: rest) J :=
  ds_cons_of (ps_par hc hN hi hj hij hx hy (Wa.pa X [a, b]) hw hs) fun R F H as σ S D j => by
    refine h R F H as σ S _ fun vs F1 H1 as1 μ1 rs S1 x1 o1 h1 => ?_
    obtain ⟨r1, r2, rfl, h1⟩ := h1
    cases o1 with
    | cons o1 o2 =>
      cases o2 with
      | cons o2 o3 =>
        cases o3
        refine ⟨_, _, rfl, ?_⟩
        exact h1 R F1 H1 as1 _ ((S1.store o1 (Nat.le_of_ble_eq_true hli)).store o2 (by rw [List.length_set]; exact Nat.le_of_ble_eq_true hlj)) D (j.ext x1)
section
variable {X : Cx} {ρ : Rho} {μ : Mu} {P : PR} {x : Str} {pos : Pos} {a b e : Expr} {J : Jm} {rest : List Stmt}
theorem nm (i : Nat) {r : Rv} (h : P μ r) (hN : X.N[i]? = some x := by rfl) (hr : ρ[i]? = some (some r) := by rfl) (hv : Vis X.env.scope x := by first | exact Or.inl rfl | exact Or.inr (Or.inl rfl) | exact Or.inr (Or.inr rfl)) (hd : (x == ("__debug__" : Str)) = false := by decide)
    (hcd : (x == ("__classdict__" : Str)) = false := by decide) : Dm X ρ μ (.Name x pos) P := dm_name hN hr h hv hd hcd
theorem nz (i : Nat) {n : Nat} {d : PyData} (h : P μ (.dat d)) (hN : X.N[i]? = some x := by rfl) (hr : ρ[i]? = some (some (.own n)) := by rfl) (hz : μ[n]? = some (.Z d) := by rfl) (hv : Vis X.env.scope x := by first | exact Or.inl rfl | exact Or.inr (Or.inl rfl) | exact Or.inr (Or.inr rfl)) (hd : (x == ("__debug__" : Str)) = false := by decide)
    (hcd : (x == ("__classdict__" : Str)) = false := by decide) : Dm X ρ μ (.Name x pos) P := dm_nameZ hN hr hz h hv hd hcd
theorem im {f : Mu → Int → Prop} {i : Int} (h : f μ i) : IntP f μ (.dat (.int i)) := ⟨i, rfl, h⟩
theorem bm {f : Mu → Bool → Prop} {i : Bool} (h : f μ i) : BoolP f μ (.dat (.bool i)) := ⟨i, rfl, h⟩
theorem tmm {f : Mu → List PyData → Prop} {ds : List PyData} (h : f μ ds) : TupP f μ (.dat (.tuple ds)) := ⟨ds, rfl, h⟩
theorem lm {f : Mu → List PyData → Prop} {ds : List PyData} (h : f μ ds) : LstP f μ (.dat (.list ds)) := ⟨ds, rfl, h⟩
theorem dmm {f : Mu → PyData → Prop} {d : PyData} (h : f μ d) : DatP f μ (.dat d) := ⟨d, rfl, h⟩
theorem cint {i : Int} {j} {f : Mu → Int → Prop} (h : f μ i) : Dm X ρ μ (.Constant (.int i) j pos) (IntP f) := dm_int (im h)
/-- x[i] of a tuple, a list: data, the index written -/
theorem ixT {i : Int} {j} {ip : Pos} (h : Dm X ρ μ a fun μ1 r => ∃ ds d, r = .dat (.tuple ds) ∧ atI ds i = some d ∧ P μ1 (.dat d)) : Dm X ρ μ (.Subscript a (.Constant (.int i) j ip) pos) P :=
  dm_ix (h.imp fun _ _ ⟨_, d, e, h1, h2⟩ => by subst e; exact dm_int (im ⟨d, h1, h2⟩))
/-- arguments of data -/
theorem ac {es : List Expr} {f : Mu → List PyData → Prop} (h : Dm X ρ μ e (DatP fun μ1 d => Am X ρ μ1 es (DatsP fun μ2 ds => f μ2 (d :: ds)))) (hs : starEach (e :: es) X.env = (false, eval e X.env) :: starEach es X.env := by rfl) : Am X ρ μ (e :: es) (DatsP f) :=
  am_cons (h.imp fun μ1 r ⟨d, e1, h1⟩ => fun R F H as σ S Q q => by
    subst e1
    exact h1 R F H as σ S Q fun vs F' H' as' μ' rs S' x' o' ⟨ds, e2, h2⟩ => q vs F' H' as' μ' rs S' x' o' ⟨d :: ds, by rw [e2]; rfl, h2⟩) hs
theorem an {f : Mu → List PyData → Prop} (h : f μ []) : Am X ρ μ [] (DatsP f) := am_nil ⟨[], rfl, h⟩
/-- the last argument -/
theorem a1 {f : Mu → List PyData → Prop} (h : Dm X ρ μ e (DatP fun μ1 d => f μ1 [d])) (hs : starEach [e] X.env = (false, eval e X.env) :: starEach [] X.env := by rfl) : Am X ρ μ [e] (DatsP f) := ac (h.imp fun _ _ ⟨d, e1, h1⟩ => ⟨d, e1, an h1⟩) hs
end
/-! ### whole numbers, ratios -/
theorem gcd_abs (m n : Int) : Int.gcd (if m < 0 then -m else m) (if n < 0 then -n else n) = Int.gcd m n := by
  split <;> split <;> simp [Int.gcd_neg, Int.neg_gcd]
theorem gcd_step {a b : Int} (hb : 0 ≤ b) : Int.gcd b (a.fmod b) = Int.gcd a b := by
  rw [Int.fmod_eq_emod_of_nonneg _ hb, Int.gcd_comm a b]
  have h := Int.gcd_add_mul_left_right b (a % b) (a / b)
  rw [Int.emod_add_mul_ediv] at h
  exact h.symm
theorem rat_neg {m n : Int} (hm : m ≠ 0) (hn : n < 0) : m.fdiv (-(Int.gcd m n : Int)) = (Rat.divInt m n).num ∧ n.fdiv (-(Int.gcd m n : Int)) = ((Rat.divInt m n).den : Int) := by
  have hg : (Int.gcd m n : Int) ≠ 0 := by
    have := Int.gcd_ne_zero_left (b := n) hm
    omega
  have d1 := Int.gcd_dvd_left m n
  have d2 := Int.gcd_dvd_right m n
  have hs : n.sign = -1 := Int.sign_eq_neg_one_of_neg hn
  constructor
  · rw [Int.fdiv_neg hg, if_pos d1, Int.fdiv_eq_ediv_of_dvd d1, Rat.num_divInt, hs, Int.gcd_comm n m]
    rw [show (-1 : Int) * m = -m by omega, Int.neg_ediv_of_dvd d1]
  · rw [Int.fdiv_neg hg, if_pos d2, Int.fdiv_eq_ediv_of_dvd d2, Rat.den_divInt, if_neg (by omega), Int.gcd_comm n m, Int.natCast_ediv]
    rw [show ((n.natAbs : Nat) : Int) = -n by omega, Int.neg_ediv_of_dvd d2]
theorem rat_pos {m n : Int} (hn : 0 < n) : m.fdiv (Int.gcd m n : Int) = (Rat.divInt m n).num ∧ n.fdiv (Int.gcd m n : Int) = ((Rat.divInt m n).den : Int) := by
  have d1 := Int.gcd_dvd_left m n
  have d2 := Int.gcd_dvd_right m n
  have hs : n.sign = 1 := Int.sign_eq_one_of_pos hn
  constructor
  · rw [Int.fdiv_eq_ediv_of_dvd d1, Rat.num_divInt, hs, Int.gcd_comm n m, Int.one_mul]
  · rw [Int.fdiv_eq_ediv_of_dvd d2, Rat.den_divInt, if_neg (by omega), Int.gcd_comm n m, Int.natCast_ediv]
    rw [show ((n.natAbs : Nat) : Int) = n by omega]
def tf_shared : Tf := fun ds G => ∃ m n : Int, ds = [.int m, .int n] ∧ G (.int (Int.gcd m n))
def tf_ratio : Tf := fun ds G => ∃ m n : Int, ds = [.int m, .int n] ∧ n ≠ 0 ∧ G (rt (Rat.divInt m n))
section
variable {P : Program} {w : World} {K : PySem.W.Frag} {mg : Str → Option Value} {base : Heap}
theorem can_shared (T : Txt K mg) : Can P w K mg base "shared" 1 p_shared (PureSp K tf_shared) := by
  refine can_pure 3 T sc_shared (fun _ _ _ _ _ _ us hl => match us, hl with | [_, _], _ => rfl) (fun ds G h => by obtain ⟨m, n, rfl, _⟩ := h; rfl) fun f cdv B outer s H E hr ds G h => ?_
  obtain ⟨m, n, rfl, hG⟩ := h
  refine two_par sc_shared.nd (i := 0) (j := 1) rfl rfl (by decide) (am_cons (dm_abs rfl T.b_abs (nm 0 (im (am_cons (dm_abs rfl T.b_abs (nm 1 (im (am_nil ⟨_, _, rfl, ?_⟩)))))))))
  refine ds_while PassesOwn.never (fun k ρ μ => ∃ a b : Int, 0 ≤ a ∧ 0 ≤ b ∧ k = b.toNat ∧ Int.gcd a b = Int.gcd m n ∧ ρ = [some (.dat (.int a)), some (.dat (.int b))] ∧ μ = []) _ ⟨if m < 0 then -m else m, if n < 0 then -n else n, by split <;> omega, by split <;> omega, rfl, gcd_abs m n, rfl, rfl⟩ ?_
  rintro k ρ μ ⟨a, b, ha, hb, rfl, hg, rfl, rfl⟩
  refine tm_cmp op_ne (nomark _) (nm 1 (dm_int (opd_neI (bm ⟨fun hk => ?_, fun hk => ?_⟩))))
  · have hb0 : b ≠ 0 := by simpa using hk
    refine two_par sc_shared.nd (i := 0) (j := 1) rfl rfl (by decide) (am_cons (nm 1 (am_cons (dm_bin op_modN (nm 0 (nm 1 (opd_I hb0 (am_nil ⟨_, _, rfl, ?_⟩))))))))
    refine ds_nil ⟨(a.fmod b).toNat, ?_, b, a.fmod b, hb, ?_, rfl, (gcd_step hb).trans hg, rfl, rfl⟩
    · rw [Int.fmod_eq_emod_of_nonneg _ hb]
      have := Int.emod_lt_of_pos a (show 0 < b by omega)
      omega
    · rw [Int.fmod_eq_emod_of_nonneg _ hb]
      exact Int.emod_nonneg a hb0
  · have hb0 : b = 0 := by simpa using hk
    subst hb0
    refine ds_ret (nm 0 ⟨_, rfl, ?_⟩)
    have e : (a : Int) = (Int.gcd m n : Nat) := by
      rw [← hg]
      simp [Int.gcd_zero_right]
      omega
    rw [e]
    exact hG
theorem can_ratio (T : Txt K mg) (z : Seer K mg) (ht : P.given.tree = none) (c_shared : Can P w K mg base "shared" 1 p_shared (PureSp K tf_shared)) : Can P w K mg base "ratio" 41 p_ratio (PureSp K tf_ratio) := by
  refine can_pure 4 T sc_ratio (fun _ _ _ _ _ _ us hl => match us, hl with | [_, _], _ => rfl) (fun ds G h => by obtain ⟨m, n, rfl, _⟩ := h; rfl) fun f cdv B outer s H E hr ds G h => ?_
  obtain ⟨m, n, rfl, hn, hG⟩ := h
  have hd : (B.deeper (envOfC "ratio" (defScope (top 17)) s.heap.objs.size f cdv)).depth + 100 < recursionLimit := by
    have := hr.dp
    omega
  refine ds_if (tm_cmp op_eq (nomark _) (nm 0 (dm_int (opd_eqI (bm ⟨fun hk => ?_, fun hk => ?_⟩)))))
  · have hm : m = 0 := by simpa using hk
    subst hm
    refine ds_ret (dm_glob (v := .ref (He.ga K "ZERO")) (d := rt 0) rfl T.g_ZERO rfl (fun F => .tupK T.t_ZERO rfl (.cons (.int _) (.cons (.int _) .nil))) ⟨_, rfl, ?_⟩)
    have e : Rat.divInt 0 n = 0 := by simp
    rw [e] at hG
    exact hG
  · have hm : m ≠ 0 := by simpa using hk
    refine ds_nil ?_
    refine ds_asg (dm_call c_shared (hr.mono (by decide)) rfl (ac (nm 0 (dmm (a1 (nm 1 (dmm ⟨m, n, rfl, gm_name sc_ratio.nd (i := 2) rfl ?_⟩)))))))
    refine ds_if (tm_cmp op_lt (nomark _) (nm 1 (dm_int (opd_B0 (bm ⟨fun hk => ?_, fun hk => ?_⟩)))))
    · have hn0 : n < 0 := by simpa using hk
      obtain ⟨e1, e2⟩ := rat_neg hm hn0
      have hg : -(Int.gcd m n : Int) ≠ 0 := by
        have := Int.gcd_ne_zero_left (b := n) hm
        omega
      refine ds_asg (dm_neg (nm 2 (im (gm_name sc_ratio.nd (i := 2) rfl (ds_nil ?_)))))
      refine ds_ret (dm_tup (ac (dm_bin (op_fdivP z ht (l := outer) rfl rfl rfl hd) (nm 0 (nm 2 (opd_I hg (dmm ?_)))))))
      refine a1 (dm_bin (op_fdivP z ht (l := outer) rfl rfl rfl hd) (nm 1 (nm 2 (opd_I hg (dmm ⟨by simp, _, rfl, ?_⟩)))))
      rw [e1, e2]
      exact hG
    · have hn0 : 0 < n := by
        have : ¬ n < 0 := by simpa using hk
        omega
      obtain ⟨e1, e2⟩ := rat_pos (m := m) hn0
      have hg : (Int.gcd m n : Int) ≠ 0 := by
        have := Int.gcd_ne_zero_left (b := n) hm
        omega
      refine ds_nil ?_
      refine ds_ret (dm_tup (ac (dm_bin (op_fdivP z ht (l := outer) rfl rfl rfl hd) (nm 0 (nm 2 (opd_I hg (dmm ?_)))))))
      refine a1 (dm_bin (op_fdivP z ht (l := outer) rfl rfl rfl hd) (nm 1 (nm 2 (opd_I hg (dmm ⟨by simp, _, rfl, ?_⟩)))))
      rw [e1, e2]
      exact hG
/-! ### sums and products of ratios -/
theorem rt_add (a b : Rat) : Rat.divInt (a.num * b.den + b.num * a.den) ((a.den : Int) * b.den) = a + b := by
  rw [Rat.add_def', ← Rat.divInt_ofNat]
  congr 1
theorem rt_mul (a b : Rat) : Rat.divInt (a.num * b.num) ((a.den : Int) * b.den) = a * b := by
  rw [Rat.mul_def', ← Rat.divInt_ofNat]
  congr 1
theorem rt_div (a b : Rat) : Rat.divInt (a.num * b.den) ((a.den : Int) * b.num) = a / b := by
  rw [Rat.div_def, Rat.inv_def, ← Rat.divInt_mul_divInt, Rat.num_divInt_den]
theorem den_ne (a : Rat) : (a.den : Int) ≠ 0 := by
  have := a.den_nz
  omega
theorem Sm.mul {a b : Rat} (ha : Sm a) (hb : Sm b) : CMulB a.num b.num := by
  have := ha.1
  have := hb.1
  unfold CMulB
  omega
theorem Sm.mulD {a b : Rat} (ha : Sm a) (hb : Sm b) : CMulB a.num b.den := by
  have := ha.1
  have := hb.2
  unfold CMulB
  rw [Int.natAbs_natCast]
  omega
theorem Sm.mulDD {a b : Rat} (ha : Sm a) (hb : Sm b) : CMulB a.den b.den := by
  have := ha.2
  have := hb.2
  unfold CMulB
  rw [Int.natAbs_natCast, Int.natAbs_natCast]
  omega
theorem Sm.mulDN {a b : Rat} (ha : Sm a) (hb : Sm b) : CMulB a.den b.num := by
  have := ha.2
  have := hb.1
  unfold CMulB
  rw [Int.natAbs_natCast]
  omega
def tf_plus : Tf := fun ds G => ∃ a b : Rat, ds = [rt a, rt b] ∧ Sm a ∧ Sm b ∧ G (rt (a + b))
def tf_minus : Tf := fun ds G => ∃ a b : Rat, ds = [rt a, rt b] ∧ Sm a ∧ Sm b ∧ G (rt (a - b))
def tf_times : Tf := fun ds G => ∃ a b : Rat, ds = [rt a, rt b] ∧ Sm a ∧ Sm b ∧ G (rt (a * b))
def tf_over : Tf := fun ds G => ∃ a b : Rat, ds = [rt a, rt b] ∧ Sm a ∧ Sm b ∧ b ≠ 0 ∧ G (rt (a / b))
def tf_negative : Tf := fun ds G => ∃ a : Rat, ds = [rt a] ∧ G (rt (-a))
def tf_whole : Tf := fun ds G => ∃ a : Int, ds = [.int a] ∧ G (rt a)
theorem can_plus (T : Txt K mg) (c_ratio : Can P w K mg base "ratio" 41 p_ratio (PureSp K tf_ratio)) : Can P w K mg base "plus" 42 p_plus (PureSp K tf_plus) := by
  refine can_pure 5 T sc_plus (fun _ _ _ _ _ _ us hl => match us, hl with | [_, _], _ => rfl) (fun ds G h => by obtain ⟨m, n, rfl, _⟩ := h; rfl) fun f cdv B outer s H E hr ds G h => ?_
  obtain ⟨a, b, rfl, ha, hb, hG⟩ := h
  have fin : Ds (XOf P w K mg base N_plus "plus" (defScope (top 18)) f cdv B outer s H E) (List.map (fun d => some (Rv.dat d)) [rt a, rt b] ++ List.replicate (N_plus.length - [rt a, rt b].length) none) [] [(defBody (top 18)).getD 1 (.Pass ⟨0, 0, 0, 0⟩)] (retJ G) := by
    refine ds_ret (dm_call c_ratio (hr.mono (by decide)) rfl (ac (dm_bin op_add (dm_bin op_mulB (ixT (nm 0 ⟨_, _, rfl, rfl, ixT (nm 1 ⟨_, _, rfl, rfl, opd_I (ha.mulD hb) ?_⟩)⟩))))))
    refine dm_bin op_mulB (ixT (nm 1 ⟨_, _, rfl, rfl, ixT (nm 0 ⟨_, _, rfl, rfl, opd_I (hb.mulD ha) (opd_I0 (dmm ?_))⟩)⟩))
    refine a1 (dm_bin op_mulB (ixT (nm 0 ⟨_, _, rfl, rfl, ixT (nm 1 ⟨_, _, rfl, rfl, opd_I (ha.mulDD hb) (dmm ⟨_, _, rfl, ?_, _, rfl, ?_⟩)⟩)⟩)))
    · exact Int.mul_ne_zero (den_ne a) (den_ne b)
    · rw [rt_add]
      exact hG
  refine ds_if (tm_chain op_eq op_eq (ixT (nm 0 ⟨_, _, rfl, rfl, ixT (nm 1 ⟨_, _, rfl, rfl, opd_eqI (bm ⟨fun hk => dm_int (opd_eqI (bm ⟨fun hk2 => ?_, fun _ => ?_⟩)), fun hk => ⟨fun z => (by cases z), fun _ => ?_⟩⟩)⟩)⟩)))
  case refine_2 => exact ds_nil fin
  case refine_3 => exact ds_nil fin
  have h1 : (a.den : Int) = b.den := by simpa using hk
  have h2 : (b.den : Int) = 1 := by simpa using hk2
  have h3 : a.den = 1 := by omega
  have h4 : b.den = 1 := by omega
  refine ds_ret (dm_tup (ac (dm_bin op_add (ixT (nm 0 ⟨_, _, rfl, rfl, ixT (nm 1 ⟨_, _, rfl, rfl, opd_I0 (dmm (a1 (dm_int (dmm ⟨by simp, _, rfl, ?_⟩))))⟩)⟩)))))
  have e : a + b = ((a.num + b.num : Int) : Rat) := by
    have e1 : a = (a.num : Rat) := by
      apply Rat.ext <;> simp [h3]
    have e2 : b = (b.num : Rat) := by
      apply Rat.ext <;> simp [h4]
    rw [Rat.intCast_add, ← e1, ← e2]
  rw [e] at hG
  exact hG
theorem can_minus (T : Txt K mg) (c_plus : Can P w K mg base "plus" 42 p_plus (PureSp K tf_plus)) : Can P w K mg base "minus" 43 p_minus (PureSp K tf_minus) := by
  refine can_pure 6 T sc_minus (fun _ _ _ _ _ _ us hl => match us, hl with | [_, _], _ => rfl) (fun ds G h => by obtain ⟨m, n, rfl, _⟩ := h; rfl) fun f cdv B outer s H E hr ds G h => ?_
  obtain ⟨a, b, rfl, ha, hb, hG⟩ := h
  refine ds_ret (dm_call c_plus hr rfl (ac (nm 0 (dmm (a1 (dm_tup (ac (dm_neg (ixT (nm 1 ⟨_, _, rfl, rfl, im (dmm (a1 (ixT (nm 1 ⟨_, _, rfl, rfl, dmm ⟨by simp, ?_⟩⟩))))⟩))))))))))
  refine dmm ⟨a, -b, rfl, ha, ?_, _, rfl, ?_⟩
  · unfold Sm
    rw [Rat.neg_num, Rat.neg_den, Int.natAbs_neg]
    exact hb
  · rw [← Rat.sub_eq_add_neg]
    exact hG
end
end BW

set_option maxHeartbeats 0
namespace BW
open PySem PySem.Spec PyProof.Rows L2
def loose0 : List Str := ["is_integer", "is_in", "is_list", "BendError", "BadFrame", "BadHinges", "BadLoad", "BadMoves", "BadStrains", "NotStiff", "ZERO", "ONE", "MOST", "shared", "ratio", "plus"]
def loose1 : List Str := ["minus", "times", "over", "negative", "whole", "total", "inner", "is_ratio", "reduced", "lowered", "rank", "kernel", "solved", "MOST_NODES", "MOST_MEMBERS", "MOST_PLACE"]
def loose2 : List Str := ["MOST_STIFF", "LETTERS", "KINDS", "need_nodes", "is_member", "need_members", "need_supports", "need_frame", "need_hinges", "need", "length_of", "along", "held", "free_in", "ends_by_forces", "at_nodes"]
def loose3 : List Str := ["scaled", "parts_in", "balance_rows", "motions", "MOST_LOAD", "need_load", "need_all", "plain_rows", "pushed", "released", "member_rows", "turned", "unit_columns", "system", "response", "fixed_by"]
def loose4 : List Str := ["by_load", "end_forces", "NONE", "need_moves", "is_way", "need_strains", "need_given", "need_strained", "no_loads", "as_moves", "by_moves", "sunk_forces", "strained", "by_strains", "warped_forces", "all_forces"]
def loose5 : List Str := ["_law_taken", "_law_pick", "_law_signed", "_law_alike", "_law_gcd", "_law_lowest", "_law_plus", "_law_total", "_law_frame", "_law_joints", "_law_load", "_law_held", "_law_ratios", "_law_hinges", "_law_given", "_law_strains"]
def loose6 : List Str := ["_law_stiff_hinges"]
def loose : List Str := loose0 ++ loose1 ++ loose2 ++ loose3 ++ loose4 ++ loose5 ++ loose6
def fp0 : List (Str × Nat) := [("is_integer", 1), ("is_in", 2), ("is_list", 3), ("shared", 16), ("ratio", 17), ("plus", 18), ("minus", 19), ("times", 20), ("over", 21), ("negative", 22), ("whole", 23), ("total", 24), ("inner", 25), ("is_ratio", 26), ("reduced", 28), ("lowered", 29)]
def fp1 : List (Str × Nat) := [("rank", 30), ("kernel", 31), ("solved", 32), ("need_nodes", 40), ("is_member", 41), ("need_members", 42), ("need_supports", 43), ("need_frame", 44), ("need_hinges", 45), ("need", 46), ("length_of", 47), ("along", 48), ("held", 49), ("free_in", 50), ("ends_by_forces", 51), ("at_nodes", 52)]
def fp2 : List (Str × Nat) := [("scaled", 53), ("parts_in", 54), ("balance_rows", 55), ("motions", 56), ("need_load", 59), ("need_all", 60), ("plain_rows", 61), ("pushed", 62), ("released", 63), ("member_rows", 64), ("turned", 65), ("unit_columns", 66), ("system", 67), ("response", 68), ("fixed_by", 69), ("by_load", 70)]
def fp3 : List (Str × Nat) := [("end_forces", 71), ("need_moves", 74), ("is_way", 75), ("need_strains", 76), ("need_given", 77), ("need_strained", 78), ("no_loads", 79), ("as_moves", 80), ("by_moves", 81), ("sunk_forces", 82), ("strained", 83), ("by_strains", 84), ("warped_forces", 85), ("all_forces", 86), ("_law_taken", 88), ("_law_pick", 89)]
def fp4 : List (Str × Nat) := [("_law_signed", 90), ("_law_alike", 91), ("_law_gcd", 92), ("_law_lowest", 93), ("_law_plus", 94), ("_law_total", 95), ("_law_frame", 96), ("_law_joints", 97), ("_law_load", 98), ("_law_held", 99), ("_law_ratios", 100), ("_law_hinges", 101), ("_law_given", 102), ("_law_strains", 103), ("_law_stiff_hinges", 104), ("law", 105)]
def fp : List (Str × Nat) := fp0 ++ fp1 ++ fp2 ++ fp3 ++ fp4
def bls : List Str := ["len", "abs", "isinstance", "range", "zip", "enumerate", "tuple", "list", "all", "any", "sorted", "int", "bool", "str"]
def ics : List (Str × Int) := [("MOST", 1000000), ("MOST_NODES", 8), ("MOST_MEMBERS", 8), ("MOST_PLACE", 20), ("MOST_STIFF", 50), ("MOST_LOAD", 60)]
def tps : List (Str × List V) := [("ZERO", [.int 0, .int 1]), ("ONE", [.int 1, .int 1]), ("NONE", [.int 0, .int 0, .int 0]), ("KINDS", [.str "x", .str "y", .str "r", .str "xy", .str "xr", .str "yr", .str "xyr"])]
theorem fn_fp : fn = fp.map fun p => dOf p.1 p.2 := rfl
/-- a tuple of the written part, looked at -/
def sqB (K : PySem.W.Frag) (a : Addr) (vs : List V) : Bool := match K.lookup a with
  | none => false
  | some o => match o.data with
    | .seq its _ => decide (o.cls = .type "tuple") && decide (its.size ≤ sizeLine) && He.relAll vs its.toList
    | _ => false
theorem sqB_ok {K : PySem.W.Frag} {a : Addr} {vs : List V} (h : sqB K a vs = true) : SqK K a vs := by
  unfold sqB at h
  cases e : K.lookup a with
  | none =>
    rw [e] at h
    cases h
  | some o =>
    rw [e] at h
    cases d : o.data with
    | seq its n =>
      simp only [d, Bool.and_eq_true, decide_eq_true_eq] at h
      exact ⟨o, its, n, e, h.1.1, d, h.1.2, He.relAll_ok h.2⟩
    | _ =>
      simp only [d] at h
      cases h
def keyS : Value → Bool
  | .str _ _ => true
  | _ => false
/-- a dict of texts that lacks some names -/
def lackB (K : PySem.W.Frag) (a : Addr) (xs : List Str) : Bool := match K.lookup a with
  | none => false
  | some o => match o.data with
    | .dict es _ => es.all (fun e => keyS e.key) && xs.all fun x => (nsFind es x).isNone
    | _ => false
theorem lackB_ok {K : PySem.W.Frag} {a : Addr} {xs : List Str} (h : lackB K a xs = true) : ∃ o es ep, K.lookup a = some o ∧ o.data = .dict es ep ∧ StrKeys es ∧ ∀ x ∈ xs, nsFind es x = none := by
  unfold lackB at h
  cases e : K.lookup a with
  | none =>
    rw [e] at h
    cases h
  | some o =>
    rw [e] at h
    cases d : o.data with
    | dict es ep =>
      simp only [d, Bool.and_eq_true] at h
      refine ⟨o, es, ep, rfl, d, fun z hz => ?_, fun x hx => ?_⟩
      · have k := Array.all_eq_true'.mp h.1 z hz
        cases q : z.key with
        | str n t => exact ⟨n, t, rfl⟩
        | _ =>
          rw [q] at k
          cases k
      · exact Option.isNone_iff_eq_none.mp (List.all_eq_true.mp h.2 x hx)
    | _ =>
      simp only [d] at h
      cases h
/-- the main module's own object -/
def modB (K : PySem.W.Frag) : Bool := match PySem.W.nsIn K mainGlobals "__builtins__" with
  | some (some (.ref b)) => (match K.lookup b with
    | some o => decide (o.cls = .type "module") && decide (o.dict = some builtinsNs)
    | none => false)
  | _ => false
theorem modB_ok {K : PySem.W.Frag} {h : Heap} {mg : Str → Option Value} (X : K.In h) (G : h.Ns mainGlobals mg) (c : modB K = true) : ∃ bm ob, mg "__builtins__" = some (.ref bm) ∧ K.lookup bm = some ob ∧ ob.cls = .type "module" ∧ ob.dict = some builtinsNs := by
  unfold modB at c
  split at c
  · rename_i b e
    split at c
    · rename_i ob e2
      simp only [Bool.and_eq_true, decide_eq_true_eq] at c
      exact ⟨b, ob, PySem.W.mg_of X G e, e2, c.1, c.2⟩
    · cases c
  · cases c
def okX (K : PySem.W.Frag) : Bool :=
  (fp.all fun p => (He.Fa.glo p.1).ok K) && ((bls.all fun x => (He.Fa.free x).ok K) && ((ics.all fun p => (He.Fa.int p.1 p.2).ok K) && ((He.Fa.str "LETTERS" "xyr").ok K &&
  ((tps.all fun p => (He.Fa.glo p.1).ok K) && ((tps.all fun p => sqB K (He.ga K p.1) p.2) && (lackB K cStatics ["sys.audit-hooks", "sys.dict"] && (lackB K sysModules ["_pylong"] && modB K)))))))
def refsAt (g : Addr → Option Obj) (a : Addr) : List Addr := match g a with
  | some o => He.refsD o
  | none => []
def Kof (g : Addr → Option Obj) : PySem.W.Frag := He.frG g (mainGlobals :: cStatics :: sysModules :: (refsAt g mainGlobals ++ (refsAt g mainGlobals).flatMap (refsAt g)))
abbrev R : PySem.W.OpenRow := PySem.W.OpenLaw.row PySem.Challenge.rw_bendworks_k20_whole_causes_together
def hk : PySem.W.Hook where
  α := Bool × He.AlD
  obs := fun s => (okX (Kof s.heap.get?), He.obsD [] fn (Kof s.heap.get?))
  val := fun _ => (true, He.valD fn)
  says := fun _ h => ∃ K : PySem.W.Frag, K.In h ∧ okX K = true ∧ He.SaysD [] fn K
  of := fun _ _ e => ⟨_, He.frG_in, congrArg (fun z : Bool × He.AlD => z.1) e, congrArg (fun z : Bool × He.AlD => z.2) e⟩
  keeps := fun _ _ _ ⟨K, hK, a, b⟩ k => ⟨K, PySem.W.Frag.In.keeps hK k, a, b⟩
def ob (s : PySem.W.SharedT) : Bool × He.AlD := (okX (Kof (HandSHeadRun.getT s)), He.obsD [] fn (Kof (HandSHeadRun.getT s)))
theorem ob_eq (s : PySem.W.SharedT) : ob s = hk.obs s.abs := by
  have e : HandSHeadRun.getT s = s.abs.heap.get? := funext fun a => HandSHeadRun.getT_eq s a
  unfold ob
  rw [e] <;> rfl
theorem at_ {α : Type} {l : List α} (i : Nat) {x : α} (h : l[i]? = some x) : x ∈ l := List.mem_of_getElem? h
/-- what the head has told -/
theorem head_txt {K : PySem.W.Frag} {h : Heap} {mg : Str → Option Value} (X : K.In h) (G : h.Ns mainGlobals mg) (c : okX K = true) (d_ : He.SaysD [] fn K) : Txt K mg ∧ Seer K mg := by
  unfold okX at c
  simp only [Bool.and_eq_true] at c
  obtain ⟨c1, c2, c3, c4, c5, c6, c7, c8, c9⟩ := c
  have bl : ∀ x ∈ bls, mg x = none := fun x hx => He.free_ok X G (List.all_eq_true.mp c2 x hx)
  have ic : ∀ p ∈ ics, ∃ t, mg p.1 = some (.int p.2 t) := fun p hp => He.int_ok X G (List.all_eq_true.mp c3 p hp)
  have tg : ∀ p ∈ tps, mg p.1 = some (.ref (He.ga K p.1)) := fun p hp => He.glo_ok X G (List.all_eq_true.mp c5 p hp)
  have tt : ∀ p ∈ tps, SqK K (He.ga K p.1) p.2 := fun p hp => sqB_ok (List.all_eq_true.mp c6 p hp)
  refine ⟨⟨fun i d hd => ?_, fun i d hd => ?_, bl _ (at_ 0 rfl), bl _ (at_ 1 rfl), bl _ (at_ 2 rfl), bl _ (at_ 3 rfl), bl _ (at_ 4 rfl), bl _ (at_ 5 rfl), bl _ (at_ 6 rfl), bl _ (at_ 7 rfl), bl _ (at_ 8 rfl), bl _ (at_ 9 rfl), bl _ (at_ 10 rfl), bl _ (at_ 11 rfl), bl _ (at_ 12 rfl), bl _ (at_ 13 rfl), ic _ (at_ 0 rfl), ic _ (at_ 1 rfl), ic _ (at_ 2 rfl), ic _ (at_ 3 rfl), ic _ (at_ 4 rfl), ic _ (at_ 5 rfl), He.str_ok X G c4, tg _ (at_ 0 rfl), tg _ (at_ 1 rfl), tg _ (at_ 2 rfl), tg _ (at_ 3 rfl), tt _ (at_ 0 rfl), tt _ (at_ 1 rfl), tt _ (at_ 2 rfl), tt _ (at_ 3 rfl)⟩, ⟨?_, ?_, modB_ok X G c9⟩⟩
  · have hd2 := hd
    rw [fn_fp, List.getElem?_map] at hd2
    obtain ⟨p, hp, rfl⟩ := Option.map_eq_some_iff.mp hd2
    exact He.SaysD.def_ d_ i hd
  · rw [fn_fp, List.getElem?_map] at hd
    obtain ⟨p, hp, rfl⟩ := Option.map_eq_some_iff.mp hd
    exact He.glo_ok X G (List.all_eq_true.mp c1 p (List.mem_of_getElem? hp))
  · obtain ⟨o, es, ep, h1, h2, h3, h4⟩ := lackB_ok c7
    exact ⟨o, es, ep, h1, h2, h3, h4 _ (at_ 0 rfl), h4 _ (at_ 1 rfl)⟩
  · obtain ⟨o, es, ep, h1, h2, h3, h4⟩ := lackB_ok c8
    exact ⟨o, es, ep, h1, h2, h3, h4 _ (at_ 0 rfl)⟩
theorem opt2 {α β γ δ : Type} {x : Option α} {f : α → β} {g : α → γ} {u : α → δ} {a : β} {b : γ} {c : δ} (h1 : x.map (fun s => (f s, g s, ())) = some (a, b, ())) (h2 : x.map u = some c) : x.map (fun s => (f s, g s, u s)) = some (a, b, c) := by
  cases x with
  | none => cases h1
  | some s =>
    simp only [Option.map_some, Option.some.injEq, Prod.mk.injEq] at h1 h2 ⊢
    exact ⟨h1.1, h1.2.1, h2⟩
/-- the top's end; each look at it runs the top again, so that none takes too much memory -/
noncomputable def topEnd (w : World) (os : OsState) : Option PySem.W.SharedT := HandSHeadRun.endF (HandSHeadRun.stepQ (HandSHeadRun.denQ HandSHeadRun.tabQ) R.prog w) 6000 R.prog w os
theorem run1 (w : World) : HandSHeadRun.RunEq R (PySem.W.view R.prog [105]) PySem.W.Hook.none (fun _ => ()) 6000 loose w := by
  intro os
  kernel_rfl
theorem run2 (w : World) (os : OsState) : (topEnd w os).map ob = some (true, He.valD fn) := by
  kernel_rfl
theorem run (w : World) : HandSHeadRun.RunEq R (PySem.W.view R.prog [105]) hk ob 6000 loose w := fun os => opt2 (run1 w os) (run2 w os)
end BW

set_option maxHeartbeats 4000000
namespace BW
open PySem PySem.Spec PyProof.Rows L2

/-! ### data without dicts -/
mutual
def noD : PyData → Bool
  | .list ds => noDA ds
  | .tuple ds => noDA ds
  | .dict _ => false
  | .none => true
  | .bool _ => true
  | .int _ => true
  | .str _ => true
def noDA : List PyData → Bool
  | [] => true
  | d :: ds => noD d && noDA ds
end
section
variable {K : PySem.W.Frag} {F : Hp}
mutual
theorem Rp.dp : ∀ {v : V} {d : PyData}, Rp K F v d → noD d = true → Dp K F v d
  | _, _, .non, _ => .non
  | _, _, .bl b, _ => .bl b
  | _, _, .int i, _ => .int i
  | _, _, .str x, _ => .str x
  | _, _, .lst h r, n => .lst h (RpA.dp r n)
  | _, _, .tup h r, n => .tup (.inl (.inl h)) (RpA.dp r n)
  | _, _, .tupK h k r, n => .tup (.inr h) (RpA.dp r n)
  | _, _, .dct h r, n => by simp [noD] at n
theorem RpA.dp : ∀ {vs : List V} {ds : List PyData}, RpA K F vs ds → noDA ds = true → DpAll K F vs ds
  | _, _, .nil, _ => .nil
  | _, _, .cons h r, n => by
    simp only [noDA, Bool.and_eq_true] at n
    exact .cons (Rp.dp h n.1) (RpA.dp r n.2)
end
end
/-- data that == may be asked of -/
def shp (d : PyData) : Bool := SeqAt.shaped d && noD d
theorem shp1 {d : PyData} (h : shp d = true) : SeqAt.shaped d = true ∧ noD d = true := Bool.and_eq_true_iff.mp h

section
variable {X : Cx} {ρ : Rho} {μ : Mu} {P : PR} {a b c e : Expr} {es : List Expr} {x : Str} {p pos : Pos} {J : Jm} {rest : List Stmt}
theorem Sta.rp {K : PySem.W.Frag} {R F H : Hp} {as : List Addr} {σ : L2.St} (S : Sta K R F H as σ ρ μ) {v : V} {d : PyData} (h : Rp K F v d) : Rp K H v d := h.mono (Gw.of S.fh)
/-! ### == of data -/
theorem opd_eqD {d e : PyData} (hd : shp d = true) (he : shp e = true) (h : P μ (.dat (.bool (PyData.eqv d e)))) : OpD X ρ (rEqD X.K) μ (.dat d) (.dat e) P := fun R F H as σ y z S o1 o2 Q q =>
  ⟨d, e, (S.rp o1).dp (shp1 hd).2, (S.rp o2).dp (shp1 he).2, (shp1 hd).1, (shp1 he).1, q _ F H as μ (.dat (.bool _)) S (Ext.refl F as) (okD (.bl _)) h⟩
theorem opd_neD {d e : PyData} (hd : shp d = true) (he : shp e = true) (h : P μ (.dat (.bool (!PyData.eqv d e)))) : OpD X ρ (rNeD X.K) μ (.dat d) (.dat e) P := fun R F H as σ y z S o1 o2 Q q =>
  ⟨d, e, (S.rp o1).dp (shp1 hd).2, (S.rp o2).dp (shp1 he).2, (shp1 hd).1, (shp1 he).1, q _ F H as μ (.dat (.bool _)) S (Ext.refl F as) (okD (.bl _)) h⟩
theorem opd_inD {d : PyData} {ds : List PyData} (hd : shp d = true) (he : shp (.list ds) = true) (h : P μ (.dat (.bool (ds.any fun z => PyData.eqv z d)))) : OpD X ρ (rInD X.K) μ (.dat d) (.dat (.list ds)) P := fun R F H as σ y z S o1 o2 Q q =>
  ⟨d, ds, (S.rp o1).dp (shp1 hd).2, (S.rp o2).dp (shp1 he).2, (shp1 hd).1, (shp1 he).1, q _ F H as μ (.dat (.bool _)) S (Ext.refl F as) (okD (.bl _)) h⟩
theorem opd_niD {d : PyData} {ds : List PyData} (hd : shp d = true) (he : shp (.list ds) = true) (h : P μ (.dat (.bool (!ds.any fun z => PyData.eqv z d)))) : OpD X ρ (rNotInD X.K) μ (.dat d) (.dat (.list ds)) P := fun R F H as σ y z S o1 o2 Q q =>
  ⟨d, ds, (S.rp o1).dp (shp1 hd).2, (S.rp o2).dp (shp1 he).2, (shp1 hd).1, (shp1 he).1, q _ F H as μ (.dat (.bool _)) S (Ext.refl F as) (okD (.bl _)) h⟩
/-! ### in a tuple, deep -/
def rInT (K : PySem.W.Frag) : R2 := fun x y H Q => ∃ d ds, Dp K H x d ∧ Dp K H y (.tuple ds) ∧ SeqAt.shaped d = true ∧ SeqAt.shaped (.tuple ds) = true ∧ Q (.bl (ds.any fun z => PyData.eqv z d)) H
def rNiT (K : PySem.W.Frag) : R2 := fun x y H Q => ∃ d ds, Dp K H x d ∧ Dp K H y (.tuple ds) ∧ SeqAt.shaped d = true ∧ SeqAt.shaped (.tuple ds) = true ∧ Q (.bl (!ds.any fun z => PyData.eqv z d)) H
theorem op_inT (hu : X.A.units + 65 < cLine) : OpR X (compareOp .In) (rInT X.K) := by
  intro pins s σ H x y v u Q I rx ry h
  obtain ⟨d, ds, hd, he, sd, se, q⟩ := h
  obtain ⟨as, r1⟩ := Dp.reads I d x v hd rx
  obtain ⟨bs, r2⟩ := Dp.reads I (.tuple ds) y u he ry
  exact SeqAt.in_tuple_reads r2 r1 (SeqAt.canLay_of_shaped se) (SeqAt.canLay_of_shaped sd) (room_in_shaped sd hu) ⟨.bl _, H, I, rfl, q⟩
theorem op_niT (hu : X.A.units + 65 < cLine) : OpR X (compareOp .NotIn) (rNiT X.K) := by
  intro pins s σ H x y v u Q I rx ry h
  obtain ⟨d, ds, hd, he, sd, se, q⟩ := h
  obtain ⟨as, r1⟩ := Dp.reads I d x v hd rx
  obtain ⟨bs, r2⟩ := Dp.reads I (.tuple ds) y u he ry
  exact SeqAt.notIn_tuple_reads r2 r1 (SeqAt.canLay_of_shaped se) (SeqAt.canLay_of_shaped sd) (room_in_shaped sd hu) ⟨.bl _, H, I, rfl, q⟩
theorem opd_inT {d : PyData} {ds : List PyData} (hd : shp d = true) (he : shp (.tuple ds) = true) (h : P μ (.dat (.bool (ds.any fun z => PyData.eqv z d)))) : OpD X ρ (rInT X.K) μ (.dat d) (.dat (.tuple ds)) P := fun R F H as σ y z S o1 o2 Q q =>
  ⟨d, ds, (S.rp o1).dp (shp1 hd).2, (S.rp o2).dp (shp1 he).2, (shp1 hd).1, (shp1 he).1, q _ F H as μ (.dat (.bool _)) S (Ext.refl F as) (okD (.bl _)) h⟩
theorem opd_niT {d : PyData} {ds : List PyData} (hd : shp d = true) (he : shp (.tuple ds) = true) (h : P μ (.dat (.bool (!ds.any fun z => PyData.eqv z d)))) : OpD X ρ (rNiT X.K) μ (.dat d) (.dat (.tuple ds)) P := fun R F H as σ y z S o1 o2 Q q =>
  ⟨d, ds, (S.rp o1).dp (shp1 hd).2, (S.rp o2).dp (shp1 he).2, (shp1 hd).1, (shp1 he).1, q _ F H as μ (.dat (.bool _)) S (Ext.refl F as) (okD (.bl _)) h⟩

/-! ### builtins by name -/
def CallD (X : Cx) (ρ : Rho) (r : List V → Hp → VK → Prop) (μ : Mu) (rs : List Rv) (P : PR) : Prop := ∀ R F H as σ vs, Sta X.K R F H as σ ρ μ → Paired (ROk X.K F as) vs rs → ∀ Q : VK, Post X.K R F as σ ρ P Q → r vs H Q
theorem dm_callB {id : String} {r : List V → Hp → VK → Prop} (hc : CallR X (.builtin id) r) (hg : Gl X x) (hm : X.mg x = none) (hv : bootBuiltins x = some (.builtin id)) (h : Am X ρ μ (e :: es) fun μ1 rs => CallD X ρ r μ1 rs P)
    (hn : x ≠ "__name__" := by decide) (hdb : (x == ("__debug__" : Str)) = false := by decide) (he : starEach (e :: es) X.env = (false, eval e X.env) :: starEach es X.env := by rfl) (hpl : (backTo pos (starEach es X.env)).any (·.1) = false := by rfl) :
    Dm X ρ μ (.Call (.Name x p) (e :: es) [] pos) P := fun R F H as σ S Q q => by
  refine We.of (pe_callB hc hg hm hv (Wa.pa X _) hn hdb he hpl) ?_
  refine h R F H as σ S _ fun vs F1 H1 as1 μ1 rs S1 x1 o1 h1 => ?_
  exact h1 R F1 H1 as1 σ vs S1 o1 Q (q.ext x1)
theorem dm_callTy {T : String} {r : List V → Hp → VK → Prop} (hc : CallR X (.type T) r) (hg : Gl X x) (hm : X.mg x = none) (hv : bootBuiltins x = some (.type T)) (h : Am X ρ μ (e :: es) fun μ1 rs => CallD X ρ r μ1 rs P)
    (hn : x ≠ "__name__" := by decide) (hdb : (x == ("__debug__" : Str)) = false := by decide) (he : starEach (e :: es) X.env = (false, eval e X.env) :: starEach es X.env := by rfl) (hpl : (backTo pos (starEach es X.env)).any (·.1) = false := by rfl) :
    Dm X ρ μ (.Call (.Name x p) (e :: es) [] pos) P := fun R F H as σ S Q q => by
  refine We.of (pe_callTy hc hg hm hv (Wa.pa X _) hn hdb he hpl) ?_
  refine h R F H as σ S _ fun vs F1 H1 as1 μ1 rs S1 x1 o1 h1 => ?_
  exact h1 R F1 H1 as1 σ vs S1 o1 Q (q.ext x1)
theorem paired1 {α β : Type} {G : α → β → Prop} {xs : List α} {y : β} (h : Paired G xs [y]) : ∃ x, xs = [x] ∧ G x y := by
  cases h with
  | cons h r =>
    cases r
    exact ⟨_, rfl, h⟩
theorem paired2 {α β : Type} {G : α → β → Prop} {xs : List α} {y z : β} (h : Paired G xs [y, z]) : ∃ x w, xs = [x, w] ∧ G x y ∧ G w z := by
  cases h with
  | cons h r =>
    obtain ⟨w, rfl, h2⟩ := paired1 r
    exact ⟨_, w, rfl, h, h2⟩
/-- a sequence's data -/
def seqD : PyData → Option (List PyData)
  | .tuple ds => some ds
  | .list ds => some ds
  | _ => none
theorem seq_rp {K : PySem.W.Frag} {F : Hp} {v : V} {d : PyData} {ds : List PyData} (h : Rp K F v d) (e : seqD d = some ds) : ∃ a xs, v = .ref a ∧ (SqL K F a xs ∨ SqT K F a xs) ∧ RpA K F xs ds := by
  cases d with
  | tuple es =>
    cases e
    obtain ⟨a, xs, rfl, h1, h2⟩ := h.tupE
    exact ⟨a, xs, rfl, .inr h1, h2⟩
  | list es =>
    cases e
    obtain ⟨a, xs, rfl, h1, h2⟩ := h.lstE
    exact ⟨a, xs, rfl, .inl h1, h2⟩
  | _ => cases e
theorem sq_or {K : PySem.W.Frag} {F H : Hp} (e : Same F H) {a : Addr} {xs : List V} (h : SqL K F a xs ∨ SqT K F a xs) : SqL K H a xs ∨ SqT K H a xs := h.imp (sq_up e) (st_up e)
/-- what stands in a list, a tuple, or a list of our own -/
inductive SeqR (μ : Mu) : Rv → List Rv → Prop
  | dat {d : PyData} {ds : List PyData} (h : seqD d = some ds) : SeqR μ (.dat d) (ds.map .dat)
  | own {n : Nat} {rs : List Rv} (h : μ[n]? = some (.L rs)) : SeqR μ (.own n) rs
  | ownZ {n : Nat} {ds : List PyData} (h : μ[n]? = some (.Z (.list ds))) : SeqR μ (.own n) (ds.map .dat)
theorem paired_of {K : PySem.W.Frag} {F : Hp} {as : List Addr} : ∀ {vs : List V} {ds : List PyData}, RpA K F vs ds → Paired (ROk K F as) vs (ds.map Rv.dat)
  | _, _, .nil => .nil
  | _, _, .cons h r => .cons (okD h) (paired_of r)
theorem SeqR.sq {K : PySem.W.Frag} {R F H : Hp} {as : List Addr} {σ : L2.St} {r : Rv} {rs : List Rv} (q : SeqR μ r rs) (S : Sta K R F H as σ ρ μ) {v : V} (o : ROk K F as v r) : ∃ a xs, v = .ref a ∧ (SqL K H a xs ∨ SqT K H a xs) ∧ Paired (ROk K F as) xs rs := by
  cases q with
  | dat h =>
    obtain ⟨a, xs, rfl, h1, h2⟩ := seq_rp o h
    exact ⟨a, xs, rfl, sq_or S.fh h1, paired_of h2⟩
  | own h =>
    obtain ⟨a, h1, rfl⟩ := o
    obtain ⟨vs, e1, e2, e3, e4⟩ := S.cel _ a _ h1 h
    exact ⟨a, vs, rfl, .inl (.inl (.inl e1)), e4⟩
  | ownZ h =>
    obtain ⟨a, h1, rfl⟩ := o
    obtain ⟨_, e1⟩ := S.cel _ a _ h1 h
    obtain ⟨a', xs, e, h9, h10⟩ := Rp.lstE e1
    cases e
    exact ⟨a, xs, rfl, .inl (sq_up S.fh h9), paired_of h10⟩
theorem dm_len (hg : Gl X "len") (hm : X.mg "len" = none) (h : Dm X ρ μ a fun μ1 r => ∃ rs, SeqR μ1 r rs ∧ P μ1 (.dat (.int rs.length))) (hs : starEach [a] X.env = (false, eval a X.env) :: starEach [] X.env := by rfl) : Dm X ρ μ (.Call (.Name "len" p) [a] [] pos) P :=
  dm_callB call_len_seq hg hm boot_len (am_cons (h.imp fun μ1 r h1 => am_nil (show CallD X ρ _ μ1 [r] P from fun R F H as σ vs S o Q q => by
    obtain ⟨rs, h2, h3⟩ := h1
    obtain ⟨v, rfl, o1⟩ := paired1 o
    obtain ⟨a, xs, rfl, h4, h5⟩ := h2.sq S o1
    refine ⟨a, xs, rfl, h4, ?_⟩
    rw [paired_len h5]
    exact q _ F H as μ1 (.dat (.int _)) S (Ext.refl F as) (okD (.int _)) h3)) hs) (he := hs)
/-- tuple(x), list(x) of data -/
inductive TupR (μ : Mu) : Rv → List PyData → Prop
  | tup {ds : List PyData} : TupR μ (.dat (.tuple ds)) ds
  | lst {ds : List PyData} : TupR μ (.dat (.list ds)) ds
  | own {n : Nat} {rs : List Rv} {ds : List PyData} (h : μ[n]? = some (.L rs)) (e : rs = ds.map Rv.dat) : TupR μ (.own n) ds
  | ownZ {n : Nat} {ds : List PyData} (h : μ[n]? = some (.Z (.list ds))) : TupR μ (.own n) ds
theorem TupR.seq {r : Rv} {ds : List PyData} (h : TupR μ r ds) : SeqR μ r (ds.map Rv.dat) := by
  cases h with
  | tup => exact .dat rfl
  | lst => exact .dat rfl
  | own h e => subst e; exact .own h
  | ownZ h => exact .ownZ h
theorem TupR.isl {K : PySem.W.Frag} {R F H : Hp} {as : List Addr} {σ : L2.St} {r : Rv} {ds : List PyData} (q : TupR μ r ds) (S : Sta K R F H as σ ρ μ) {v : V} (o : ROk K F as v r) :
    ∃ a xs, v = .ref a ∧ RpA K F xs ds ∧ (SqL K H a xs ∨ (SqT K H a xs ∧ Rp K F (.ref a) (.tuple ds))) := by
  cases q with
  | tup =>
    obtain ⟨a, xs, rfl, h1, h2⟩ := Rp.tupE o
    exact ⟨a, xs, rfl, h2, .inr ⟨st_up S.fh h1, o⟩⟩
  | lst =>
    obtain ⟨a, xs, rfl, h1, h2⟩ := Rp.lstE o
    exact ⟨a, xs, rfl, h2, .inl (sq_up S.fh h1)⟩
  | own h e =>
    subst e
    obtain ⟨a, h1, rfl⟩ := o
    obtain ⟨vs, e1, e2, e3, e4⟩ := S.cel _ a _ h1 h
    exact ⟨a, vs, rfl, rpA_of e4, .inl (.inl (.inl e1))⟩
  | ownZ h =>
    obtain ⟨a, h1, rfl⟩ := o
    obtain ⟨_, e1⟩ := S.cel _ a _ h1 h
    obtain ⟨a', xs, e, h9, h10⟩ := Rp.lstE e1
    cases e
    exact ⟨a, xs, rfl, h10, .inl (sq_up S.fh h9)⟩
theorem dm_tuple (hg : Gl X "tuple") (hm : X.mg "tuple" = none) (h : Dm X ρ μ a fun μ1 r => ∃ ds : List PyData, TupR μ1 r ds ∧ P μ1 (.dat (.tuple ds))) (hs : starEach [a] X.env = (false, eval a X.env) :: starEach [] X.env := by rfl) : Dm X ρ μ (.Call (.Name "tuple" p) [a] [] pos) P :=
  dm_callTy call_tuple_of hg hm (by decide +kernel) (am_cons (h.imp fun μ1 r h1 => am_nil (show CallD X ρ _ μ1 [r] P from fun R F H as σ vs S o Q q => by
    obtain ⟨ds, h2, h3⟩ := h1
    obtain ⟨v, rfl, o1⟩ := paired1 o
    obtain ⟨a, xs, rfl, h6, h4⟩ := h2.isl S o1
    refine ⟨a, xs, rfl, ?_⟩
    rcases h4 with h4 | ⟨h4, h7⟩
    · refine .inl ⟨h4, fun l hl => ?_⟩
      exact q _ _ _ as μ1 (.dat (.tuple ds)) (S.laid hl (.tup xs)) ⟨same_upd (fresh_of S.fh hl), List.prefix_refl _⟩ (okD (.tup upd_same (h6.mono (Gw.of (same_upd (fresh_of S.fh hl)))))) h3
    · exact .inr ⟨h4, q _ F H as μ1 (.dat (.tuple ds)) S (Ext.refl F as) (okD h7) h3⟩)) hs) (he := hs)
theorem dm_list (hg : Gl X "list") (hm : X.mg "list" = none) (h : Dm X ρ μ a fun μ1 r => ∃ ds : List PyData, TupR μ1 r ds ∧ P μ1 (.dat (.list ds))) (hs : starEach [a] X.env = (false, eval a X.env) :: starEach [] X.env := by rfl) : Dm X ρ μ (.Call (.Name "list" p) [a] [] pos) P :=
  dm_callTy call_list_of hg hm (by decide +kernel) (am_cons (h.imp fun μ1 r h1 => am_nil (show CallD X ρ _ μ1 [r] P from fun R F H as σ vs S o Q q => by
    obtain ⟨ds, h2, h3⟩ := h1
    obtain ⟨v, rfl, o1⟩ := paired1 o
    obtain ⟨a, xs, rfl, h6, h4⟩ := h2.isl S o1
    refine ⟨a, xs, rfl, h4.imp id (fun z => z.1), fun l hl => ?_⟩
    exact q _ _ _ as μ1 (.dat (.list ds)) (S.laid hl (.lst xs)) ⟨same_upd (fresh_of S.fh hl), List.prefix_refl _⟩ (okD (.lst (.inl (.inl upd_same)) (h6.mono (Gw.of (same_upd (fresh_of S.fh hl)))))) h3)) hs) (he := hs)
/-- int(a truth value), int(a whole number) -/
theorem dm_int1 (hg : Gl X "int") (hm : X.mg "int" = none) (h : Dm X ρ μ a (DatP fun μ1 d => match d with | .bool k => P μ1 (.dat (.int (if k then 1 else 0))) | .int i => P μ1 (.dat (.int i)) | _ => False)) (hs : starEach [a] X.env = (false, eval a X.env) :: starEach [] X.env := by rfl) : Dm X ρ μ (.Call (.Name "int" p) [a] [] pos) P :=
  dm_callTy call_int1 hg hm (by decide +kernel) (am_cons (h.imp fun μ1 r h1 => am_nil (show CallD X ρ _ μ1 [r] P from fun R F H as σ vs S o Q q => by
    obtain ⟨d, rfl, h2⟩ := h1
    obtain ⟨v, rfl, o1⟩ := paired1 o
    cases d with
    | bool k =>
      obtain rfl := Rp.blE o1
      exact .inr ⟨k, rfl, q _ F H as μ1 (.dat (.int _)) S (Ext.refl F as) (okD (.int _)) h2⟩
    | int i =>
      obtain rfl := Rp.intE o1
      exact .inl ⟨i, rfl, q _ F H as μ1 (.dat (.int _)) S (Ext.refl F as) (okD (.int _)) h2⟩
    | _ => exact h2.elim)) hs) (he := hs)
/-- isinstance -/
def dTy : PyData → String
  | .none => "NoneType"
  | .bool _ => "bool"
  | .int _ => "int"
  | .str _ => "str"
  | .list _ => "list"
  | .tuple _ => "tuple"
  | .dict _ => "dict"
theorem tyx {K : PySem.W.Frag} {F H : Hp} (e : Same F H) {v : V} {d : PyData} (h : Rp K F v d) (hd : noD d = true) : TyX K H v (.type (dTy d)) := by
  cases h with
  | non => exact .base .non
  | bl b => exact .base (.bl b)
  | int i => exact .base (.int i)
  | str x => exact .base (.str x)
  | lst h r =>
    rcases sq_up e h with (h | ⟨o, h⟩) | ⟨o, its, n, h, hc, _⟩
    · exact .base (.lst h)
    · exact .base (.frz h)
    · exact .kList h hc
  | tup h r => exact .base (.tup (e _ _ h))
  | tupK h k r =>
    obtain ⟨o, its, n, h, hc, _⟩ := h
    exact .kTuple h hc
  | dct h r => simp [noD] at hd
theorem dm_isi {T : String} {pt : Pos} {y : Str} (hg : Gl X "isinstance") (hm : X.mg "isinstance" = none) (hgT : Gl X y) (hmT : X.mg y = none) (hvT : bootBuiltins y = some (.type T)) (h : Dm X ρ μ a (DatP fun μ1 d => noD d = true ∧ ∃ k, kitB (dTy d) T = some k ∧ P μ1 (.dat (.bool k))))
    (hs : starEach [a, .Name y pt] X.env = (false, eval a X.env) :: starEach [.Name y pt] X.env := by rfl) (hs2 : starEach [.Name y pt] X.env = (false, eval (.Name y pt) X.env) :: starEach [] X.env := by rfl) (hpl : (backTo pos (starEach [.Name y pt] X.env)).any (·.1) = false := by rfl)
    (hn : y ≠ "__name__" := by decide) (hb : (y == ("__debug__" : Str)) = false := by decide) : Dm X ρ μ (.Call (.Name "isinstance" p) [a, .Name y pt] [] pos) P :=
  dm_callB call_isi hg hm (by decide +kernel) (am_cons (h.imp fun μ1 r h1 => am_cons (dm_blt (v := .ty T) hgT hmT hvT rfl (am_nil (show CallD X ρ _ μ1 [r, .raw (.ty T)] P from fun R F H as σ vs S o Q q => by
    obtain ⟨d, rfl, hd, k, h2, h3⟩ := h1
    obtain ⟨v, w, rfl, o1, o2⟩ := paired2 o
    obtain rfl : w = .ty T := o2
    exact ⟨v, .ty T, _, _, k, rfl, .ty T, tyx S.fh o1 hd, kit_ty h2, q _ F H as μ1 (.dat (.bool _)) S (Ext.refl F as) (okD (.bl _)) h3⟩)) hn hb) hs2) hs) (he := hs) (hpl := hpl)
/-- all, any of a list of truth values -/
theorem rpA_bools {K : PySem.W.Frag} {F : Hp} : ∀ {vs : List V} {bs : List Bool}, RpA K F vs (bs.map PyData.bool) → vs = bs.map V.bl
  | [], [], _ => rfl
  | _ :: _, b :: bs, .cons h r => by
    rw [Rp.blE h, rpA_bools r]
    rfl
theorem rpA_ints {K : PySem.W.Frag} {F : Hp} : ∀ {vs : List V} {bs : List Int}, RpA K F vs (bs.map PyData.int) → vs = bs.map V.int
  | [], [], _ => rfl
  | _ :: _, b :: bs, .cons h r => by
    rw [Rp.intE h, rpA_ints r]
    rfl
theorem dm_all (hg : Gl X "all") (hm : X.mg "all" = none) (hc : X.calm = true) (h : Dm X ρ μ a (LstP fun μ1 ds => ∃ bs : List Bool, ds = bs.map PyData.bool ∧ P μ1 (.dat (.bool (bs.all id))))) (hs : starEach [a] X.env = (false, eval a X.env) :: starEach [] X.env := by rfl) : Dm X ρ μ (.Call (.Name "all" p) [a] [] pos) P :=
  dm_callB (cr_all hc) hg hm (by decide +kernel) (am_cons (h.imp fun μ1 r h1 => am_nil (show CallD X ρ _ μ1 [r] P from fun R F H as σ vs S o Q q => by
    obtain ⟨ds, rfl, bs, rfl, h3⟩ := h1
    obtain ⟨v, rfl, o1⟩ := paired1 o
    obtain ⟨a, xs, rfl, h4, h5⟩ := Rp.lstE o1
    obtain rfl := rpA_bools h5
    exact ⟨a, bs, rfl, sq_up S.fh h4, q _ F H as μ1 (.dat (.bool _)) S (Ext.refl F as) (okD (.bl _)) h3⟩)) hs) (he := hs)
theorem dm_any (hg : Gl X "any") (hm : X.mg "any" = none) (hc : X.calm = true) (h : Dm X ρ μ a (LstP fun μ1 ds => ∃ bs : List Bool, ds = bs.map PyData.bool ∧ P μ1 (.dat (.bool (bs.any id))))) (hs : starEach [a] X.env = (false, eval a X.env) :: starEach [] X.env := by rfl) : Dm X ρ μ (.Call (.Name "any" p) [a] [] pos) P :=
  dm_callB (cr_any hc) hg hm (by decide +kernel) (am_cons (h.imp fun μ1 r h1 => am_nil (show CallD X ρ _ μ1 [r] P from fun R F H as σ vs S o Q q => by
    obtain ⟨ds, rfl, bs, rfl, h3⟩ := h1
    obtain ⟨v, rfl, o1⟩ := paired1 o
    obtain ⟨a, xs, rfl, h4, h5⟩ := Rp.lstE o1
    obtain rfl := rpA_bools h5
    exact ⟨a, bs, rfl, sq_up S.fh h4, q _ F H as μ1 (.dat (.bool _)) S (Ext.refl F as) (okD (.bl _)) h3⟩)) hs) (he := hs)

/-! ### slices -/
def Pm (X : Cx) (ρ : Rho) (μ : Mu) (o : Option Expr) (P : Mu → Option Int → Prop) : Prop := match o with
  | none => P μ none
  | some e => Dm X ρ μ e (IntP fun μ1 i => P μ1 (some i))
def tPm (X : Cx) (o : Option Expr) : TO := match o with
  | none => tNoPart
  | some e => tPart (We X e)
theorem po_m (X : Cx) (o : Option Expr) : PO X o (tPm X o) := match o with
  | none => po_none
  | some e => po_some (We.pe X e)
theorem pm_run {o : Option Expr} {f : Mu → Option Int → Prop} (h : Pm X ρ μ o f) {R F H as σ} (S : Sta X.K R F H as σ ρ μ) {Q : Option Int → Hp → Prop} (q : ∀ i F' H' as' μ', Sta X.K R F' H' as' σ ρ μ' → Ext F as F' as' → f μ' i → Q i H') : tPm X o σ H Q := by
  cases o with
  | none => exact q none F H as μ S (Ext.refl F as) h
  | some e =>
    refine h R F H as σ S _ fun v F1 H1 as1 μ1 r1 S1 x1 o1 h1 => ?_
    obtain ⟨i, rfl, h1⟩ := h1
    exact ⟨i, Rp.intE o1, q _ F1 H1 as1 μ1 S1 x1 h1⟩
def cutD {α : Type} (xs : List α) (lo hi : Option Int) : List α := (xs.drop (HT.sIx xs.length 0 lo)).take (HT.sIx xs.length xs.length hi - HT.sIx xs.length 0 lo)
theorem cut_rp {K : PySem.W.Frag} {F : Hp} {vs : List V} {ds : List PyData} {lo hi : Option Int} (r : RpA K F vs ds) : RpA K F (cutV vs lo hi) (cutD ds lo hi) := by
  unfold cutV cutD
  rw [r.length]
  exact (r.drop _).take _
theorem dm_slT {lo hi : Option Expr} {p2 : Pos} (h : Dm X ρ μ e (TupP fun μ1 ds => Pm X ρ μ1 lo fun μ2 l => Pm X ρ μ2 hi fun μ3 u => P μ3 (.dat (.tuple (cutD ds l u))))) : Dm X ρ μ (.Subscript e (.Slice lo hi none p2) pos) P := fun R F H as σ S Q q => by
  refine We.of (pe_slice sl_tupA (We.pe X e) (po_m X lo) (po_m X hi)) ?_
  refine h R F H as σ S _ fun v F1 H1 as1 μ1 r1 S1 x1 o1 h1 => ?_
  obtain ⟨ds, rfl, h1⟩ := h1
  refine pm_run h1 S1 fun l F2 H2 as2 μ2 S2 x2 h2 => pm_run h2 S2 fun u F3 H3 as3 μ3 S3 x3 h3 => ?_
  have o3 := (o1.ext x2).ext x3
  obtain ⟨a, xs, rfl, h4, h5⟩ := Rp.tupE o3
  have xx := (x1.trans x2).trans x3
  refine ⟨a, xs, rfl, st_up S3.fh h4, fun hw => ?_, fun _ p hp => ?_⟩
  · have e : cutD ds l u = ds := by
      unfold cutD
      rw [← h5.length, hw.1, hw.2, h5.length]
      simp
    rw [e] at h3
    exact q _ F3 H3 as3 μ3 (.dat (.tuple ds)) S3 xx o3 h3
  · exact q _ _ _ as3 μ3 (.dat (.tuple _)) (S3.laid hp (.tup _)) (xx.trans ⟨same_upd (fresh_of S3.fh hp), List.prefix_refl _⟩) (okD (.tup upd_same ((cut_rp h5).mono (Gw.of (same_upd (fresh_of S3.fh hp)))))) h3
/-- a list that is read: data, or a cell -/
inductive LstR (μ : Mu) : Rv → List Rv → Prop
  | dat {ds : List PyData} : LstR μ (.dat (.list ds)) (ds.map .dat)
  | own {n : Nat} {rs : List Rv} (h : μ[n]? = some (.L rs)) : LstR μ (.own n) rs
  | ownZ {n : Nat} {ds : List PyData} (h : μ[n]? = some (.Z (.list ds))) : LstR μ (.own n) (ds.map .dat)
theorem LstR.sq {K : PySem.W.Frag} {R F H : Hp} {as : List Addr} {σ : L2.St} {r : Rv} {rs : List Rv} (q : LstR μ r rs) (S : Sta K R F H as σ ρ μ) {v : V} (o : ROk K F as v r) : ∃ a xs, v = .ref a ∧ SqL K H a xs ∧ Paired (ROk K F as) xs rs := by
  cases q with
  | dat =>
    obtain ⟨a, xs, rfl, h1, h2⟩ := Rp.lstE o
    exact ⟨a, xs, rfl, sq_up S.fh h1, paired_of h2⟩
  | own h =>
    obtain ⟨a, h1, rfl⟩ := o
    obtain ⟨vs, e1, e2, e3, e4⟩ := S.cel _ a _ h1 h
    exact ⟨a, vs, rfl, .inl (.inl e1), e4⟩
  | ownZ h =>
    obtain ⟨a, h1, rfl⟩ := o
    obtain ⟨_, e1⟩ := S.cel _ a _ h1 h
    obtain ⟨a', xs, e, h9, h10⟩ := Rp.lstE e1
    cases e
    exact ⟨a, xs, rfl, sq_up S.fh h9, paired_of h10⟩
theorem dm_slL {lo hi : Option Expr} {p2 : Pos} (h : Dm X ρ μ e fun μ1 r => Pm X ρ μ1 lo fun μ2 l => Pm X ρ μ2 hi fun μ3 u => ∃ ds : List PyData, LstR μ3 r (ds.map .dat) ∧ P μ3 (.dat (.list (cutD ds l u)))) : Dm X ρ μ (.Subscript e (.Slice lo hi none p2) pos) P := fun R F H as σ S Q q => by
  refine We.of (pe_slice sl_list (We.pe X e) (po_m X lo) (po_m X hi)) ?_
  refine h R F H as σ S _ fun v F1 H1 as1 μ1 r1 S1 x1 o1 h1 => ?_
  refine pm_run h1 S1 fun l F2 H2 as2 μ2 S2 x2 h2 => pm_run h2 S2 fun u F3 H3 as3 μ3 S3 x3 h3 => ?_
  have o3 := (o1.ext x2).ext x3
  have xx := (x1.trans x2).trans x3
  obtain ⟨ds, h4, h5⟩ := h3
  obtain ⟨a, xs, rfl, h6, h7⟩ := h4.sq S3 o3
  refine ⟨a, xs, rfl, h6, fun p hp => ?_⟩
  exact q _ _ _ as3 μ3 (.dat (.list _)) (S3.laid hp (.lst _)) (xx.trans ⟨same_upd (fresh_of S3.fh hp), List.prefix_refl _⟩) (okD (.lst (.inl (.inl upd_same)) ((cut_rp (rpA_of h7)).mono (Gw.of (same_upd (fresh_of S3.fh hp)))))) h5

/-! ### + and * of tuples, lists -/
theorem opd_catT {ds es : List PyData} (hl : ds.length + es.length ≤ 1000) (h : P μ (.dat (.tuple (ds ++ es)))) : OpD X ρ (rCatA X.K) μ (.dat (.tuple ds)) (.dat (.tuple es)) P := fun R F H as σ y z S o1 o2 Q q => by
  obtain ⟨a, xs, rfl, h1, h2⟩ := Rp.tupE o1
  obtain ⟨b, ys, rfl, h3, h4⟩ := Rp.tupE o2
  have l1 := h2.length
  have l2 := h4.length
  refine ⟨a, b, xs, ys, rfl, rfl, st_up S.fh h1, st_up S.fh h3, Nat.le_of_lt (small1000 (by omega)), fun e => ?_, fun _ e => ?_, fun _ _ p hp => ?_⟩
  · subst e
    have : ds = [] := by
      cases ds with
      | nil => rfl
      | cons _ _ => simp at l1
    subst this
    exact q _ F H as μ (.dat (.tuple _)) S (Ext.refl F as) (okD o2) h
  · subst e
    have : es = [] := by
      cases es with
      | nil => rfl
      | cons _ _ => simp at l2
    subst this
    rw [List.append_nil] at h
    exact q _ F H as μ (.dat (.tuple _)) S (Ext.refl F as) (okD o1) h
  · exact q _ _ _ as μ (.dat (.tuple _)) (S.laid hp (.tup _)) ⟨same_upd (fresh_of S.fh hp), List.prefix_refl _⟩ (okD (.tup upd_same ((h2.append h4).mono (Gw.of (same_upd (fresh_of S.fh hp)))))) h
theorem rep_rp {K : PySem.W.Frag} {F : Hp} {vs : List V} {ds : List PyData} (r : RpA K F vs ds) : ∀ k : Nat, RpA K F (List.replicate k vs).flatten (List.replicate k ds).flatten
  | 0 => .nil
  | k + 1 => by
    rw [List.replicate_succ, List.replicate_succ, List.flatten_cons, List.flatten_cons]
    exact r.append (rep_rp r k)
theorem opd_repT {ds : List PyData} {k : Int} (hne : ds ≠ []) (h1 : 2 ≤ k) (h2 : k ≤ 1000) (hl : ds.length ≤ 1000) (h : P μ (.dat (.tuple (List.replicate k.toNat ds).flatten))) : OpD X ρ (rRepT X.K) μ (.dat (.tuple ds)) (.dat (.int k)) P := fun R F H as σ y z S o1 o2 Q q => by
  obtain ⟨a, xs, rfl, h3, h4⟩ := Rp.tupE o1
  obtain rfl := Rp.intE o2
  refine ⟨a, k, xs, rfl, rfl, st_up S.fh h3, fun e => ?_, h1, h2, by rw [h4.length]; exact hl, fun p hp => ?_⟩
  · subst e
    apply hne
    cases h4
    rfl
  · exact q _ _ _ as μ (.dat (.tuple _)) (S.laid hp (.tup _)) ⟨same_upd (fresh_of S.fh hp), List.prefix_refl _⟩ (okD (.tup upd_same ((rep_rp h4 _).mono (Gw.of (same_upd (fresh_of S.fh hp)))))) h
end
end BW

namespace BW
open PySem PySem.Spec PyProof.Rows L2

/-! ### what is walked -/
def Wi (X : Cx) (tg iter : Expr) : TI := fun σ H R => ∀ (pins : List (Addr × Obj)) (s : Shared), Inv X pins σ H s →
  wpAny (model X.prog X.w) X.A (eval iter X.env) (fun v s1 => wpAny (model X.prog X.w) X.A (pyIter v) (PIE X pins σ tg R) X.xe s1) X.xe s
theorem Wi.pi (X : Cx) (tg iter : Expr) : PI X tg iter (Wi X tg iter) := ⟨fun pins s _ _ _ I h => h pins s I⟩
theorem Wi.of {X : Cx} {tg iter : Expr} {t : TI} (h : PI X tg iter t) {σ : L2.St} {H : Hp} {R : It → Hp → Prop} (q : t σ H R) : Wi X tg iter σ H R := fun pins s I => h.run pins s σ H R I q
/-- the i-th datum: read where it stands, or a new tuple of what stands -/
def YRp (K : PySem.W.Frag) (Fb : Hp) (ds : List PyData) : Nat → Hp → V → Hp → Prop := fun i H x H' => ∃ d, ds[i]? = some d ∧
  ((H' = H ∧ Rp K Fb x d) ∨ (∃ T xs es, d = .tuple es ∧ x = .ref T ∧ H T = none ∧ H' = upd H T (.tup xs) ∧ RpA K Fb xs es) ∨
    (∃ q k, d = keyD k ∧ x = .ref q ∧ H q = some (.tup (k.map kV)) ∧ H' = H) ∨ (∃ T q k v d', d = .tuple [keyD k, d'] ∧ x = .ref T ∧ H q = some (.tup (k.map kV)) ∧ H T = none ∧ H' = upd H T (.tup [.ref q, v]) ∧ Rp K Fb v d') ∨
    ∃ T1 T xs es d', d = .tuple [d', .tuple es] ∧ (∃ v', Rp K Fb v' d' ∧ x = .ref T ∧ T ≠ T1 ∧ H T1 = none ∧ H T = none ∧ H' = upd (upd H T1 (.tup xs)) T (.tup [v', .ref T1])) ∧ RpA K Fb xs es)
def Yl (K : PySem.W.Frag) (J : It) (Fb : Hp) (ds : List PyData) : Prop := Walk J ds.length (fun H => Same Fb H) (YRp K Fb ds)
def Im (X : Cx) (ρ : Rho) (μ : Mu) (tg iter : Expr) (P : Mu → List PyData → Prop) : Prop := ∀ R F H as σ, Sta X.K R F H as σ ρ μ → ∀ Rk : It → Hp → Prop,
  (∀ J F' H' as' μ' ds, Sta X.K R F' H' as' σ ρ μ' → Ext F as F' as' → Yl X.K J F' ds → P μ' ds → Rk J H') → Wi X tg iter σ H Rk
section
variable {X : Cx} {ρ : Rho} {μ : Mu} {a b c e tg : Expr} {es : List Expr} {x : Str} {p pos : Pos} {J : Jm} {rest : List Stmt} {P : Mu → List PyData → Prop}
theorem yl_list {K : PySem.W.Frag} {F : Hp} {a : Addr} {xs : List V} {ds : List PyData} (h : SqL K F a xs) (r : RpA K F xs ds) : Yl K (Itl K a) F ds := by
  unfold Yl
  rw [← r.length]
  refine walk_list.mono (fun H e => sq_up e h) fun i H x H' hi _ y => ?_
  obtain ⟨d, h1, h2⟩ := r.get' y.2
  exact ⟨d, h1, .inl ⟨y.1, h2⟩⟩
theorem yl_tup {K : PySem.W.Frag} {F : Hp} {a : Addr} {xs : List V} {ds : List PyData} (h : SqT K F a xs) (r : RpA K F xs ds) : Yl K (Itt K a) F ds := by
  unfold Yl
  rw [← r.length]
  refine walk_tup.mono (fun H e => st_up e h) fun i H x H' hi _ y => ?_
  obtain ⟨d, h1, h2⟩ := r.get' y.2
  exact ⟨d, h1, .inl ⟨y.1, h2⟩⟩
theorem im_list (h : Dm X ρ μ e (LstP P)) : Im X ρ μ tg e P := fun R F H as σ S Rk q => by
  refine Wi.of (pi_list (We.pe X e)) ?_
  refine h R F H as σ S _ fun v F1 H1 as1 μ1 r1 S1 x1 o1 h1 => ?_
  obtain ⟨ds, rfl, h1⟩ := h1
  obtain ⟨a, xs, rfl, h2, h3⟩ := Rp.lstE o1
  exact ⟨a, rfl, ⟨xs, sq_up S1.fh h2⟩, q _ F1 H1 as1 μ1 ds S1 x1 (yl_list h2 h3) h1⟩
theorem im_tup (h : Dm X ρ μ e (TupP P)) : Im X ρ μ tg e P := fun R F H as σ S Rk q => by
  refine Wi.of (pi_tup (We.pe X e)) ?_
  refine h R F H as σ S _ fun v F1 H1 as1 μ1 r1 S1 x1 o1 h1 => ?_
  obtain ⟨ds, rfl, h1⟩ := h1
  obtain ⟨a, xs, rfl, h2, h3⟩ := Rp.tupE o1
  exact ⟨a, rfl, ⟨xs, st_up S1.fh h2⟩, q _ F1 H1 as1 μ1 ds S1 x1 (yl_tup h2 h3) h1⟩
def rangeD (lo : Int) (n : Nat) : List PyData := (List.range n).map fun i => .int (lo + (i : Nat))
theorem rangeD_get {lo : Int} {n i : Nat} (h : i < n) : (rangeD lo n)[i]? = some (.int (lo + (i : Nat))) := by
  unfold rangeD
  rw [List.getElem?_map, List.getElem?_range h]
  rfl
theorem rangeD_len (lo : Int) (n : Nat) : (rangeD lo n).length = n := by unfold rangeD; rw [List.length_map, List.length_range]
theorem yl_range {K : PySem.W.Frag} {F : Hp} {lo : Int} {n : Nat} : Yl K (Itr lo n) F (rangeD lo n) := by
  unfold Yl
  rw [rangeD_len]
  refine walk_range.mono (fun _ _ => True.intro) fun i H x H' hi _ y => ?_
  obtain ⟨e1, e2⟩ := y
  subst e1 e2
  exact ⟨_, rangeD_get hi, .inl ⟨rfl, .int _⟩⟩
theorem im_range1 (hg : Gl X "range") (hm : X.mg "range" = none) (h : Dm X ρ μ a (IntP fun μ1 n => 0 ≤ n ∧ n ≤ 1000000 ∧ P μ1 (rangeD 0 n.toNat))) (hs : starEach [a] X.env = [(false, eval a X.env)] := by rfl) : Im X ρ μ tg (.Call (.Name "range" p) [a] [] pos) P := fun R F H as σ S Rk q => by
  refine Wi.of (pi_range1 hg hm (pa_cons (We.pe X a) pa_nil hs) hs) ?_
  refine h R F H as σ S _ fun v F1 H1 as1 μ1 r1 S1 x1 o1 h1 => ?_
  obtain ⟨n, rfl, h0, hn, h1⟩ := h1
  obtain rfl := Rp.intE o1
  exact ⟨n, rfl, by omega, by omega, q _ F1 H1 as1 μ1 _ S1 x1 yl_range h1⟩
theorem im_range2 (hg : Gl X "range") (hm : X.mg "range" = none) (h : Dm X ρ μ a (IntP fun μ1 m => Dm X ρ μ1 b (IntP fun μ2 n => 0 ≤ m ∧ m ≤ 1000000 ∧ 0 ≤ n ∧ n ≤ 1000000 ∧ P μ2 (rangeD m (n - m).toNat)))) (hs : starEach [a, b] X.env = [(false, eval a X.env), (false, eval b X.env)] := by rfl)
    (hs2 : starEach [b] X.env = [(false, eval b X.env)] := by rfl) : Im X ρ μ tg (.Call (.Name "range" p) [a, b] [] pos) P := fun R F H as σ S Rk q => by
  refine Wi.of (pi_range2 hg hm (pa_cons (We.pe X a) (pa_cons (We.pe X b) pa_nil hs2) (hs.trans (by rw [hs2]))) hs hs2) ?_
  refine h R F H as σ S _ fun v F1 H1 as1 μ1 r1 S1 x1 o1 h1 => ?_
  obtain ⟨m, rfl, h1⟩ := h1
  refine h1 R F1 H1 as1 σ S1 _ fun w F2 H2 as2 μ2 r2 S2 x2 o2 h2 => ?_
  obtain ⟨n, rfl, h3, h4, h5, h6, h2⟩ := h2
  obtain rfl := Rp.intE o1
  obtain rfl := Rp.intE o2
  exact ⟨m, n, rfl, ⟨by omega, by omega, by omega, by omega⟩, q _ F2 H2 as2 μ2 _ S2 (x1.trans x2) yl_range h2⟩
def strD (z : Str) : List PyData := z.cps.toList.map fun c => .str ⟨#[c]⟩
theorem im_str (h : Dm X ρ μ e (StrP fun μ1 z => P μ1 (strD z))) : Im X ρ μ tg e P := fun R F H as σ S Rk q => by
  refine Wi.of (pi_str (We.pe X e)) ?_
  refine h R F H as σ S _ fun v F1 H1 as1 μ1 r1 S1 x1 o1 h1 => ?_
  obtain ⟨z, rfl, h1⟩ := h1
  obtain rfl := Rp.strE o1
  refine ⟨z, rfl, q _ F1 H1 as1 μ1 _ S1 x1 ?_ h1⟩
  unfold Yl
  have hl : (strD z).length = z.cps.size := by unfold strD; rw [List.length_map, Array.length_toList]
  rw [hl]
  refine walk_str.mono (fun _ _ => True.intro) fun i H x H' hi _ y => ?_
  obtain ⟨e1, c, e2, e3⟩ := y
  subst e1 e3
  refine ⟨.str ⟨#[c]⟩, ?_, .inl ⟨rfl, .str _⟩⟩
  unfold strD
  rw [List.getElem?_map, Array.getElem?_toList, e2]
  rfl
/-- pairs -/
def zipD (ds es : List PyData) : List PyData := (ds.zip es).map fun q => .tuple [q.1, q.2]
theorem zipD_len (ds es : List PyData) : (zipD ds es).length = min ds.length es.length := by unfold zipD; rw [List.length_map, List.length_zip]
theorem zipD_get {ds es : List PyData} {i : Nat} {d e : PyData} (h1 : ds[i]? = some d) (h2 : es[i]? = some e) : (zipD ds es)[i]? = some (.tuple [d, e]) := by
  unfold zipD
  rw [List.getElem?_map, (List.getElem?_zip_eq_some (z := (d, e))).mpr ⟨h1, h2⟩]
  rfl
theorem yl_zipL {K : PySem.W.Frag} {F : Hp} {a b : Addr} {xs ys : List V} {ds es : List PyData} (h : SqL K F a xs) (r : RpA K F xs ds) (h' : SqL K F b ys) (r' : RpA K F ys es) : Yl K (Itz K a b) F (zipD ds es) := by
  unfold Yl
  rw [zipD_len, ← r.length, ← r'.length]
  refine (walk_zip rfl).mono (fun H e => ⟨sq_up e h, sq_up e h'⟩) fun i H x H' hi _ y => ?_
  obtain ⟨T, v, w, h1, h2, h3, h4, h5⟩ := y
  obtain ⟨d, g1, g2⟩ := r.get' h4
  obtain ⟨e, g3, g4⟩ := r'.get' h5
  exact ⟨_, zipD_get g1 g3, .inr (.inl ⟨T, [v, w], [d, e], rfl, h1, h2, h3, .cons g2 (.cons g4 .nil)⟩)⟩
theorem im_zip {elts : List Expr} {kk : Nat} {tpos : Pos} (hg : Gl X "zip") (hm : X.mg "zip" = none) (h : Dm X ρ μ a (LstP fun μ1 ds => Dm X ρ μ1 b (LstP fun μ2 es => P μ2 (zipD ds es)))) (hs : starEach [a, b] X.env = (false, eval a X.env) :: starEach [b] X.env := by rfl)
    (hs2 : starEach [b] X.env = [(false, eval b X.env)] := by rfl) (hpl : (backTo pos (starEach [b] X.env)).any (·.1) = false := by rfl) : Im X ρ μ (.Tuple elts kk tpos) (.Call (.Name "zip" p) [a, b] [] pos) P := fun R F H as σ S Rk q => by
  refine Wi.of (pi_zip hg hm (pa_cons (We.pe X a) (pa_cons (We.pe X b) pa_nil hs2) hs) hs hpl) ?_
  refine h R F H as σ S _ fun v F1 H1 as1 μ1 r1 S1 x1 o1 h1 => ?_
  obtain ⟨ds, rfl, h1⟩ := h1
  refine h1 R F1 H1 as1 σ S1 _ fun w F2 H2 as2 μ2 r2 S2 x2 o2 h2 => ?_
  obtain ⟨es, rfl, h2⟩ := h2
  have o1 := o1.ext x2
  obtain ⟨a, xs, rfl, g1, g2⟩ := Rp.lstE o1
  obtain ⟨b, ys, rfl, g3, g4⟩ := Rp.lstE o2
  exact ⟨a, b, xs, ys, rfl, sq_up S2.fh g1, sq_up S2.fh g3, q _ F2 H2 as2 μ2 _ S2 (x1.trans x2) (yl_zipL g1 g2 g3 g4) h2⟩
def enumD (ds : List PyData) : List PyData := ds.mapIdx fun i d => .tuple [.int (i : Nat), d]
theorem enumD_len (ds : List PyData) : (enumD ds).length = ds.length := by unfold enumD; rw [List.length_mapIdx]
theorem enumD_get {ds : List PyData} {i : Nat} {d : PyData} (h : ds[i]? = some d) : (enumD ds)[i]? = some (.tuple [.int (i : Nat), d]) := by
  unfold enumD
  rw [List.getElem?_mapIdx, h]
  rfl
theorem im_enum {elts : List Expr} {kk : Nat} {tpos : Pos} (hg : Gl X "enumerate") (hm : X.mg "enumerate" = none) (h : Dm X ρ μ a (LstP fun μ1 ds => P μ1 (enumD ds))) (hs : starEach [a] X.env = [(false, eval a X.env)] := by rfl) :
    Im X ρ μ (.Tuple elts kk tpos) (.Call (.Name "enumerate" p) [a] [] pos) P := fun R F H as σ S Rk q => by
  refine Wi.of (pi_enum hg hm (pa_cons (We.pe X a) pa_nil hs) hs) ?_
  refine h R F H as σ S _ fun v F1 H1 as1 μ1 r1 S1 x1 o1 h1 => ?_
  obtain ⟨ds, rfl, h1⟩ := h1
  obtain ⟨a, xs, rfl, g1, g2⟩ := Rp.lstE o1
  refine ⟨a, xs, rfl, sq_up S1.fh g1, q _ F1 H1 as1 μ1 _ S1 x1 ?_ h1⟩
  unfold Yl
  rw [enumD_len, ← g2.length]
  refine walk_enum.mono (fun H e => sq_up e g1) fun i H x H' hi _ y => ?_
  obtain ⟨T, v, w, h1, h2, h3, h4, h5⟩ := y
  cases h4
  obtain ⟨d, k1, k2⟩ := g2.get' h5
  exact ⟨_, enumD_get k1, .inr (.inl ⟨T, [_, w], [_, d], rfl, h1, h2, h3, .cons (.int _) (.cons k2 .nil)⟩)⟩

/-! ### for -/
theorem rpA_kV {K : PySem.W.Frag} {F : Hp} : ∀ k : List Key, RpA K F (k.map kV) (k.map kD)
  | [] => .nil
  | .inl i :: k => .cons (.int i) (rpA_kV k)
  | .inr x :: k => .cons (.str x) (rpA_kV k)
/-- a tuple that stands is known from here on -/
theorem Sta.knowT {K : PySem.W.Frag} {R F H : Hp} {as : List Addr} {σ : L2.St} {q : Addr} {xs : List V} (S : Sta K R F H as σ ρ μ) (hq : H q = some (.tup xs)) : ∃ F', Sta K R F' H as σ ρ μ ∧ Ext F as F' as ∧ F' q = some (.tup xs) := by
  cases hF : F q with
  | some o =>
    have := S.fh q o hF
    rw [hq] at this
    cases this
    exact ⟨F, S, Ext.refl F as, hF⟩
  | none =>
    refine ⟨upd F q (.tup xs), ⟨S.rh, fun b u hb => ?_, fun b => ?_, S.nd, S.len, fun n a c h1 h2 => ?_, fun i r h => ?_, S.sl⟩, ⟨same_upd hF, List.prefix_refl _⟩, upd_same⟩
    · by_cases e : b = q
      · subst e
        rw [upd_same] at hb
        cases hb
        exact hq
      · rw [upd_ne e] at hb
        exact S.fh b u hb
    · by_cases e : b = q
      · subst e
        rw [upd_same]
        exact .inr (.inr ⟨_, rfl⟩)
      · rw [upd_ne e]
        exact S.dj b
    · have h := S.cel n a c h1 h2
      refine h.grow (same_upd hF) (List.prefix_refl _) (fun o h => h) fun hn => ?_
      have hne : a ≠ q := fun e => by
        subst e
        cases c with
        | L rs =>
          obtain ⟨vs, g1, _⟩ := h
          rw [hq] at g1
          cases g1
        | M kvs =>
          obtain ⟨ws, g1, _⟩ := h
          rw [hq] at g1
          cases g1
        | Q od vs kvs =>
          obtain ⟨g1, _⟩ := h
          rw [hq] at g1
          cases g1
        | Z d => exact h.1 hn
      rw [upd_ne hne]
      exact hn
    · obtain ⟨v, h1, h2⟩ := S.slt i r h
      exact ⟨v, h1, h2.mono (Gw.of (same_upd hF)) (List.prefix_refl _)⟩
theorem sta_yield {K : PySem.W.Frag} {R F0 F H H' : Hp} {as : List Addr} {σ : L2.St} {ds : List PyData} {i : Nat} {v : V} (S : Sta K R F H as σ ρ μ) (e : Same F0 F) (y : YRp K F0 ds i H v H') :
    ∃ F' d, Sta K R F' H' as σ ρ μ ∧ Ext F as F' as ∧ ds[i]? = some d ∧ Rp K F' v d := by
  obtain ⟨d, h1, h2⟩ := y
  rcases h2 with ⟨rfl, h2⟩ | ⟨T, xs, es, rfl, rfl, h2, rfl, h3⟩ | ⟨q, k, rfl, rfl, h2, rfl⟩ | ⟨T, q, k, v, d', rfl, rfl, h2, h3, rfl, h4⟩ | ⟨T1, T, xs, es, d', rfl, ⟨v', hv, rfl, hne, h2, h3, rfl⟩, h4⟩
  · exact ⟨F, d, S, Ext.refl F as, h1, h2.mono (Gw.of e)⟩
  · exact ⟨_, _, S.laid h2 (.tup xs), ⟨same_upd (fresh_of S.fh h2), List.prefix_refl _⟩, h1, .tup upd_same (h3.mono (Gw.of (e.trans (same_upd (fresh_of S.fh h2)))))⟩
  · obtain ⟨F', S', x', hq⟩ := S.knowT h2
    exact ⟨F', _, S', x', h1, .tup hq (rpA_kV k)⟩
  · obtain ⟨F', S', x', hq⟩ := S.knowT h2
    refine ⟨_, _, S'.laid h3 (.tup [.ref q, v]), x'.trans ⟨same_upd (fresh_of S'.fh h3), List.prefix_refl _⟩, h1, .tup upd_same ?_⟩
    have g := same_upd (o := HO.tup [.ref q, v]) (fresh_of S'.fh h3)
    exact .cons (.tup (g _ _ hq) (rpA_kV k)) (.cons (h4.mono (Gw.of (e.trans (x'.f.trans g)))) .nil)
  · have S1 := S.laid h2 (.tup xs)
    have h3' : upd H T1 (.tup xs) T = none := by rw [upd_ne hne]; exact h3
    have g1 := same_upd (o := HO.tup xs) (fresh_of S.fh h2)
    have g2 := same_upd (o := HO.tup [v', .ref T1]) (fresh_of S1.fh h3')
    refine ⟨_, _, S1.laid h3' (.tup [v', .ref T1]), ⟨g1.trans g2, List.prefix_refl _⟩, h1, .tup upd_same ?_⟩
    exact .cons (hv.mono (Gw.of (e.trans (g1.trans g2)))) (.cons (.tup (g2 _ _ upd_same) (h4.mono (Gw.of (e.trans (g1.trans g2))))) .nil)
theorem ds_for {body : List Stmt} (hp : PassesOwn (model X.prog X.w) X.A X.env X.xe) (h : Im X ρ μ tg e fun μ1 ds => ∃ I : Nat → Rho → Mu → Prop, I 0 ρ μ1 ∧
      (∀ i d ρ' μ', ds[i]? = some d → I i ρ' μ' → Gm X ρ' μ' tg (.dat d) fun ρ2 μ2 => Ds X ρ2 μ2 body { J with nx := I (i + 1), ct := I (i + 1), bk := fun ρ3 μ3 => Ds X ρ3 μ3 rest J }) ∧ ∀ ρ' μ', I ds.length ρ' μ' → Ds X ρ' μ' rest J)
    (hc : X.calm = true := by rfl) (hs : ∀ x, foldedSetIterable e X.env x = pure x := by intro _; rfl) : Ds X ρ μ (.For tg e body [] pos :: rest) J :=
  ds_cons_of (ps_for hp hc (Wi.pi X tg e) (Wg.pg X tg) (Wb.ps X body) hs) fun R F H as σ S D j => by
    refine h R F H as σ S _ fun It F1 H1 as1 μ1 ds S1 x1 y1 h1 => ?_
    obtain ⟨I, h0, ht, hd⟩ := h1
    refine for_it y1 (fun i σ' H' => ∃ F' as' ρ' μ', Sta X.K R F' H' as' σ' ρ' μ' ∧ Ext F1 as1 F' as' ∧ I i ρ' μ') ⟨F1, as1, ρ, μ1, S1, Ext.refl _ _, h0⟩ ?_ ?_ ?_
    · rintro i σ' H' hi ⟨F', as', ρ', μ', S', x', _⟩
      exact x'.f.trans S'.fh
    · rintro i v σ' H' H2 hi ⟨F', as', ρ', μ', S', x', hI⟩ y
      obtain ⟨F2, d, S2, x2, h2, o2⟩ := sta_yield S' x'.f y
      refine ht i d ρ' μ' h2 hI R F2 H2 as' σ' v S2 (okD o2) _ fun σ3 F3 H3 as3 ρ3 μ3 S3 x3 h3 => ?_
      have x123 := (x'.trans x2).trans x3
      refine h3 R F3 H3 as3 σ3 S3 _ ⟨?_, ?_, ?_, ?_⟩
      · intro σ4 F4 H4 as4 ρ4 μ4 S4 x4 h4
        exact ⟨F4, as4, ρ4, μ4, S4, x123.trans x4, h4⟩
      · exact (j.ext (x1.trans x123)).rt
      · intro σ4 F4 H4 as4 ρ4 μ4 S4 x4 h4
        exact h4 R F4 H4 as4 σ4 S4 D (j.ext (x1.trans (x123.trans x4)))
      · intro σ4 F4 H4 as4 ρ4 μ4 S4 x4 h4
        exact ⟨F4, as4, ρ4, μ4, S4, x123.trans x4, h4⟩
    · rintro σ' H' ⟨F', as', ρ', μ', S', x', hI⟩
      exact hd ρ' μ' hI R F' H' as' σ' S' D (j.ext (x1.trans x'))

/-! ### targets within a comprehension: only some slots change -/
def Agr (js : List Nat) (σ σ' : L2.St) : Prop := σ'.length = σ.length ∧ ∀ i, i ∉ js → σ'[i]? = σ[i]?
def Gj (X : Cx) (ρ : Rho) (μ : Mu) (t : Expr) (js : List Nat) (r : Rv) (N : Rho → Mu → Prop) : Prop := ∀ R F H as σ v, Sta X.K R F H as σ ρ μ → ROk X.K F as v r → ∀ Q : L2.St → Hp → Prop,
  (∀ σ' F' H' as' ρ' μ', Sta X.K R F' H' as' σ' ρ' μ' → Ext F as F' as' → Agr js σ σ' → N ρ' μ' → Q σ' H') → Wg X t v σ H Q
theorem gj_name {i : Nat} {r : Rv} {N : Rho → Mu → Prop} {js : List Nat} (hN : X.N.Nodup) (hi : X.N[i]? = some x) (h : N (ρ.set i (some r)) μ) (hj : i ∈ js := by decide) (hl : Nat.blt i ρ.length = true := by rfl) (hx : Loc X.env.scope x := by first | exact Or.inl rfl | exact Or.inr rfl)
    (hf : X.fn x = true ∨ X.env.scope.names.lookup x = some .local := by first | exact .inl rfl | exact .inr rfl | assumption) : Gj X ρ μ (.Name x pos) js r N := fun R F H as σ v S o Q q =>
  Wg.of (pg_name hN hi hx hf) (q _ F H as _ μ (S.store o (Nat.le_of_ble_eq_true hl)) (Ext.refl F as) ⟨by rw [List.length_set], fun k hk => List.getElem?_set_ne (fun e => hk (by rw [← e]; exact hj))⟩ h)
/-- (t1, t2, ..) = a tuple -/
def Gjs (X : Cx) (ρ : Rho) (μ : Mu) (ts : List Expr) (js : List Nat) (ds : List PyData) (N : Rho → Mu → Prop) : Prop := ∀ R F H as σ vs, Sta X.K R F H as σ ρ μ → RpA X.K F vs ds → ∀ Q : L2.St → Hp → Prop,
  (∀ σ' F' H' as' ρ' μ', Sta X.K R F' H' as' σ' ρ' μ' → Ext F as F' as' → Agr js σ σ' → N ρ' μ' → Q σ' H') → ∀ (pins : List (Addr × Obj)) (s : Shared) (us : List Value), Inv X pins σ H s → Vals vs us →
    wpAny (model X.prog X.w) X.A (assignInOrder ((assignEach ts X.env).map (·.2)) us) (fun _ s' => ∃ σ' H', Inv X pins σ' H' s' ∧ Q σ' H') X.xe s
theorem Agr.refl (js : List Nat) (σ : L2.St) : Agr js σ σ := ⟨rfl, fun _ _ => rfl⟩
theorem Agr.trans {js : List Nat} {σ σ1 σ2 : L2.St} (a : Agr js σ σ1) (b : Agr js σ1 σ2) : Agr js σ σ2 := ⟨b.1.trans a.1, fun i h => (b.2 i h).trans (a.2 i h)⟩
theorem gjs_nil {js : List Nat} {N : Rho → Mu → Prop} (h : N ρ μ) : Gjs X ρ μ [] js [] N := fun R F H as σ vs S r Q q pins s us I rv => by
  cases r
  exact pgs_nil.run pins s σ H [] us Q I rv ⟨rfl, q σ F H as ρ μ S (Ext.refl F as) (Agr.refl js σ) h⟩
theorem gjs_cons {t : Expr} {ts : List Expr} {js : List Nat} {d : PyData} {ds : List PyData} {N : Rho → Mu → Prop} (h : Gj X ρ μ t js (.dat d) fun ρ1 μ1 => Gjs X ρ1 μ1 ts js ds N)
    (hs : (assignEach (t :: ts) X.env).map (·.2) = assign t X.env :: (assignEach ts X.env).map (·.2) := by rfl) : Gjs X ρ μ (t :: ts) js (d :: ds) N := fun R F H as σ vs S r Q q pins s us I rv => by
  cases r with
  | cons r1 r2 =>
    cases rv with
    | cons u1 u2 =>
      rw [hs]
      refine assignInOrder_cons (thn ((Wg.pg X t).run pins s σ H _ _ (fun σ1 H1 => ∃ F1 as1 ρ1 μ1, Sta X.K R F1 H1 as1 σ1 ρ1 μ1 ∧ Ext F as F1 as1 ∧ Agr js σ σ1 ∧ Gjs X ρ1 μ1 ts js ds N) I u1 ?_) fun _ s1 ⟨σ1, H1, I1, F1, as1, ρ1, μ1, S1, x1, a1, h1⟩ => ?_)
      · exact h R F H as σ _ S (okD r1) _ fun σ' F' H' as' ρ' μ' S' x' a' n' => ⟨F', as', ρ', μ', S', x', a', n'⟩
      · exact h1 R F1 H1 as1 σ1 _ S1 (r2.mono (Gw.of x1.f)) Q (fun σ' F' H' as' ρ' μ' S' x' a' n' => q σ' F' H' as' ρ' μ' S' (x1.trans x') (a1.trans a') n') pins s1 _ I1 u2
theorem gj_tup {ts : List Expr} {k n : Nat} {js : List Nat} {ds : List PyData} {N : Rho → Mu → Prop} (h : Gjs X ρ μ ts js ds N) (hd : ds.length = n := by rfl) (hc : X.calm = true := by rfl) (hn : (assignEach ts X.env).length = n := by rfl)
    (hst : (assignEach ts X.env).findIdx? (·.1) = none := by rfl) : Gj X ρ μ (.Tuple ts k pos) js (.dat (.tuple ds)) N := fun R F H as σ v S o Q q => by
  have hg : PGs X ts (fun vs σ1 H1 Q1 => ∀ (pins : List (Addr × Obj)) (s : Shared) (us : List Value), Inv X pins σ1 H1 s → Vals vs us → wpAny (model X.prog X.w) X.A (assignInOrder ((assignEach ts X.env).map (·.2)) us) (fun _ s' => ∃ σ' H', Inv X pins σ' H' s' ∧ Q1 σ' H') X.xe s) :=
    ⟨fun pins s σ H vs us Q I r h => h pins s us I r⟩
  obtain ⟨a, xs, rfl, h1, h2⟩ := Rp.tupE o
  refine Wg.of (pg_tup hc hg hn hst) ⟨a, xs, rfl, st_up S.fh h1, h2.length.trans hd, ?_⟩
  exact h R F H as σ xs S h2 Q q
theorem gm_of_j {t : Expr} {js : List Nat} {r : Rv} {N : Rho → Mu → Prop} (h : Gj X ρ μ t js r N) : Gm X ρ μ t r N := fun R F H as σ v S o Q q => h R F H as σ v S o Q fun σ' F' H' as' ρ' μ' S' x' _ n' => q σ' F' H' as' ρ' μ' S' x' n'

/-! ### comprehensions -/
def wipeR (ρ : Rho) : List Nat → Rho
  | [] => ρ
  | v :: vs => (wipeR ρ vs).set v none
theorem wipe_in {σ : L2.St} {i : Nat} : ∀ {vs : List Nat}, i ∈ vs → (wipe σ vs)[i]? = if i < σ.length then some none else none
  | v :: vs, h => by
    unfold wipe
    by_cases e : v = i
    · subst e
      by_cases hl : v < σ.length
      · rw [List.getElem?_set_self (by rw [wipe_length]; exact hl), if_pos hl]
      · rw [if_neg hl, List.getElem?_eq_none (by rw [List.length_set, wipe_length]; omega)]
    · rw [List.getElem?_set_ne e]
      exact wipe_in ((List.mem_cons.mp h).resolve_left fun q => e q.symm)
theorem wipe_agr {σ σ' : L2.St} {vs : List Nat} (a : Agr vs (wipe σ vs) σ') : wipe σ' vs = wipe σ vs := by
  have hl : σ'.length = σ.length := by rw [a.1, wipe_length]
  refine List.ext_getElem? fun i => ?_
  by_cases h : i ∈ vs
  · rw [wipe_in h, wipe_in h, hl]
  · rw [wipe_out h, a.2 i h]
theorem wipeR_some {ρ : Rho} {i : Nat} {r : Rv} : ∀ {vs : List Nat}, (wipeR ρ vs)[i]? = some (some r) → ρ[i]? = some (some r) ∧ i ∉ vs
  | [], h => ⟨h, by simp⟩
  | v :: vs, h => by
    unfold wipeR at h
    by_cases e : v = i
    · subst e
      rw [List.getElem?_set] at h
      simp at h
    · rw [List.getElem?_set_ne e] at h
      obtain ⟨h1, h2⟩ := wipeR_some h
      exact ⟨h1, fun m => (List.mem_cons.mp m).elim (fun q => e q.symm) h2⟩
theorem wipeR_length (ρ : Rho) : ∀ vs : List Nat, (wipeR ρ vs).length = ρ.length
  | [] => rfl
  | v :: vs => by unfold wipeR; rw [List.length_set, wipeR_length ρ vs]
theorem Sta.wipe {K : PySem.W.Frag} {R F H : Hp} {as : List Addr} {σ : L2.St} (S : Sta K R F H as σ ρ μ) (vs : List Nat) : Sta K R F H as (L2.wipe σ vs) (wipeR ρ vs) μ := S.slots (by rw [wipe_length, wipeR_length, S.sl]) fun i r h => by
  obtain ⟨h1, h2⟩ := wipeR_some h
  obtain ⟨v, h3, h4⟩ := S.slt i r h1
  exact ⟨v, by rw [wipe_out h2]; exact h3, h4⟩
/-- the list that grows stands aside -/
theorem Sta.aside {K : PySem.W.Frag} {R F H : Hp} {as : List Addr} {σ : L2.St} (S : Sta K R F H as σ ρ μ) {D : Addr} {o : HO} (hD : H D = none) : Sta K (upd R D o) F (upd H D o) as σ ρ μ where
  rh := same_both S.rh D o
  fh := same_new S.fh hD
  dj := fun a => by
    by_cases e : a = D
    · subst e
      exact .inr (.inl (fresh_of S.fh hD))
    · rw [upd_ne e]
      exact S.dj a
  nd := S.nd
  len := S.len
  cel := fun n a c h1 h2 => by
    have h := S.cel n a c h1 h2
    have hne : a ≠ D := fun e => by
      subst e
      exact h.there S.fh hD
    cases c with
    | L rs =>
      obtain ⟨vs, g1, g2, g3, g4⟩ := h
      exact ⟨vs, by rw [upd_ne hne]; exact g1, g2, by rw [upd_ne hne]; exact g3, g4⟩
    | M rs =>
      obtain ⟨vs, g1, g2, g3, g4⟩ := h
      exact ⟨vs, by rw [upd_ne hne]; exact g1, g2, by rw [upd_ne hne]; exact g3, g4⟩
    | Q od vs kvs =>
      obtain ⟨g1, g2, g3, g4⟩ := h
      exact ⟨by rw [upd_ne hne]; exact g1, g2, by rw [upd_ne hne]; exact g3, g4⟩
    | Z d => exact h
  slt := S.slt
  sl := S.sl
theorem Sta.asideIs {K : PySem.W.Frag} {R F H : Hp} {as : List Addr} {σ : L2.St} {D : Addr} {o : HO} (S : Sta K (upd R D o) F H as σ ρ μ) (ho : ∀ xs, o ≠ .tup xs := by intro _ q; cases q) : H D = some o ∧ F D = none := by
  have e := S.rh D o upd_same
  refine ⟨e, ?_⟩
  have := S.dj D
  rw [upd_same] at this
  rcases this.resolve_left fun q => nomatch q with q | ⟨xs, q⟩
  · exact q
  · have e2 := S.fh D _ q
    rw [e] at e2
    exact absurd (Option.some.inj e2) (ho xs)
theorem Sta.asideSet {K : PySem.W.Frag} {R F H : Hp} {as : List Addr} {σ : L2.St} {D : Addr} {o o' : HO} (S : Sta K (upd R D o) F H as σ ρ μ) (ho : ∀ xs, o ≠ .tup xs := by intro _ q; cases q) : Sta K (upd R D o') F (upd H D o') as σ ρ μ where
  rh := fun a u h => by
    by_cases e : a = D
    · subst e
      rw [upd_same] at h ⊢
      exact h
    · rw [upd_ne e] at h ⊢
      exact S.rh a u (by rw [upd_ne e]; exact h)
  fh := fun a u h => by
    by_cases e : a = D
    · subst e
      rw [(S.asideIs ho).2] at h
      cases h
    · rw [upd_ne e]
      exact S.fh a u h
  dj := fun a => by
    by_cases e : a = D
    · subst e
      exact .inr (.inl (S.asideIs ho).2)
    · have := S.dj a
      rw [upd_ne e] at this ⊢
      exact this
  nd := S.nd
  len := S.len
  cel := fun n a c h1 h2 => by
    have h := S.cel n a c h1 h2
    cases c with
    | L rs =>
      obtain ⟨vs, g1, g2, g3, g4⟩ := h
      have hne : a ≠ D := fun e => by
        subst e
        rw [upd_same] at g3
        cases g3
      rw [upd_ne hne] at g3
      exact ⟨vs, by rw [upd_ne hne]; exact g1, g2, by rw [upd_ne hne]; exact g3, g4⟩
    | M rs =>
      obtain ⟨vs, g1, g2, g3, g4⟩ := h
      have hne : a ≠ D := fun e => by
        subst e
        rw [upd_same] at g3
        cases g3
      rw [upd_ne hne] at g3
      exact ⟨vs, by rw [upd_ne hne]; exact g1, g2, by rw [upd_ne hne]; exact g3, g4⟩
    | Q od vs kvs =>
      obtain ⟨g1, g2, g3, g4⟩ := h
      have hne : a ≠ D := fun e => by
        subst e
        rw [upd_same] at g3
        cases g3
      rw [upd_ne hne] at g3
      exact ⟨by rw [upd_ne hne]; exact g1, g2, by rw [upd_ne hne]; exact g3, g4⟩
    | Z d => exact h
  slt := S.slt
  sl := S.sl
/-- .. and comes back, as data or as a cell -/
theorem Sta.asideZ {K : PySem.W.Frag} {R F H : Hp} {as : List Addr} {σ : L2.St} {D : Addr} {o : HO} (S : Sta K (upd R D o) F H as σ ρ μ) (hR : R D = none) (ho : ∀ xs, o ≠ .tup xs := by intro _ q; cases q) : Sta K R (upd F D o) H as σ ρ μ := by
  obtain ⟨h1, h2⟩ := S.asideIs ho
  refine ⟨fun a u h => ?_, fun a u h => ?_, fun a => ?_, S.nd, S.len, fun n a c e1 e2 => ?_, fun i r h => ?_, S.sl⟩
  · by_cases e : a = D
    · subst e
      rw [hR] at h
      cases h
    · exact S.rh a u (by rw [upd_ne e]; exact h)
  · by_cases e : a = D
    · subst e
      rw [upd_same] at h
      cases h
      exact h1
    · rw [upd_ne e] at h
      exact S.fh a u h
  · by_cases e : a = D
    · subst e
      exact .inl hR
    · have := S.dj a
      rw [upd_ne e] at this ⊢
      exact this
  · have h := S.cel n a c e1 e2
    cases c with
    | L rs =>
      obtain ⟨vs, g1, g2, g3, g4⟩ := h
      have hne : a ≠ D := fun e => by
        subst e
        rw [upd_same] at g3
        cases g3
      rw [upd_ne hne] at g3
      exact ⟨vs, g1, by rw [upd_ne hne]; exact g2, g3, Paired.mapP g4 fun _ _ z => z.mono (Gw.of (same_upd h2)) (List.prefix_refl _)⟩
    | M rs =>
      obtain ⟨vs, g1, g2, g3, g4⟩ := h
      have hne : a ≠ D := fun e => by
        subst e
        rw [upd_same] at g3
        cases g3
      rw [upd_ne hne] at g3
      exact ⟨vs, g1, by rw [upd_ne hne]; exact g2, g3, Paired.mapP g4 fun _ _ z => ⟨z.1, z.2.mono (Gw.of (same_upd h2)) (List.prefix_refl _)⟩⟩
    | Q od vs kvs =>
      obtain ⟨g1, g2, g3, g4⟩ := h
      have hne : a ≠ D := fun e => by
        subst e
        rw [upd_same] at g3
        cases g3
      rw [upd_ne hne] at g3
      exact ⟨g1, by rw [upd_ne hne]; exact g2, g3, Paired.mapP g4 fun _ _ z => ⟨z.1, z.2.mono (Gw.of (same_upd h2)) (List.prefix_refl _)⟩⟩
    | Z d => exact ⟨fun q => h.1 (fresh_of (same_upd h2) q), h.2.mono (Gw.of (same_upd h2))⟩
  · obtain ⟨v, e1, e2⟩ := S.slt i r h
    exact ⟨v, e1, e2.mono (Gw.of (same_upd h2)) (List.prefix_refl _)⟩
theorem Sta.asideO {K : PySem.W.Frag} {R F H : Hp} {as : List Addr} {σ : L2.St} {D : Addr} {o : HO} {c : Cell} (S : Sta K (upd R D o) F H as σ ρ μ) (hR : R D = none) (hc : COk K R F H (as ++ [D]) D c) (ho : ∀ xs, o ≠ .tup xs := by intro _ q; cases q) : Sta K R F H (as ++ [D]) σ ρ (μ ++ [c]) := by
  obtain ⟨h1, h2⟩ := S.asideIs ho
  have cells : ∀ (n : Nat) (a : Addr) (c : Cell), as[n]? = some a → μ[n]? = some c → COk K R F H (as ++ [D]) a c ∧ a ≠ D := fun n a c e1 e2 => by
    have h := S.cel n a c e1 e2
    cases c with
    | L rs =>
      obtain ⟨vs, g1, g2, g3, g4⟩ := h
      have hne : a ≠ D := fun e => by
        subst e
        rw [upd_same] at g3
        cases g3
      rw [upd_ne hne] at g3
      exact ⟨⟨vs, g1, g2, g3, Paired.mapP g4 fun _ _ z => z.mono (Gw.refl F) (List.prefix_append _ _)⟩, hne⟩
    | M rs =>
      obtain ⟨vs, g1, g2, g3, g4⟩ := h
      have hne : a ≠ D := fun e => by
        subst e
        rw [upd_same] at g3
        cases g3
      rw [upd_ne hne] at g3
      exact ⟨⟨vs, g1, g2, g3, Paired.mapP g4 fun _ _ z => ⟨z.1, z.2.mono (Gw.refl F) (List.prefix_append _ _)⟩⟩, hne⟩
    | Q od vs kvs =>
      obtain ⟨g1, g2, g3, g4⟩ := h
      have hne : a ≠ D := fun e => by
        subst e
        rw [upd_same] at g3
        cases g3
      rw [upd_ne hne] at g3
      exact ⟨⟨g1, g2, g3, Paired.mapP g4 fun _ _ z => ⟨z.1, z.2.mono (Gw.refl F) (List.prefix_append _ _)⟩⟩, hne⟩
    | Z d => exact ⟨h, fun e => h.1 (by rw [e]; exact h2)⟩
  refine ⟨fun a u h => ?_, S.fh, fun a => ?_, ?_, ?_, fun n a c e1 e2 => ?_, fun i r h => ?_, S.sl⟩
  · by_cases e : a = D
    · subst e
      rw [hR] at h
      cases h
    · exact S.rh a u (by rw [upd_ne e]; exact h)
  · by_cases e : a = D
    · subst e
      exact .inl hR
    · have := S.dj a
      rw [upd_ne e] at this
      exact this
  · refine List.nodup_append.mpr ⟨S.nd, by simp, ?_⟩
    intro a ha b hb
    have : b = D := by simpa using hb
    subst this
    obtain ⟨n, hn⟩ := List.getElem?_of_mem ha
    have hl : n < μ.length := by rw [← S.len]; exact (List.getElem?_eq_some_iff.mp hn).1
    exact (cells n a μ[n] hn (List.getElem?_eq_getElem hl)).2
  · rw [List.length_append, List.length_append, S.len]
    rfl
  · by_cases hn : n < as.length
    · rw [List.getElem?_append_left hn] at e1
      rw [List.getElem?_append_left (by rw [← S.len]; exact hn)] at e2
      exact (cells n a c e1 e2).1
    · have h3 : as.length ≤ n := Nat.le_of_not_lt hn
      rw [List.getElem?_append_right h3] at e1
      rw [List.getElem?_append_right (by rw [← S.len]; exact h3), ← S.len] at e2
      have h4 : n - as.length = 0 := by
        have := (List.getElem?_eq_some_iff.mp e1).1
        simp at this
        exact this
      rw [h4] at e1 e2
      simp at e1 e2
      subst e1 e2
      exact hc
  · obtain ⟨v, e1, e2⟩ := S.slt i r h
    exact ⟨v, e1, e2.mono (Gw.refl F) (List.prefix_append _ _)⟩
end
/-- the tests of a clause -/
def Fm (X : Cx) (ρ : Rho) (μ : Mu) (ifs : List Expr) (P : Mu → Bool → Prop) : Prop := match ifs with
  | [] => P μ true
  | [c] => Tm X ρ μ c P
  | _ => False
def tFm (X : Cx) (ifs : List Expr) : TT := match ifs with
  | [] => tYes
  | [c] => Wt X c
  | _ => fun _ _ _ => False
theorem pts_fm (X : Cx) (ifs : List Expr) : PTs X ifs (tFm X ifs) := match ifs with
  | [] => pts_nil
  | [c] => pts_one (Wt.pt X c)
  | _ :: _ :: _ => ⟨fun _ _ _ _ _ _ h => h.elim⟩
structure Bx where
  s : Shared
  H : Hp
  C : Addr
  cl : List (Str × Addr)
  fp : List Addr
abbrev Bk (X : Cx) (scope : Scope) (b : Bx) : Cx := X.blk b.s b.H scope (compEnvC scope b.cl b.C X.env) b.fp
def WgB (X : Cx) (scope : Scope) (tg : Expr) : TG := fun v σ H Q => ∀ b : Bx, Wg (Bk X scope b) tg v σ H Q
def WfB (X : Cx) (scope : Scope) (ifs : List Expr) : TT := fun σ H Q => ∀ b : Bx, tFm (Bk X scope b) ifs σ H Q
def WeB (X : Cx) (scope : Scope) (e : Expr) : TE := fun σ H Q => ∀ b : Bx, We (Bk X scope b) e σ H Q
def WiB (X : Cx) (scope : Scope) (tg e : Expr) : TI := fun σ H Q => ∀ b : Bx, Wi (Bk X scope b) tg e σ H Q
section
variable {X : Cx} {ρ : Rho} {μ : Mu} {e elt tg iter : Expr} {ifs : List Expr} {pos : Pos} {P : PR}
theorem fm_run {Y : Cx} {f : Mu → Bool → Prop} (h : Fm Y ρ μ ifs f) {R F H as σ} (S : Sta Y.K R F H as σ ρ μ) {Q : Bool → Hp → Prop} (q : ∀ b F' H' as' μ', Sta Y.K R F' H' as' σ ρ μ' → Ext F as F' as' → f μ' b → Q b H') : tFm Y ifs σ H Q := by
  match ifs, h with
  | [], h => exact q true F H as μ S (Ext.refl F as) h
  | [c], h => exact h R F H as σ S Q q
/-- what one clause's loop does: I by the turn, the store, what is made -/
def Lc (X : Cx) (ρ : Rho) (scope : Scope) (vs : List Nat) (tg elt : Expr) (ifs : List Expr) (ds : List PyData) (I : Nat → Mu → List Rv → Prop) : Prop :=
  ∀ i d μ' acc, ds[i]? = some d → I i μ' acc → acc.length ≤ i → ∀ b : Bx, Gj (Bk X scope b) (wipeR ρ vs) μ' tg vs (.dat d) fun ρ2 μ2 =>
    ∀ b : Bx, Fm (Bk X scope b) ρ2 μ2 ifs fun μ3 k => (k = true → ∀ b : Bx, Dm (Bk X scope b) ρ2 μ3 elt fun μ4 r => I (i + 1) μ4 (acc ++ [r])) ∧ (k = false → I (i + 1) μ3 acc)
theorem lc_run {scope : Scope} {vs : List Nat} {ds : List PyData} {I : Nat → Mu → List Rv → Prop} (h : Lc X ρ scope vs tg elt ifs ds I) {R F1 H1 : Hp} {as1 : List Addr} {σ : L2.St} {μ1 : Mu} (S1 : Sta X.K R F1 H1 as1 σ ρ μ1) (h0 : I 0 μ1 []) (hlen : ds.length ≤ 1000000) {It : It} {C : Hp → Prop} (y : Walk It ds.length (fun H => Same F1 H ∧ C H) (YRp X.K F1 ds))
    (hC : ∀ i R' F' H' as' μ' acc, Sta X.K R' F' H' as' σ ρ μ' → Ext F1 as1 F' as' → I i μ' acc → C H') {D : Addr} (hD : H1 D = none) {Q : VK} (q : ∀ F' H' as' μ' ws acc, Sta X.K (upd R D (.lst ws)) F' H' as' σ ρ μ' → Ext F1 as1 F' as' → Paired (ROk X.K F' as') ws acc → acc.length ≤ ds.length → I ds.length μ' acc → Q (.ref D) H') :
    ∃ W : Nat → Nat → Hp → Prop, (∃ m, W 0 m (upd H1 D (.lst []))) ∧ ∀ i m H, W i m H →
      (It.stop i H ∧ Q (.ref D) H) ∨ (It.go i H ∧ ∃ Nx : Hp → Prop, (∀ H', Nx H' → ∃ m', m' < m ∧ W (i + 1) m' H') ∧ ∀ x H', It.yld i H x H' → WgB X scope tg x (L2.wipe σ vs) H' fun σ2 H2 => L2.wipe σ2 vs = L2.wipe σ vs ∧ WfB X scope ifs σ2 H2 fun b H3 =>
            if b = true then WeB X scope elt σ2 H3 fun z H4 => ∃ acc, H4 D = some (.lst acc) ∧ acc.length < sizeLine ∧ Nx (upd H4 D (.lst (acc ++ [z]))) else Nx H3) := by
  refine lc_it (g := WgB X scope tg) (tt := WfB X scope ifs) (te := WeB X scope elt) (vs := vs) (σ := σ) (Qd := Q (.ref D)) y (fun i H => ∃ F' as' μ' ws acc, Sta X.K (upd R D (.lst ws)) F' H as' σ ρ μ' ∧ Ext F1 as1 F' as' ∧ Paired (ROk X.K F' as') ws acc ∧ acc.length ≤ i ∧ I i μ' acc) ⟨F1, as1, μ1, [], [], S1.aside hD, Ext.refl _ _, .nil, Nat.le_refl _, h0⟩ ?_ ?_ ?_
  · rintro i H hi ⟨F', as', μ', ws, acc, S', x', _, _, hI⟩
    exact ⟨x'.f.trans S'.fh, hC i _ F' H as' μ' acc S' x' hI⟩
  · rintro i v H H' hi ⟨F', as', μ', ws, acc, S', x', pa, hl, hI⟩ yy b
    obtain ⟨F2, d, S2, x2, h2, o2⟩ := sta_yield S' x'.f yy
    refine h i d μ' acc h2 hI hl b _ F2 H' as' _ v (S2.wipe vs) (okD o2) _ fun σ3 F3 H3 as3 ρ3 μ3 S3 x3 ag h3 => ?_
    refine ⟨wipe_agr ag, fun b => ?_⟩
    refine fm_run (h3 b) S3 fun k F4 H4 as4 μ4 S4 x4 h4 => ?_
    have x24 := (x2.trans x3).trans x4
    have hz : acc.length < sizeLine := by
      rw [sizeLine_eq]
      omega
    cases k with
    | true =>
      rw [if_pos rfl]
      intro b
      refine h4.1 rfl b _ F4 H4 as4 σ3 S4 _ fun z F5 H5 as5 μ5 r5 S5 x5 o5 h5 => ?_
      have x25 := x24.trans x5
      refine ⟨ws, S5.asideIs.1, by rw [paired_len pa]; exact hz, F5, as5, μ5, ws ++ [z], acc ++ [r5], ?_, x'.trans x25, ?_, ?_, h5⟩
      · exact S5.asideSet.slots S'.sl fun j r hj => by
          obtain ⟨v, e1, e2⟩ := S'.slt j r hj
          exact ⟨v, e1, e2.ext x25⟩
      · exact (Paired.mapP pa fun _ _ z => z.ext x25).snoc o5
      · rw [List.length_append]
        show acc.length + 1 ≤ i + 1
        omega
    | false =>
      rw [if_neg Bool.false_ne_true]
      refine ⟨F4, as4, μ4, ws, acc, ?_, x'.trans x24, Paired.mapP pa fun _ _ z => z.ext x24, Nat.le_succ_of_le hl, h4.2 rfl⟩
      exact S4.slots S'.sl fun j r hj => by
        obtain ⟨v, e1, e2⟩ := S'.slt j r hj
        exact ⟨v, e1, e2.ext x24⟩
  · rintro H ⟨F', as', μ', ws, acc, S', x', pa, hl, hI⟩
    exact q F' H as' μ' ws acc S' x' pa hl hI
/-- [elt for tg in iter if ..]: data at once -/
def LcP (X : Cx) (ρ : Rho) (scope : Scope) (vs : List Nat) (tg elt : Expr) (ifs : List Expr) (P : Mu → List Rv → Prop) : Mu → List PyData → Prop := fun μ1 ds => ds.length ≤ 1000000 ∧
  ∃ I : Nat → Mu → List Rv → Prop, I 0 μ1 [] ∧ Lc X ρ scope vs tg elt ifs ds I ∧ ∀ μ' acc, I ds.length μ' acc → P μ' acc
def tLcM (X : Cx) (scope : Scope) (vs : List Nat) (tg iter elt : Expr) (ifs : List Expr) : TE := tLc (Wi X tg iter) (WgB X scope tg) (WfB X scope ifs) (WeB X scope elt) vs
theorem pe_lcM {scope : Scope} {own : List (Str × Nat)} (hN : X.N.Nodup) (ok : BlkOk X.N X.env.scope scope own) (hc : X.calm = true) (hs : ∀ x, foldedSetIterable iter X.env x = pure x) : PE X (.ListComp elt [⟨tg, iter, ifs, 0⟩] scope pos) (tLcM X scope (own.map (·.2)) tg iter elt ifs) :=
  pe_lc hc hN (Wi.pi X tg iter) ok (fun s H C cl fp => ⟨fun pins s' σ H' v u Q I r h => h ⟨s, H, C, cl, fp⟩ pins s' u I r⟩) (fun s H C cl fp => ⟨fun pins s' σ H' Q I h => (pts_fm _ ifs).run pins s' σ H' Q I (h ⟨s, H, C, cl, fp⟩)⟩) (fun s H C cl fp => ⟨fun pins s' σ H' Q I h => h ⟨s, H, C, cl, fp⟩ pins s' I⟩) hs
theorem lcM_run {scope : Scope} {vs : List Nat} {P : Mu → List Rv → Prop} (h : Im X ρ μ tg iter (LcP X ρ scope vs tg elt ifs P)) {R F H as σ} (S : Sta X.K R F H as σ ρ μ) {Q : VK}
    (q : ∀ D F' H' as' μ' ws acc, R D = none → Sta X.K (upd R D (.lst ws)) F' H' as' σ ρ μ' → Ext F as F' as' → Paired (ROk X.K F' as') ws acc → P μ' acc → Q (.ref D) H') : tLcM X scope vs tg iter elt ifs σ H Q := by
  refine h R F H as σ S _ fun It F1 H1 as1 μ1 ds S1 x1 y1 h1 => ?_
  obtain ⟨hl, I, h0, hL, hd⟩ := h1
  intro D hD
  exact lc_run (C := fun _ => True) hL S1 h0 hl (y1.mono (fun _ z => z.1) fun _ _ _ _ _ _ z => z) (fun _ _ _ _ _ _ _ _ _ _ => True.intro) hD fun F' H' as' μ' ws acc S' x' pa _ hI => q D F' H' as' μ' ws acc (fresh_of S1.rh hD) S' (x1.trans x') pa (hd μ' acc hI)
theorem post_lcZ {R F : Hp} {as : List Addr} {σ : L2.St} {Q : VK} (q : Post X.K R F as σ ρ P Q) {D : Addr} {F' H' : Hp} {as' : List Addr} {μ' : Mu} {ws : List V} {ds : List PyData} (hR : R D = none) (S : Sta X.K (upd R D (.lst ws)) F' H' as' σ ρ μ') (x : Ext F as F' as') (pa : Paired (ROk X.K F' as') ws (ds.map Rv.dat)) (h : P μ' (.dat (.list ds))) : Q (.ref D) H' := by
  have hF := S.asideIs.2
  exact q _ _ H' as' μ' _ (S.asideZ hR) (x.trans ⟨same_upd hF, List.prefix_refl _⟩) (okD (.lst (.inl (.inl upd_same)) ((rpA_of pa).mono (Gw.of (same_upd hF))))) h
theorem post_lcO {R F : Hp} {as : List Addr} {σ : L2.St} {Q : VK} (q : Post X.K R F as σ ρ P Q) {D : Addr} {F' H' : Hp} {as' : List Addr} {μ' : Mu} {ws : List V} {acc : List Rv} (hR : R D = none) (S : Sta X.K (upd R D (.lst ws)) F' H' as' σ ρ μ') (x : Ext F as F' as') (pa : Paired (ROk X.K F' as') ws acc) (h : P (μ' ++ [.L acc]) (.own μ'.length)) : Q (.ref D) H' := by
  obtain ⟨hH, hF⟩ := S.asideIs
  refine q _ F' H' (as' ++ [D]) _ (.own μ'.length) (S.asideO hR (c := .L acc) ⟨ws, hH, hF, hR, Paired.mapP pa fun _ _ z => z.mono (Gw.refl _) (List.prefix_append _ _)⟩) (x.trans ⟨Same.refl _, List.prefix_append _ _⟩) ⟨D, ?_, rfl⟩ h
  rw [← S.len]
  simp
theorem dm_lc {scope : Scope} {own : List (Str × Nat)} (hN : X.N.Nodup) (ok : BlkOk X.N X.env.scope scope own) (h : Im X ρ μ tg iter (LcP X ρ scope (own.map (·.2)) tg elt ifs fun μ' acc => ∃ ds : List PyData, acc = ds.map Rv.dat ∧ P μ' (.dat (.list ds)))) (hc : X.calm = true := by rfl)
    (hs : ∀ x, foldedSetIterable iter X.env x = pure x := by intro _; rfl) : Dm X ρ μ (.ListComp elt [⟨tg, iter, ifs, 0⟩] scope pos) P := fun R F H as σ S Q q =>
  We.of (pe_lcM hN ok hc hs) (lcM_run h S fun D F' H' as' μ' ws acc hR S' x' pa h' => by
    obtain ⟨ds, rfl, h'⟩ := h'
    exact post_lcZ q hR S' x' pa h')
theorem dm_lcO {scope : Scope} {own : List (Str × Nat)} (hN : X.N.Nodup) (ok : BlkOk X.N X.env.scope scope own) (h : Im X ρ μ tg iter (LcP X ρ scope (own.map (·.2)) tg elt ifs fun μ' acc => P (μ' ++ [.L acc]) (.own μ'.length))) (hc : X.calm = true := by rfl)
    (hs : ∀ x, foldedSetIterable iter X.env x = pure x := by intro _; rfl) : Dm X ρ μ (.ListComp elt [⟨tg, iter, ifs, 0⟩] scope pos) P := fun R F H as σ S Q q =>
  We.of (pe_lcM hN ok hc hs) (lcM_run h S fun D F' H' as' μ' ws acc hR S' x' pa h' => post_lcO q hR S' x' pa h')
/-- name = [..], the name a local that the comprehension does not read -/
theorem ds_setLc {scope : Scope} {own : List (Str × Nat)} {i : Nat} {y : Str} {py spos : Pos} {J : Jm} {rest : List Stmt} (hN : X.N.Nodup) (ok : BlkOk X.N X.env.scope scope own) (hy : X.N[i]? = some y)
    (h : Im X ρ μ tg iter (LcP X ρ scope (own.map (·.2)) tg elt ifs fun μ' acc => (∃ ds : List PyData, acc = ds.map Rv.dat ∧ Ds X (ρ.set i (some (.dat (.list ds)))) μ' rest J) ∨ Ds X (ρ.set i (some (.own μ'.length))) (μ' ++ [.L acc]) rest J))
    (hli : Nat.blt i ρ.length = true := by rfl) (hyl : X.env.scope.names.lookup y = some .local := by rfl)
    (hsw : swapsWith (.ListComp elt [⟨tg, iter, ifs, 0⟩] scope pos) (some (.Name y py)) spos.line X.env = pure true := by exact sw_true rfl rfl rfl (by decide +kernel)) (hc : X.calm = true := by rfl)
    (hs : ∀ x, foldedSetIterable iter X.env x = pure x := by intro _; rfl) : Ds X ρ μ (.Assign [.Name y py] (.ListComp elt [⟨tg, iter, ifs, 0⟩] scope pos) spos :: rest) J :=
  ds_cons_of (ps_setLc hc hN hy hyl hsw (Wi.pi X tg iter) ok (fun s H C cl fp => ⟨fun pins s' σ H' v u Q I r h => h ⟨s, H, C, cl, fp⟩ pins s' u I r⟩) (fun s H C cl fp => ⟨fun pins s' σ H' Q I h => (pts_fm _ ifs).run pins s' σ H' Q I (h ⟨s, H, C, cl, fp⟩)⟩) (fun s H C cl fp => ⟨fun pins s' σ H' Q I h => h ⟨s, H, C, cl, fp⟩ pins s' I⟩) hs)
    fun R F H as σ S D j => lcM_run (Q := fun x H1 => gName i x σ H1 _) h S fun a F' H' as' μ' ws acc hR S' x' pa h' => by
      rcases h' with ⟨ds, rfl, h'⟩ | h'
      · have hF := S'.asideIs.2
        exact h' R _ H' as' _ ((S'.asideZ hR).store (okD (.lst (.inl (.inl upd_same)) ((rpA_of pa).mono (Gw.of (same_upd hF))))) (Nat.le_of_ble_eq_true hli)) D (j.ext (x'.trans ⟨same_upd hF, List.prefix_refl _⟩))
      · obtain ⟨hH, hF⟩ := S'.asideIs
        have S2 := S'.asideO hR (c := .L acc) ⟨ws, hH, hF, hR, Paired.mapP pa fun _ _ z => z.mono (Gw.refl _) (List.prefix_append _ _)⟩
        refine h' R F' H' (as' ++ [a]) _ (S2.store ⟨a, ?_, rfl⟩ (Nat.le_of_ble_eq_true hli)) D (j.ext (x'.trans ⟨Same.refl _, List.prefix_append _ _⟩))
        rw [← S'.len]
        simp
end
end BW

namespace BW
open PySem PySem.Spec PyProof.Rows L2

/-! ### sizes -/
def Bd (b : Nat) (q : Rat) : Prop := q.num.natAbs < 2 ^ b ∧ q.den < 2 ^ b
theorem Bd.mono {b c : Nat} {q : Rat} (h : Bd b q) (l : b ≤ c) : Bd c q := ⟨Nat.lt_of_lt_of_le h.1 (Nat.pow_le_pow_right (by decide) l), Nat.lt_of_lt_of_le h.2 (Nat.pow_le_pow_right (by decide) l)⟩
theorem lg {n b : Nat} (h : n < 2 ^ b) : n.log2 ≤ b := by
  by_cases z : n = 0
  · subst z
    simp
  · exact Nat.le_of_lt ((Nat.log2_lt z).mpr h)
theorem Bd.sm {b : Nat} {q : Rat} (h : Bd b q) (l : b ≤ 40000000) : Sm q := ⟨Nat.le_trans (lg h.1) l, Nat.le_trans (lg h.2) l⟩
theorem divInt_le (m n : Int) (hn : n ≠ 0) : (Rat.divInt m n).num.natAbs ≤ m.natAbs ∧ (Rat.divInt m n).den ≤ n.natAbs := by
  constructor
  · rw [Rat.num_divInt, Int.natAbs_ediv_of_dvd]
    · refine Nat.le_trans (Nat.div_le_self _ _) ?_
      rw [Int.natAbs_mul]
      have : n.sign.natAbs ≤ 1 := by
        rcases Int.lt_trichotomy n 0 with h | h | h
        · rw [Int.sign_eq_neg_one_of_neg h]
          decide
        · exact absurd h hn
        · rw [Int.sign_eq_one_of_pos h]
          decide
      calc n.sign.natAbs * m.natAbs ≤ 1 * m.natAbs := Nat.mul_le_mul_right _ this
        _ = m.natAbs := Nat.one_mul _
    · exact Int.dvd_trans (Int.gcd_dvd_right n m) (Int.dvd_mul_left _ _)
  · rw [Rat.den_divInt, if_neg hn]
    exact Nat.div_le_self _ _
theorem Bd.div {b : Nat} {m n : Int} (hn : n ≠ 0) (h1 : m.natAbs < 2 ^ b) (h2 : n.natAbs < 2 ^ b) : Bd b (Rat.divInt m n) := by
  obtain ⟨a, c⟩ := divInt_le m n hn
  exact ⟨Nat.lt_of_le_of_lt a h1, Nat.lt_of_le_of_lt c h2⟩
theorem pow2_mul {x y a b : Nat} (h1 : x < 2 ^ a) (h2 : y < 2 ^ b) : x * y < 2 ^ (a + b) := by
  rw [Nat.pow_add]
  exact Nat.mul_lt_mul'' h1 h2
theorem Bd.add {a b : Nat} {x y : Rat} (h : Bd a x) (h' : Bd b y) : Bd (a + b + 1) (x + y) := by
  rw [← rt_add]
  have e : (2 : Nat) ^ (a + b + 1) = 2 ^ (a + b) + 2 ^ (a + b) := by rw [Nat.pow_succ]; omega
  refine Bd.div (Int.mul_ne_zero (den_ne x) (den_ne y)) ?_ ?_
  · have h1 := pow2_mul h.1 h'.2
    have h2 := pow2_mul h'.1 h.2
    rw [Nat.add_comm b a] at h2
    have := Int.natAbs_add_le (x.num * y.den) (y.num * x.den)
    rw [Int.natAbs_mul, Int.natAbs_mul, Int.natAbs_natCast, Int.natAbs_natCast] at this
    rw [e]
    omega
  · rw [Int.natAbs_mul, Int.natAbs_natCast, Int.natAbs_natCast, e]
    have := pow2_mul h.2 h'.2
    omega
theorem Bd.neg {a : Nat} {x : Rat} (h : Bd a x) : Bd a (-x) := by
  unfold Bd
  rw [Rat.neg_num, Rat.neg_den, Int.natAbs_neg]
  exact h
theorem Bd.sub {a b : Nat} {x y : Rat} (h : Bd a x) (h' : Bd b y) : Bd (a + b + 1) (x - y) := by
  rw [Rat.sub_eq_add_neg]
  exact h.add h'.neg
theorem Bd.mul {a b : Nat} {x y : Rat} (h : Bd a x) (h' : Bd b y) : Bd (a + b) (x * y) := by
  rw [← rt_mul]
  refine Bd.div (Int.mul_ne_zero (den_ne x) (den_ne y)) ?_ ?_
  · rw [Int.natAbs_mul]
    exact pow2_mul h.1 h'.1
  · rw [Int.natAbs_mul, Int.natAbs_natCast, Int.natAbs_natCast]
    exact pow2_mul h.2 h'.2
theorem Bd.dvd {a b : Nat} {x y : Rat} (hy : y ≠ 0) (h : Bd a x) (h' : Bd b y) : Bd (a + b) (x / y) := by
  rw [← rt_div]
  refine Bd.div (Int.mul_ne_zero (den_ne x) (fun z => hy (Rat.num_eq_zero.mp z))) ?_ ?_
  · rw [Int.natAbs_mul, Int.natAbs_natCast]
    exact pow2_mul h.1 h'.2
  · rw [Int.natAbs_mul, Int.natAbs_natCast]
    exact pow2_mul h.2 h'.1
theorem Bd.zero : Bd 1 0 := ⟨by decide, by decide⟩
theorem Bd.one : Bd 1 1 := ⟨by decide, by decide⟩
theorem Bd.int {b : Nat} {i : Int} (h : i.natAbs < 2 ^ b) (hb : 1 ≤ b) : Bd b (i : Rat) := ⟨by simpa using h, by simpa using Nat.one_lt_two_pow (by omega)⟩
theorem CMulB.of {i j : Int} {a b : Nat} (h1 : i.natAbs < 2 ^ a) (h2 : j.natAbs < 2 ^ b) (hl : a + b < 100000000) : CMulB i j := by
  have := lg h1
  have := lg h2
  unfold CMulB
  omega

section
variable {P : Program} {w : World} {K : PySem.W.Frag} {mg : Str → Option Value} {base : Heap}
variable {X : Cx} {ρ : Rho} {μ : Mu} {Q : PR}
theorem dmZERO {X : Cx} {ρ : Rho} {μ : Mu} {Q : PR} {pos : Pos} (T : Txt X.K X.mg) (h : Q μ (.dat (rt 0))) (hg : Gl X "ZERO" := by rfl) : Dm X ρ μ (.Name "ZERO" pos) Q :=
  dm_glob (v := .ref (He.ga X.K "ZERO")) (d := rt 0) hg T.g_ZERO rfl (fun F => .tupK T.t_ZERO rfl (.cons (.int _) (.cons (.int _) .nil))) h
theorem dmONE {X : Cx} {ρ : Rho} {μ : Mu} {Q : PR} {pos : Pos} (T : Txt X.K X.mg) (h : Q μ (.dat (rt 1))) (hg : Gl X "ONE" := by rfl) : Dm X ρ μ (.Name "ONE" pos) Q :=
  dm_glob (v := .ref (He.ga X.K "ONE")) (d := rt 1) hg T.g_ONE rfl (fun F => .tupK T.t_ONE rfl (.cons (.int _) (.cons (.int _) .nil))) h
theorem rt_neg (a : Rat) : rt (-a) = .tuple [.int (-a.num), .int a.den] := by rw [rt, Rat.neg_num, Rat.neg_den]
theorem rt_int (a : Int) : rt (a : Rat) = .tuple [.int a, .int 1] := by simp [rt]
theorem can_negative (T : Txt K mg) : Can P w K mg base "negative" 1 p_negative (PureSp K tf_negative) := by
  refine can_pure 9 T sc_negative (fun _ _ _ _ _ _ us hl => match us, hl with | [_], _ => rfl) (fun ds G h => by obtain ⟨m, rfl, _⟩ := h; rfl) fun f cdv B outer s H E hr ds G h => ?_
  obtain ⟨a, rfl, hG⟩ := h
  refine ds_ret (dm_tup (ac (dm_neg (ixT (nm 0 ⟨_, _, rfl, rfl, im (dmm (a1 (ixT (nm 0 ⟨_, _, rfl, rfl, dmm ⟨by simp, _, rfl, ?_⟩⟩))))⟩)))))
  rw [rt_neg] at hG
  exact hG
theorem can_whole (T : Txt K mg) : Can P w K mg base "whole" 1 p_whole (PureSp K tf_whole) := by
  refine can_pure 10 T sc_whole (fun _ _ _ _ _ _ us hl => match us, hl with | [_], _ => rfl) (fun ds G h => by obtain ⟨m, rfl, _⟩ := h; rfl) fun f cdv B outer s H E hr ds G h => ?_
  obtain ⟨a, rfl, hG⟩ := h
  refine ds_ret (dm_tup (ac (nm 0 (dmm (a1 (dm_int (dmm ⟨by simp, _, rfl, ?_⟩)))))))
  rw [rt_int] at hG
  exact hG
theorem can_times (T : Txt K mg) (c_ratio : Can P w K mg base "ratio" 41 p_ratio (PureSp K tf_ratio)) : Can P w K mg base "times" 42 p_times (PureSp K tf_times) := by
  refine can_pure 7 T sc_times (fun _ _ _ _ _ _ us hl => match us, hl with | [_, _], _ => rfl) (fun ds G h => by obtain ⟨m, n, rfl, _⟩ := h; rfl) fun f cdv B outer s H E hr ds G h => ?_
  obtain ⟨a, b, rfl, ha, hb, hG⟩ := h
  refine ds_if (tm_w (wm_or2 (tm_cmp op_eq (nomark _) (ixT (nm 0 ⟨_, _, rfl, rfl, dm_int (opd_eqI (bm ⟨fun hk => ⟨fun _ => ?_, fun z => (by cases z)⟩, fun hk => tm_cmp op_eq (nomark _) (ixT (nm 1 ⟨_, _, rfl, rfl, dm_int (opd_eqI (bm ⟨fun hk2 => ?_, fun hk2 => ?_⟩))⟩))⟩))⟩)))))
  · refine ds_ret (dmZERO T ⟨_, rfl, ?_⟩)
    have : a = 0 := Rat.num_eq_zero.mp (by simpa using hk)
    rw [this, Rat.zero_mul] at hG
    exact hG
  · refine ds_ret (dmZERO T ⟨_, rfl, ?_⟩)
    have : b = 0 := Rat.num_eq_zero.mp (by simpa using hk2)
    rw [this, Rat.mul_zero] at hG
    exact hG
  · refine ds_nil ?_
    refine ds_ret (dm_call c_ratio (hr.mono (by decide)) rfl (ac (dm_bin op_mulB (ixT (nm 0 ⟨_, _, rfl, rfl, ixT (nm 1 ⟨_, _, rfl, rfl, opd_I (ha.mul hb) (dmm ?_)⟩)⟩)))))
    refine a1 (dm_bin op_mulB (ixT (nm 0 ⟨_, _, rfl, rfl, ixT (nm 1 ⟨_, _, rfl, rfl, opd_I (ha.mulDD hb) (dmm ⟨_, _, rfl, ?_, _, rfl, ?_⟩)⟩)⟩)))
    · exact Int.mul_ne_zero (den_ne a) (den_ne b)
    · rw [rt_mul]
      exact hG
theorem can_over (T : Txt K mg) (c_ratio : Can P w K mg base "ratio" 41 p_ratio (PureSp K tf_ratio)) : Can P w K mg base "over" 42 p_over (PureSp K tf_over) := by
  refine can_pure 8 T sc_over (fun _ _ _ _ _ _ us hl => match us, hl with | [_, _], _ => rfl) (fun ds G h => by obtain ⟨m, n, rfl, _⟩ := h; rfl) fun f cdv B outer s H E hr ds G h => ?_
  obtain ⟨a, b, rfl, ha, hb, hb0, hG⟩ := h
  refine ds_ret (dm_call c_ratio (hr.mono (by decide)) rfl (ac (dm_bin op_mulB (ixT (nm 0 ⟨_, _, rfl, rfl, ixT (nm 1 ⟨_, _, rfl, rfl, opd_I (ha.mulD hb) (dmm ?_)⟩)⟩)))))
  refine a1 (dm_bin op_mulB (ixT (nm 0 ⟨_, _, rfl, rfl, ixT (nm 1 ⟨_, _, rfl, rfl, opd_I (ha.mulDN hb) (dmm ⟨_, _, rfl, ?_, _, rfl, ?_⟩)⟩)⟩)))
  · exact Int.mul_ne_zero (den_ne a) (fun z => hb0 (Rat.num_eq_zero.mp z))
  · rw [rt_div]
    exact hG
/-! ### sums -/
def sums (qs : List Rat) : Rat := qs.foldl (· + ·) 0
theorem sums_snoc (qs : List Rat) (q : Rat) : sums (qs ++ [q]) = sums qs + q := by unfold sums; rw [List.foldl_append]; rfl
theorem sums_bd {b : Nat} (qs : List Rat) (h : ∀ q ∈ qs, Bd b q) : ∀ i, i ≤ qs.length → Bd (i * (b + 1) + 1) (sums (qs.take i))
  | 0, _ => by
    rw [List.take_zero]
    exact Bd.mono Bd.zero (by omega)
  | i + 1, hi => by
    have hlt : i < qs.length := hi
    rw [List.take_succ_eq_append_getElem hlt, sums_snoc]
    exact ((sums_bd qs h i (by omega)).add (h _ (List.getElem_mem hlt))).mono (by rw [Nat.succ_mul]; omega)
def tf_total : Tf := fun ds G => ∃ (qs : List Rat) (b : Nat), ds = [.list (qs.map rt)] ∧ (∀ q ∈ qs, Bd b q) ∧ qs.length * (b + 1) + 1 ≤ 40000000 ∧ b ≤ 40000000 ∧ G (rt (sums qs))
theorem can_total (T : Txt K mg) (c_plus : Can P w K mg base "plus" 42 p_plus (PureSp K tf_plus)) : Can P w K mg base "total" 43 p_total (PureSp K tf_total) := by
  refine can_pure 11 T sc_total (fun _ _ _ _ _ _ us hl => match us, hl with | [_], _ => rfl) (fun ds G h => by obtain ⟨m, b, rfl, _⟩ := h; rfl) fun f cdv B outer s H E hr ds G h => ?_
  obtain ⟨qs, b, rfl, hq, hl, hb, hG⟩ := h
  refine ds_asg (dmZERO T (gm_name sc_total.nd (i := 1) rfl ?_))
  refine ds_for PassesOwn.never (im_list (nm 0 (lm ⟨fun i ρ μ => ∃ o, ρ = [some (.dat (.list (qs.map rt))), some (.dat (rt (sums (qs.take i)))), o] ∧ μ = [], ⟨_, rfl, rfl⟩, ?_, ?_⟩)))
  · rintro i d ρ μ hd ⟨o, rfl, rfl⟩
    rw [List.getElem?_map] at hd
    obtain ⟨q, hq1, rfl⟩ := Option.map_eq_some_iff.mp hd
    obtain ⟨hi, hq2⟩ := List.getElem?_eq_some_iff.mp hq1
    have hmem : q ∈ qs := List.mem_of_getElem? hq1
    refine gm_name sc_total.nd (i := 2) rfl ?_
    have hle : i * (b + 1) + 1 ≤ 40000000 := Nat.le_trans (Nat.add_le_add_right (Nat.mul_le_mul_right _ (Nat.le_of_lt hi)) 1) hl
    refine ds_asg (dm_call c_plus hr rfl (ac (nm 1 (dmm (a1 (nm 2 (dmm ⟨_, _, rfl, (sums_bd qs hq i (Nat.le_of_lt hi)).sm hle, (hq q hmem).sm hb, gm_name sc_total.nd (i := 1) rfl ?_⟩)))))))
    refine ds_nil ⟨some (.dat (rt q)), ?_, rfl⟩
    rw [List.take_succ_eq_append_getElem hi, sums_snoc, hq2]
    rfl
  · rintro ρ μ ⟨o, rfl, rfl⟩
    rw [List.length_map, List.take_length]
    exact ds_ret (nm 1 ⟨_, rfl, hG⟩)
end
end BW

namespace BW
open PySem PySem.Spec PyProof.Rows L2

/-! ### dicts with tuple keys, as data -/
def lk {α : Type} (kvs : List (List Key × α)) (k : List Key) : Option α := (kvs.find? fun kv => decide (kv.1 = k)).map (·.2)
def pk {α : Type} (kvs : List (List Key × α)) (k : List Key) (v : α) : List (List Key × α) := if (kvs.any fun kv => decide (kv.1 = k)) = true then kvs.map (fun kv => if kv.1 = k then (kv.1, v) else kv) else kvs ++ [(k, v)]
def dD (kds : List (List Key × PyData)) : PyData := .dict (kds.map fun p => (keyD p.1, p.2))
def KP {α : Type} (G : V → α → Prop) : List (List Key × V) → List (List Key × α) → Prop := Paired fun (p : List Key × V) (q : List Key × α) => p.1 = q.1 ∧ G p.2 q.2
theorem kD_inj : ∀ {a b : Key}, kD a = kD b → a = b
  | .inl i, .inl j, h => by
    simp only [kD, PyData.int.injEq] at h
    rw [h]
  | .inr i, .inr j, h => by
    simp only [kD, PyData.str.injEq] at h
    rw [h]
  | .inl i, .inr j, h => by simp [kD] at h
  | .inr i, .inl j, h => by simp [kD] at h
theorem keyD_inj {a b : List Key} (h : keyD a = keyD b) : a = b := by
  simp only [keyD, PyData.tuple.injEq] at h
  revert b
  induction a with
  | nil =>
    intro b h
    cases b with
    | nil => rfl
    | cons _ _ => simp at h
  | cons x xs ih =>
    intro b h
    cases b with
    | nil => simp at h
    | cons y ys =>
      simp only [List.map_cons, List.cons.injEq] at h
      rw [kD_inj h.1, ih h.2]
theorem rpK_kp {K : PySem.W.Frag} {F : Hp} : ∀ {kds : List (List Key × PyData)} {ws : List (List Key × V)}, RpK K F ws (kds.map fun p => (keyD p.1, p.2)) → KP (Rp K F) ws kds := by
  intro kds
  induction kds with
  | nil =>
    intro ws h
    cases h
    exact .nil
  | cons p r ih =>
    intro ws h
    rw [List.map_cons] at h
    generalize e : keyD p.1 = kk at h
    cases h with
    | cons h1 h2 => exact .cons ⟨(keyD_inj e).symm, h1⟩ (ih h2)
theorem kp_rpK {K : PySem.W.Frag} {F : Hp} : ∀ {kds : List (List Key × PyData)} {ws : List (List Key × V)}, KP (Rp K F) ws kds → RpK K F ws (kds.map fun p => (keyD p.1, p.2))
  | [], _, .nil => .nil
  | (k, d) :: r, (k', v) :: ws, .cons h t => by
    obtain ⟨e, h⟩ := h
    cases e
    exact .cons h (kp_rpK t)
theorem lk_pair {α : Type} {G : V → α → Prop} {ws : List (List Key × V)} {kvs : List (List Key × α)} {k : List Key} (p : KP G ws kvs) : (valV ws k = none ∧ lk kvs k = none) ∨ ∃ v d, valV ws k = some v ∧ lk kvs k = some d ∧ G v d := by
  induction p with
  | nil => exact .inl ⟨rfl, rfl⟩
  | @cons a b l1 l2 h t ih =>
    obtain ⟨e, g⟩ := h
    by_cases hk : a.1 = k
    · refine .inr ⟨a.2, b.2, valV_pos hk, ?_, g⟩
      unfold lk
      rw [List.find?_cons_of_pos (by simpa using e ▸ hk)]
      rfl
    · rw [valV_neg hk]
      have e2 : lk (b :: l2) k = lk l2 k := by
        unfold lk
        rw [List.find?_cons_of_neg (by simpa using fun z => hk (e.trans z))]
      rw [e2]
      exact ih
theorem kp_any {α : Type} {G : V → α → Prop} {ws : List (List Key × V)} {kvs : List (List Key × α)} {k : List Key} (p : KP G ws kvs) : (ws.any fun kv => decide (kv.1 = k)) = (kvs.any fun kv => decide (kv.1 = k)) := by
  induction p with
  | nil => rfl
  | cons h t ih => rw [List.any_cons, List.any_cons, ih, h.1]
theorem kp_map {α : Type} {G : V → α → Prop} {ws : List (List Key × V)} {kvs : List (List Key × α)} {k : List Key} {v : V} {d : α} (p : KP G ws kvs) (g : G v d) : KP G (ws.map (fun kv => if kv.1 = k then (kv.1, v) else kv)) (kvs.map (fun kv => if kv.1 = k then (kv.1, d) else kv)) := by
  induction p with
  | nil => exact .nil
  | @cons a b l1 l2 h t ih =>
    rw [List.map_cons, List.map_cons]
    refine .cons ?_ ih
    obtain ⟨e, g'⟩ := h
    by_cases hk : a.1 = k
    · rw [if_pos hk, if_pos (e ▸ hk)]
      exact ⟨e, g⟩
    · rw [if_neg hk, if_neg (fun z => hk (e.trans z))]
      exact ⟨e, g'⟩
theorem pk_pair {α : Type} {G : V → α → Prop} {ws : List (List Key × V)} {kvs : List (List Key × α)} {k : List Key} {v : V} {d : α} (p : KP G ws kvs) (g : G v d) : KP G (putK ws k v) (pk kvs k d) := by
  unfold putK pk
  rw [kp_any p]
  split
  · exact kp_map p g
  · exact Paired.snoc p ⟨rfl, g⟩
theorem kp_len {α : Type} {G : V → α → Prop} {ws : List (List Key × V)} {kvs : List (List Key × α)} (p : KP G ws kvs) : ws.length = kvs.length := Paired.length p
/-- a dict that is read -/
inductive DctR (μ : Mu) : Rv → List (List Key × Rv) → Prop
  | dat {kds : List (List Key × PyData)} : DctR μ (.dat (dD kds)) (kds.map fun p => (p.1, .dat p.2))
  | own {n : Nat} {kvs : List (List Key × Rv)} (h : μ[n]? = some (.M kvs)) : DctR μ (.own n) kvs
  | ownZ {n : Nat} {kds : List (List Key × PyData)} (h : μ[n]? = some (.Z (dD kds))) : DctR μ (.own n) (kds.map fun p => (p.1, .dat p.2))
  | ownQ {n : Nat} {od : Obj} {ws : List (List Key × V)} {kvs : List (List Key × Rv)} (h : μ[n]? = some (.Q od ws kvs)) : DctR μ (.own n) kvs
section
variable {X : Cx} {ρ : Rho} {μ : Mu} {a b c e f tg o i : Expr} {es : List Expr} {x : Str} {p pos : Pos} {J : Jm} {rest : List Stmt} {P : PR}
theorem kp_dat {K : PySem.W.Frag} {F : Hp} {as : List Addr} {ws : List (List Key × V)} {kds : List (List Key × PyData)} (h : KP (Rp K F) ws kds) : KP (ROk K F as) ws (kds.map fun p => (p.1, Rv.dat p.2)) := by
  induction h with
  | nil => exact .nil
  | cons h t ih => exact .cons ⟨h.1, h.2⟩ ih
theorem DctR.rd {K : PySem.W.Frag} {R F H : Hp} {as : List Addr} {σ : L2.St} {r : Rv} {kvs : List (List Key × Rv)} (q : DctR μ r kvs) (S : Sta K R F H as σ ρ μ) {v : V} (ok : ROk K F as v r) : ∃ a ws, v = .ref a ∧ Rd H a (.dT ws) ∧ KP (ROk K F as) ws kvs := by
  cases q with
  | dat =>
    obtain ⟨a, o, ws, rfl, h1, h2⟩ := Rp.dctE ok
    exact ⟨a, ws, rfl, .inr ⟨o, S.fh _ _ h1⟩, kp_dat (rpK_kp h2)⟩
  | own h =>
    obtain ⟨a, h1, rfl⟩ := ok
    obtain ⟨ws, e1, e2, e3, e4⟩ := S.cel _ a _ h1 h
    exact ⟨a, ws, rfl, .inl e1, e4⟩
  | ownZ h =>
    obtain ⟨a, h1, rfl⟩ := ok
    obtain ⟨_, e1⟩ := S.cel _ a _ h1 h
    obtain ⟨a', o, ws, e, h9, h10⟩ := Rp.dctE e1
    cases e
    exact ⟨a, ws, rfl, .inr ⟨o, S.fh _ _ h9⟩, kp_dat (rpK_kp h10)⟩
  | ownQ h =>
    obtain ⟨a, h1, rfl⟩ := ok
    obtain ⟨e1, e2, e3, e4⟩ := S.cel _ a _ h1 h
    exact ⟨a, _, rfl, .inr ⟨_, e1⟩, e4⟩
/-- a key's own tuple -/
theorem rpA_key {K : PySem.W.Frag} {F : Hp} : ∀ {k : List Key} {xs : List V}, RpA K F xs (k.map kD) → xs = k.map kV
  | [], [], _ => rfl
  | .inl i :: k, _ :: _, .cons h r => by
    rw [Rp.intE h, rpA_key r]
    rfl
  | .inr i :: k, _ :: _, .cons h r => by
    rw [Rp.strE h, rpA_key r]
    rfl
theorem key_at {K : PySem.W.Frag} {F : Hp} {v : V} {k : List Key} (h : Rp K F v (keyD k)) (hk : kc (k.map kD) = false) : ∃ b, v = .ref b ∧ F b = some (.tup (k.map kV)) := by
  have h' : Rp K F v (.tuple (k.map kD)) := h
  cases h' with
  | tup h1 h2 => exact ⟨_, rfl, by rw [rpA_key h2] at h1; exact h1⟩
  | tupK h1 h2 h3 =>
    rw [hk] at h2
    cases h2
theorem dget_of {H : Hp} {a b : Addr} {ws : List (List Key × V)} {k : List Key} (h : Rd H a (.dT ws)) (hb : H b = some (.tup (k.map kV))) : DGet H a (.ref b) (valV ws k) := .inr ⟨ws, k, b, h, rfl, hb, rfl⟩
theorem dm_dget (hu : X.A.units + 1 < cLine) (h : Dm X ρ μ o fun μ1 r1 => Dm X ρ μ1 i fun μ2 r2 => ∃ k kvs r, r2 = .dat (keyD k) ∧ kc (k.map kD) = false ∧ DctR μ2 r1 kvs ∧ lk kvs k = some r ∧ P μ2 r) (hs : NoSl i := by exact fun _ _ => rfl) : Dm X ρ μ (.Subscript o i pos) P := fun R F H as σ S Q q => by
  refine We.of (pe_dget hu (We.pe X o) (We.pe X i) hs) ?_
  refine h R F H as σ S _ fun v F1 H1 as1 μ1 r1 S1 x1 o1 h1 => ?_
  refine h1 R F1 H1 as1 σ S1 _ fun w F2 H2 as2 μ2 r2 S2 x2 o2 h2 => ?_
  obtain ⟨k, kvs, r, rfl, hk, hd, hl, h2⟩ := h2
  obtain ⟨a, ws, rfl, g1, g2⟩ := hd.rd S2 (o1.ext x2)
  obtain ⟨b, rfl, g3⟩ := key_at o2 hk
  rcases lk_pair (k := k) g2 with ⟨e1, e2⟩ | ⟨u, d, e1, e2, e3⟩
  · rw [e2] at hl
    cases hl
  · rw [hl] at e2
    cases e2
    refine ⟨a, u, rfl, ?_, q u F2 H2 as2 μ2 r S2 (x1.trans x2) e3 h2⟩
    rw [← e1]
    exact dget_of g1 (S2.fh _ _ g3)
theorem d_rd {K : PySem.W.Frag} {R F H : Hp} {as : List Addr} {σ : L2.St} (S : Sta K R F H as σ ρ μ) {r1 r2 : Rv} {v w : V} {kvs : List (List Key × Rv)} {k : List Key} (hd : DctR μ r1 kvs) (ok : ROk K F as v r1) (hr : r2 = .dat (keyD k)) (ok2 : ROk K F as w r2) (hk : kc (k.map kD) = false) :
    ∃ a ov, v = .ref a ∧ DGet H a w ov ∧ ((ov = none ∧ lk kvs k = none) ∨ ∃ u r, ov = some u ∧ lk kvs k = some r ∧ ROk K F as u r) := by
  subst hr
  obtain ⟨a, ws, rfl, g1, g2⟩ := hd.rd S ok
  obtain ⟨b, rfl, g3⟩ := key_at ok2 hk
  refine ⟨a, valV ws k, rfl, dget_of g1 (S.fh _ _ g3), ?_⟩
  rcases lk_pair (k := k) g2 with ⟨e1, e2⟩ | ⟨u, d, e1, e2, e3⟩
  · exact .inl ⟨e1, e2⟩
  · exact .inr ⟨u, d, e1, e2, e3⟩
theorem in_bool {kvs : List (List Key × Rv)} {k : List Key} {ov : Option V} {K : PySem.W.Frag} {F : Hp} {as : List Addr} (h : (ov = none ∧ lk kvs k = none) ∨ ∃ u r, ov = some u ∧ lk kvs k = some r ∧ ROk K F as u r) : ov.isSome = (lk kvs k).isSome := by
  rcases h with ⟨e1, e2⟩ | ⟨u, r, e1, e2, _⟩
  · subst e1
    rw [e2]
    rfl
  · subst e1
    rw [e2]
    rfl
theorem dm_dget2 {apos : Pos} (hu : X.A.units + 1 < cLine) (h : Dm X ρ μ o fun μ1 r1 => ∃ kvs1, DctR μ1 r1 kvs1 ∧ Dm X ρ μ1 e fun μ2 r2 => Dm X ρ μ2 f fun μ3 r3 => ∃ k kvs, r2 = .dat (keyD k) ∧ kc (k.map kD) = false ∧ DctR μ3 r1 kvs ∧ P μ3 ((lk kvs k).getD r3)) (m : M2 X o "get" apos e f pos := by exact ⟨rfl, rfl, rfl, rfl⟩) :
    Dm X ρ μ (.Call (.Attribute o "get" apos) [e, f] [] pos) P := fun R F H as σ S Q q => by
  refine We.of (pe_dget2 hu (We.pe X o) (We.pe X e) (We.pe X f) m) ?_
  refine h R F H as σ S _ fun v F1 H1 as1 μ1 r1 S1 x1 o1 h1 => ?_
  obtain ⟨kvs1, hd1, h1⟩ := h1
  obtain ⟨a, ws1, rfl, g1, _⟩ := hd1.rd S1 o1
  refine ⟨a, rfl, .inr ⟨ws1, g1⟩, ?_⟩
  refine h1 R F1 H1 as1 σ S1 _ fun w F2 H2 as2 μ2 r2 S2 x2 o2 h2 => ?_
  refine h2 R F2 H2 as2 σ S2 _ fun u F3 H3 as3 μ3 r3 S3 x3 o3 h3 => ?_
  obtain ⟨k, kvs, e, hk, hd, h3⟩ := h3
  obtain ⟨a', ov, e', g2, g3⟩ := d_rd S3 hd ((o1.ext x2).ext x3) e (o2.ext x3) hk
  cases e'
  refine ⟨ov, g2, ?_⟩
  have xx := (x1.trans x2).trans x3
  rcases g3 with ⟨e1, e2⟩ | ⟨u', r', e1, e2, e3⟩
  · rw [e2] at h3
    rw [e1]
    exact q u F3 H3 as3 μ3 r3 S3 xx o3 h3
  · rw [e2] at h3
    rw [e1]
    exact q u' F3 H3 as3 μ3 r' S3 xx e3 h3
theorem dm_din (hu : X.A.units + 1 < cLine) (h : Dm X ρ μ i fun μ1 r1 => Dm X ρ μ1 o fun μ2 r2 => ∃ k kvs, r1 = .dat (keyD k) ∧ kc (k.map kD) = false ∧ DctR μ2 r2 kvs ∧ P μ2 (.dat (.bool (lk kvs k).isSome))) (hm : behindInMarks .In o = false := by rfl) : Dm X ρ μ (.Compare i [.In] [o] pos) P := fun R F H as σ S Q q => by
  refine We.of (pe_cmp (pc_din hu (We.pe X i) (We.pe X o)) hm) ?_
  refine h R F H as σ S _ fun v F1 H1 as1 μ1 r1 S1 x1 o1 h1 => ?_
  refine h1 R F1 H1 as1 σ S1 _ fun w F2 H2 as2 μ2 r2 S2 x2 o2 h2 => ?_
  obtain ⟨k, kvs, e, hk, hd, h2⟩ := h2
  obtain ⟨a, ov, rfl, g1, g2⟩ := d_rd S2 hd o2 e (o1.ext x2) hk
  refine ⟨a, ov, rfl, g1, ?_⟩
  rw [in_bool g2]
  exact q _ F2 H2 as2 μ2 (.dat (.bool _)) S2 (x1.trans x2) (okD (.bl _)) h2
theorem tm_din {f : Mu → Bool → Prop} (hu : X.A.units + 1 < cLine) (h : Dm X ρ μ i fun μ1 r1 => Dm X ρ μ1 o fun μ2 r2 => ∃ k kvs, r1 = .dat (keyD k) ∧ kc (k.map kD) = false ∧ DctR μ2 r2 kvs ∧ f μ2 (lk kvs k).isSome) (hm : behindInMarks .In o = false := by rfl) : Tm X ρ μ (.Compare i [.In] [o] pos) f := fun R F H as σ S Q q => by
  refine Wt.of (pt_cmp (pc_din hu (We.pe X i) (We.pe X o)) hm) ?_
  refine h R F H as σ S _ fun v F1 H1 as1 μ1 r1 S1 x1 o1 h1 => ?_
  refine h1 R F1 H1 as1 σ S1 _ fun w F2 H2 as2 μ2 r2 S2 x2 o2 h2 => ?_
  obtain ⟨k, kvs, e, hk, hd, h2⟩ := h2
  obtain ⟨a, ov, rfl, g1, g2⟩ := d_rd S2 hd o2 e (o1.ext x2) hk
  refine ⟨a, ov, rfl, g1, _, rfl, ?_⟩
  rw [in_bool g2]
  exact q _ F2 H2 as2 μ2 S2 (x1.trans x2) h2
theorem tm_dni {f : Mu → Bool → Prop} (hu : X.A.units + 1 < cLine) (h : Dm X ρ μ i fun μ1 r1 => Dm X ρ μ1 o fun μ2 r2 => ∃ k kvs, r1 = .dat (keyD k) ∧ kc (k.map kD) = false ∧ DctR μ2 r2 kvs ∧ f μ2 (!(lk kvs k).isSome)) (hm : behindInMarks .NotIn o = false := by rfl) : Tm X ρ μ (.Compare i [.NotIn] [o] pos) f := fun R F H as σ S Q q => by
  refine Wt.of (pt_cmp (pc_dnotin hu (We.pe X i) (We.pe X o)) hm) ?_
  refine h R F H as σ S _ fun v F1 H1 as1 μ1 r1 S1 x1 o1 h1 => ?_
  refine h1 R F1 H1 as1 σ S1 _ fun w F2 H2 as2 μ2 r2 S2 x2 o2 h2 => ?_
  obtain ⟨k, kvs, e, hk, hd, h2⟩ := h2
  obtain ⟨a, ov, rfl, g1, g2⟩ := d_rd S2 hd o2 e (o1.ext x2) hk
  refine ⟨a, ov, rfl, g1, _, rfl, ?_⟩
  rw [in_bool g2]
  exact q _ F2 H2 as2 μ2 S2 (x1.trans x2) h2
/-- d[k] = v -/
theorem ds_dput {p2 : Pos} (hu : X.A.units + 1 < cLine) (h : Dm X ρ μ e fun μ1 r0 => Dm X ρ μ1 o fun μ2 r1 => Dm X ρ μ2 i fun μ3 r2 => ∃ n k kvs, r1 = .own n ∧ r2 = .dat (keyD k) ∧ kc (k.map kD) = false ∧ μ3[n]? = some (.M kvs) ∧ kvs.length ≤ 1000 ∧ Ds X ρ (μ3.set n (.M (pk kvs k r0))) rest J)
    (hs : swapsWith e (some (.Subscript o i p2)) pos.line X.env = pure false := by rfl) : Ds X ρ μ (.Assign [.Subscript o i p2] e pos :: rest) J :=
  ds_cons_of (ps_dput hu (We.pe X o) (We.pe X i) (We.pe X e) hs) fun R F H as σ S D j => by
    refine h R F H as σ S _ fun v F1 H1 as1 μ1 r0 S1 x1 o1 h1 => ?_
    refine h1 R F1 H1 as1 σ S1 _ fun w F2 H2 as2 μ2 r1 S2 x2 o2 h2 => ?_
    refine h2 R F2 H2 as2 σ S2 _ fun u F3 H3 as3 μ3 r2 S3 x3 o3 h3 => ?_
    obtain ⟨n, k, kvs, rfl, rfl, hk, hn, hl, h3⟩ := h3
    obtain ⟨a, ha, rfl⟩ := o2.ext x3
    obtain ⟨b, rfl, hb⟩ := key_at o3 hk
    obtain ⟨ws, e1, e2, e3, e4⟩ := S3.cel n a _ ha hn
    have hp : KP (ROk X.K F3 as3) ws kvs := e4
    refine ⟨a, _, rfl, .inr ⟨ws, k, b, e1, rfl, S3.fh _ _ hb, small1000 (by rw [kp_len hp]; exact hl), rfl⟩, ?_⟩
    refine h3 R F3 _ as3 σ (S3.set ha e2 e3 ⟨_, upd_same, e2, e3, pk_pair hp ((o1.ext x2).ext x3)⟩) D (j.ext ((x1.trans x2).trans x3))
theorem kp_undat {K : PySem.W.Frag} {F : Hp} {as : List Addr} : ∀ {kds : List (List Key × PyData)} {ws : List (List Key × V)}, KP (ROk K F as) ws (kds.map fun p => (p.1, Rv.dat p.2)) → KP (Rp K F) ws kds
  | [], [], _ => .nil
  | _ :: _, _ :: _, .cons h t => .cons ⟨h.1, h.2⟩ (kp_undat t)
/-- what the cells give as data -/
inductive AsD (μ : Mu) : Rv → PyData → Prop
  | dat {d : PyData} : AsD μ (.dat d) d
  | ownZ {n : Nat} {d : PyData} (h : μ[n]? = some (.Z d)) : AsD μ (.own n) d
theorem AsD.rp {K : PySem.W.Frag} {R F H : Hp} {as : List Addr} {σ : L2.St} {r : Rv} {d : PyData} (q : AsD μ r d) (S : Sta K R F H as σ ρ μ) {v : V} (ok : ROk K F as v r) : Rp K F v d := by
  cases q with
  | dat => exact ok
  | ownZ h =>
    obtain ⟨a, h1, rfl⟩ := ok
    exact (S.cel _ a _ h1 h).2
/-- a dict's cell becomes data: the dict is locked from here on -/
theorem frzM {n : Nat} {kvs : List (List Key × Rv)} {K : PySem.W.Frag} {R F H : Hp} {as : List Addr} {σ : L2.St} (kds : List (List Key × PyData)) (S : Sta K R F H as σ ρ μ) (hn : μ[n]? = some (.M kvs)) (hr : Paired (fun (p : List Key × Rv) (q : List Key × PyData) => p.1 = q.1 ∧ AsD μ p.2 q.2) kvs kds) :
    ∃ a ws, H a = some (.dT ws) ∧ ∀ od, ∃ F', Sta K R F' (upd H a (.frz od (.dT ws))) as σ ρ (μ.set n (.Z (dD kds))) ∧ Ext F as F' as := by
  have hl : n < as.length := by rw [S.len]; exact (List.getElem?_eq_some_iff.mp hn).1
  have ha : as[n]? = some as[n] := List.getElem?_eq_getElem hl
  obtain ⟨ws, e1, e2, e3, e4⟩ := S.cel n _ _ ha hn
  have hp : KP (Rp K F) ws kds := by
    clear hn ha hl e1 e2 e3
    revert e4
    induction hr generalizing ws with
    | nil =>
      intro e4
      cases e4
      exact .nil
    | cons p r ih =>
      intro e4
      cases e4 with
      | cons h t => exact .cons ⟨h.1.trans p.1, p.2.rp S h.2⟩ (ih _ t)
  refine ⟨as[n], ws, e1, fun od => ⟨upd F as[n] (.frz od (.dT ws)), S.frzAt ha e2 e3 ?_, ⟨same_upd e2, List.prefix_refl _⟩⟩⟩
  exact .dct upd_same ((kp_rpK hp).mono (Gw.of (same_upd e2)))
theorem ds_frzM {n : Nat} {kvs : List (List Key × Rv)} {ss : List Stmt} (kds : List (List Key × PyData)) (hn : μ[n]? = some (.M kvs)) (hr : Paired (fun (p : List Key × Rv) (q : List Key × PyData) => p.1 = q.1 ∧ AsD μ p.2 q.2) kvs kds) (h : Ds X ρ (μ.set n (.Z (dD kds))) ss J) : Ds X ρ μ ss J := fun R F H as σ S D j pins s I => by
  obtain ⟨a, ws, e1, e2⟩ := frzM kds S hn hr
  obtain ⟨od, I2⟩ := I.lock e1 True.intro
  obtain ⟨F', S', x'⟩ := e2 od
  exact h R F' _ as σ S' D (j.ext x') pins s I2
end
end BW

namespace BW
open PySem PySem.Spec PyProof.Rows L2

/-! ### dict comprehensions whose keys are tuples: the shell, one clause, two clauses -/
/-- a key that is a tuple is laid in the new dict -/
theorem put_key {Y : Cx} {pins : List (Addr × Obj)} {σ : L2.St} {H : Hp} {s : Shared} {E : Value → Shared → Prop} {D b : Addr} {ws : List (List Key × V)} {k : List Key} {v : V} {r : Value} {Q : Unit → Shared → Prop} (hu : Y.A.units + 1 < cLine)
    (I : Inv Y pins σ H s) (hD : H D = some (.dT ws)) (hz : ws.length < sizeLine) (hb : H b = some (.tup (k.map kV))) (rv : RelV v r) (q : ∀ s', Inv Y pins σ (upd H D (.dT (putK ws k v))) s' → Q () s') : wpAny (model Y.prog Y.w) Y.A (dictSet D (.ref b) r) Q E s := by
  obtain ⟨z, hd, xs, rel, dd⟩ := dt_of I.hok hD
  have lx : xs.length ≤ sizeLine := Paired.length rel ▸ z
  have lp : (putK ws k v).length ≤ sizeLine := Nat.le_trans (length_putK ws k v) hz
  refine wpAny_dictSet_heap (knd := tupleKind (mixKind Y.prog Y.w)) (k := k) (Nat.lt_of_succ_lt hu) (key_of I.hok hb) dd (fun h' dd' hs => q _ ?_) (hsz := lx)
  obtain ⟨o, es, ep, ho, g2, g3, g4, _, g5⟩ := dd'
  have kt := (rel.put k hb rv).keeps (H' := upd H D (.dT (putK ws k v))) fun c ys ec => by
    rw [upd_ne (ne_of ec hD fun z => nomatch z)]
    exact ec
  exact d_write I (hD ▸ True.intro) hs ⟨o, ho⟩ ⟨lp, hd, _, kt, o, es, ep, ho, g2, g3, g4, g5⟩
/-- one item is taken, stored, tested -/
theorem step_run {Y : Cx} {pins : List (Addr × Obj)} {σ : L2.St} {H : Hp} {s : Shared} {tg : Expr} {ifs : List Expr} {J : It} {fp : List Addr} {it : Addr} {tn : Nat → Heap → Prop} {g : TG} {tt : TT} {i : Nat} {Z : Bool → L2.St → Hp → Prop} {Pσ : L2.St → Prop} {Rb : Bool → Shared → Prop} {R0 : Shared → Prop} {E1 E2 E3 E4 : Value → Shared → Prop}
    (hc : Y.calm = true) (hxe : Y.xe = fun _ _ => False) (T : Turn Y.prog Y.w Y.K tg J fp it tn) (pg : PG Y tg g) (pt : PTs Y ifs tt) (I : Inv Y pins σ H s) (hf : ∀ b ∈ fp, FpOk Y pins H b) (st : tn i s.heap) (go : J.go i H)
    (hfp : ∀ H', (∀ b ∈ fp, H' b = none) → ∀ b ∈ fp, FpOk Y pins H' b) (hstep : ∀ x H', J.yld i H x H' → g x σ H' fun σ2 H2 => Pσ σ2 ∧ tt σ2 H2 fun b H3 => Z b σ2 H3)
    (k : ∀ b s9 σ8 H9 pl, Inv Y (pins ++ pl) σ8 H9 s9 → Pσ σ8 → Z b σ8 H9 → (∀ s' H' σ', Inv Y (pins ++ pl) σ' H' s' → tn (i + 1) s'.heap ∧ ∀ b ∈ fp, H' b = none) → Rb b s9) :
    wpAny (model Y.prog Y.w) Y.A (pyNext (.ref it)) (fun r s₁ => match r with
      | none => R0 s₁
      | some v => wpAny (model Y.prog Y.w) Y.A (letOwnedTupleGo tg (.ref it) v) (fun _ s₂ => wpAny (model Y.prog Y.w) Y.A (assign tg Y.env v) (fun _ s₃ =>
          wpAny (model Y.prog Y.w) Y.A (forIn ifs true fun c r => if r = true then do let ok ← isTrue c Y.env (eval c Y.env); pure (ForInStep.yield ok) else pure (ForInStep.yield r)) (fun ok s₄ => Rb ok s₄) E4 s₃) E3 s₂) E2 s₁) E1 s := by
  refine thnF (T.item Y rfl rfl rfl hc i pins s σ H (fun _ _ => False) I hf st go) fun r s6 ⟨u, hr, h6⟩ => ?_
  subst hr
  refine thnF h6 fun _ s7 ⟨x, H7, I7, r7, y7, st7, n7⟩ => ?_
  have IP := I7.pinned (hfp H7 n7) (T.obj _ _ st7)
  have gr := pg.run _ s7 _ H7 x u _ IP r7 (hstep x H7 y7)
  rw [hxe] at gr
  refine thnF gr fun _ s8 ⟨σ8, H8, I8, p8, q8⟩ => ?_
  have tr := pt.run _ s8 σ8 H8 _ I8 q8
  rw [hxe] at tr
  refine thnF tr fun b s9 ⟨H9, I9, q9⟩ => ?_
  refine k b s9 σ8 H9 _ I9 p8 q9 fun s' H' σ' I' => ?_
  have pin : ∀ b ∈ fp, ∀ o, s7.heap.get? b = some o → s'.heap.get? b = some o ∧ H' b = none := fun b hb o e => by
    have z := I'.pin (b, o) (List.mem_append_right _ (List.mem_append_right _ (mem_pinsAt hb e)))
    exact ⟨z.1, z.2.1⟩
  refine ⟨T.keep _ _ _ st7 fun b hb o e => (pin b hb o e).1, fun b hb => ?_⟩
  obtain ⟨o, e, _⟩ := T.obj _ _ st7 b hb
  exact (pin b hb o e).2
/-- what a block's iterator is, told at its start -/
structure BlI (Y : Cx) (σ : L2.St) (tg : Expr) (J : It) (it : Addr) (fp : List Addr) (tn : Nat → Heap → Prop) (H : Hp) (s : Shared) : Prop where
  I : Inv Y [] σ H s
  T : Turn Y.prog Y.w Y.K tg J fp it tn
  st : tn 0 s.heap
  nn : ∀ b ∈ fp, H b = none
  fk : ∀ H' σ' s', Inv Y [] σ' H' s' → (∀ b ∈ fp, H' b = none) → ∀ b ∈ fp, FpOk Y [] H' b
/-- the shell -/
theorem dict_shell {X : Cx} {pins : List (Addr × Obj)} {s : Shared} {σ : L2.St} {H : Hp} {ce tg iter : Expr} {ifs : List Expr} {gs : List Comprehension} {scope : Scope} {own : List (Str × Nat)} {pos' : Pos} {wi : TI} {use : Option (Value → Sem Unit)} {Qf : Value → Shared → Prop} {Q : VK} {Z : It → Addr → Hp → Prop}
    (hE : clausesOf ce = ⟨tg, iter, ifs, 0⟩ :: gs) (hN : X.N.Nodup) (I : Inv X pins σ H s) (hi : PI X tg iter wi) (ok : BlkOk X.N X.env.scope scope own) (hs : ∀ x, foldedSetIterable iter X.env x = pure x)
    (h : wi σ H fun J H1 => ∀ D, H1 D = none → Z J D (upd H1 D (.dT [])))
    (body : ∀ (b : Bx) (J : It) (it D : Addr) (tn : Nat → Heap → Prop) (s4 : Shared) (R0 : Result → Shared → Prop), BlI (Bk X scope b) (wipe σ (own.map (·.2))) tg J it b.fp tn b.H s4 → Z J D b.H →
      (∀ s6 H5, Inv (Bk X scope b) [] (wipe σ (own.map (·.2))) H5 s6 → Q (.ref D) H5 → R0 (.ok .next) s6) → codeAny (model X.prog X.w) X.A (.compStart ce 0 (.ref it) (.ref D) (Bk X scope b).env) R0 s4)
    (hRR : ∀ D C s' m H', Inv X pins σ H' s' → Q (.ref D) H' → s'.heap.Ns C m → FpOk X pins H' C → compPost (model X.prog X.w) X.A X.xe use Qf (.ref D) C (.ok .next) s') :
    wpAny (model X.prog X.w) X.A (comprehension ce scope X.env pos' newDict false (eval iter X.env) use) Qf X.xe s := by
  have hfree : ∀ y ∈ scope.names, y.2 = .free → ∃ c, X.env.cells.lookup y.1 = some c := fun y hy e => (ok.free y hy e).elim (fun z => I.ok.has _ (.inl z)) fun z => I.ok.has _ (.inr z)
  refine wpAny_comprehension_free (use := use) hE hs (closure_ok hfree) ok.kind (fun y hy e => (ok.uniq y hy).trans (by rw [e])) ?_
  refine thn (hi.run pins s σ H _ I h) fun xv s1 hx => thn hx fun itv s2 ⟨it, fp, tn, J, H2, e, I2, T, st2, f2, q⟩ => ?_
  subst e
  refine wpAny_newObj_type (newEnv_comp ?_)
  have hDn : H2 s2.heap.objs.size = none := I2.hok.fresh (Nat.le_refl _)
  have zz := q s2.heap.objs.size hDn
  generalize hD : s2.heap.objs.size = D at zz hDn ⊢
  generalize hs3 : ({ s2 with heap := s2.heap.push { cls := .type "dict", data := .dict #[] } } : Shared) = s3
  have h3 : s3.heap = s2.heap.push { cls := .type "dict", data := .dict #[] } := by rw [← hs3]
  have I3 : Inv X pins σ (upd H2 D (.dT [])) s3 := by
    rw [← hs3]
    refine I2.laid (t' := s2.toks) (fun b o e => Heap.get?_push_of_some _ e) (Nat.le_of_eq hD) ?_
    rw [← hD]
    exact dt_empty s2.heap I2.big
  have lt : ∀ b ∈ fp, b < s2.heap.objs.size := fun b hb => (T.obj _ _ st2 b hb).elim fun o z => Heap.lt_size z.1
  have f3 : ∀ b ∈ fp, FpOk X pins (upd H2 D (.dT [])) b ∧ b < s3.heap.objs.size := fun b hb => by
    have l := lt b hb
    refine ⟨⟨?_, (f2 b hb).2⟩, by rw [h3, Heap.size_push]; exact Nat.lt_succ_of_lt l⟩
    rw [upd_ne (by rw [← hD]; exact Nat.ne_of_lt l)]
    exact (f2 b hb).1
  have st3 : tn 0 s3.heap := T.keep _ _ _ st2 fun b _ o e => by
    rw [h3]
    exact Heap.get?_push_of_some _ e
  have I4 := block_start I3 ok hN f3
  have st4 : tn 0 (pushCells (s3.heap.push { cls := .type "dict", data := .dict #[] }) scope.names) := T.keep _ _ _ st3 fun b _ o e => pushCells_keeps _ _ _ _ (Heap.get?_push_of_some _ e)
  refine body ⟨s3, upd H2 D (.dT []), s3.heap.objs.size, cellsFrom (s3.heap.objs.size + 1) scope.names (cloFrom X.env.cells scope.names []), fp⟩ J it D tn { s3 with heap := pushCells (s3.heap.push { cls := .type "dict", data := .dict #[] }) scope.names } _ ⟨I4, T, st4, fun b hb => (f3 b hb).1.1, ?_⟩ zz ?_
  · intro H' σ' s' I' hn b hb
    exact ⟨hn b hb, (I'.ok.exf b hb).1, I'.ok.exfs b hb, .inl hb, fun x c e => (I'.ok.exf b hb).2 x c e, fun p hp => absurd (show p ∈ ([] : List (Addr × Obj)) ++ [] from hp) (by simp)⟩
  · intro s6 H5 I6 qq
    have fr : H5 s3.heap.objs.size = none := I6.free
    obtain ⟨m, hn, _⟩ := I6.loc
    refine hRR D s3.heap.objs.size s6 m H5 (I3.call' (ch := fp) I6.os I6.base I6.hok I6.bare fun b hb => ?_) qq hn (I3.fpOk (Nat.le_refl _) fr)
    obtain ⟨⟨_, g1, _, g3, g4, g5⟩, _⟩ := f3 b hb
    exact ⟨g3, g1, g4, g5⟩
/-! ### one clause -/
def KPut (D : Addr) (y z : V) (H : Hp) (N : Hp → Prop) : Prop := ∃ ws k b, y = .ref b ∧ H b = some (.tup (List.map kV k)) ∧ H D = some (.dT ws) ∧ ws.length < sizeLine ∧ N (upd H D (.dT (putK ws k z)))
def Z1 (g : TG) (tt : TT) (tk tv : TE) (vs : List Nat) (σ : L2.St) (Q : VK) (J : It) (D : Addr) (H0 : Hp) : Prop := ∃ W : Nat → Nat → Hp → Prop, (∃ m, W 0 m H0) ∧ ∀ i m H, W i m H → (J.stop i H ∧ Q (.ref D) H) ∨
  (J.go i H ∧ ∃ N : Hp → Prop, (∀ H', N H' → ∃ m', m' < m ∧ W (i + 1) m' H') ∧ ∀ x H', J.yld i H x H' → g x (wipe σ vs) H' fun σ2 H2 => wipe σ2 vs = wipe σ vs ∧ tt σ2 H2 fun b H3 =>
    if b = true then tk σ2 H3 fun y H4 => tv σ2 H4 fun z H5 => KPut D y z H5 N else N H3)
def tDT (wi : TI) (g : TG) (tt : TT) (tk tv : TE) (vs : List Nat) : TE := fun σ H Q => wi σ H fun J H1 => ∀ D, H1 D = none → Z1 g tt tk tv vs σ Q J D (upd H1 D (.dT []))
theorem back {Y : Cx} {pl : List (Addr × Obj)} {σ σ8 : L2.St} {H : Hp} {s : Shared} {vs : List Nat} {pins : List (Addr × Obj)} (I : Inv Y (pins ++ pl) σ8 H s) (hw : wipe σ8 vs = wipe σ vs) : Inv Y pins (wipe σ vs) H s := by
  refine I.unpinned.weak (by rw [← hw, wipe_length]) fun j v e => ?_
  rw [← hw] at e
  exact (wipe_some e).1
section
variable {X : Cx}
theorem loop_dict1 {scope : Scope} {b : Bx} {σ : L2.St} {vs : List Nat} {tg iter kx vx : Expr} {ifs : List Expr} {pos : Pos} {J : It} {it D : Addr} {tn : Nat → Heap → Prop} {s4 : Shared} {g : TG} {tt : TT} {tk tv : TE} {Q : VK} {R0 : Result → Shared → Prop} (hc : X.calm = true) (hu : X.A.units + 1 < cLine)
    (pg : PG (Bk X scope b) tg g) (pt : PTs (Bk X scope b) ifs tt) (pk : PE (Bk X scope b) kx tk) (pv : PE (Bk X scope b) vx tv) (B : BlI (Bk X scope b) (wipe σ vs) tg J it b.fp tn b.H s4) (z : Z1 g tt tk tv vs σ Q J D b.H)
    (hR : ∀ s6 H5, Inv (Bk X scope b) [] (wipe σ vs) H5 s6 → Q (.ref D) H5 → R0 (.ok .next) s6) : codeAny (model X.prog X.w) X.A (.compStart (.DictComp kx vx [⟨tg, iter, ifs, 0⟩] scope pos) 0 (.ref it) (.ref D) (Bk X scope b).env) R0 s4 := by
  obtain ⟨W, ⟨m0, w0⟩, turn⟩ := z
  have loop : codeAny (model X.prog X.w) X.A (.compLoop (.DictComp kx vx [⟨tg, iter, ifs, 0⟩] scope pos) 0 (.ref it) (.ref D) (Bk X scope b).env) R0 s4 := by
    refine compLoop_anyD (fun n s' => ∃ i H', Inv (Bk X scope b) [] (wipe σ vs) H' s' ∧ tn i s'.heap ∧ (∀ c ∈ b.fp, H' c = none) ∧ W i n H') ?_ m0 ⟨0, b.H, B.I, B.st, B.nn, w0⟩
    rintro n s5 ⟨i, H5, I5, st5, n5, w5⟩
    rcases turn i n H5 w5 with ⟨stop, qq⟩ | ⟨go, N, hN, step⟩
    · refine thnF (B.T.done (Bk X scope b) rfl rfl rfl hc i [] s5 _ H5 (fun _ _ => False) I5 (B.fk H5 _ s5 I5 n5) st5 stop) fun r s6 ⟨hr, I6⟩ => ?_
      subst hr
      exact hR s6 H5 I6 qq
    · refine step_run (Y := Bk X scope b) hc rfl B.T pg pt I5 (B.fk H5 _ s5 I5 n5) st5 go (fun H' hn c hc => ⟨hn c hc, (B.fk H5 _ s5 I5 n5 c hc).2⟩) step fun c s9 σ8 H9 pl I9 hw q9 fin => ?_
      have close : ∀ s' H', Inv (Bk X scope b) ([] ++ pl) σ8 H' s' → N H' → ∃ m, m < n ∧ ∃ i H', Inv (Bk X scope b) [] (wipe σ vs) H' s' ∧ tn i s'.heap ∧ (∀ c ∈ b.fp, H' c = none) ∧ W i m H' := fun s' H' I' nx => by
        obtain ⟨m', hm, w'⟩ := hN H' nx
        obtain ⟨t1, t2⟩ := fin s' H' σ8 I'
        exact ⟨m', hm, i + 1, H', back I' hw, t1, t2, w'⟩
      cases c with
      | false => exact close s9 H9 I9 q9
      | true =>
        rw [if_pos rfl]
        rw [if_pos rfl] at q9
        refine thnF (pk.run _ s9 σ8 H9 _ I9 q9) fun u s10 ⟨y, H10, I10, r10, q10⟩ => ?_
        refine thnF (pv.run _ s10 σ8 H10 _ I10 q10) fun u2 s11 ⟨v, H11, I11, r11, ws, k, kb, ey, hk, hD, hz, nx⟩ => ?_
        subst ey
        cases (show u = Value.ref kb from r10)
        exact put_key (Y := Bk X scope b) hu I11 hD hz hk r11 fun s12 I12 => close s12 _ I12 nx
  exact codeAny_compStart_dict loop (B.T.self X.A 0 _ _ _ B.st loop)
theorem pe_dT {kx vx tg iter : Expr} {ifs : List Expr} {scope : Scope} {own : List (Str × Nat)} {pos : Pos} {wi : TI} {g : TG} {tt : TT} {tk tv : TE} (hc : X.calm = true) (hN : X.N.Nodup) (hu : X.A.units + 1 < cLine) (hi : PI X tg iter wi) (ok : BlkOk X.N X.env.scope scope own)
    (hg : ∀ b : Bx, PG (Bk X scope b) tg g) (ht : ∀ b : Bx, PTs (Bk X scope b) ifs tt) (hk : ∀ b : Bx, PE (Bk X scope b) kx tk) (hv : ∀ b : Bx, PE (Bk X scope b) vx tv) (hs : ∀ x, foldedSetIterable iter X.env x = pure x) :
    PE X (.DictComp kx vx [⟨tg, iter, ifs, 0⟩] scope pos) (tDT wi g tt tk tv (own.map (·.2))) := by
  refine ⟨fun pins s σ H Q I h => ?_⟩
  rw [arm_eval_DictComp]
  refine dict_shell (Z := fun J D H0 => Z1 g tt tk tv (own.map fun z : Str × Nat => z.2) σ Q J D H0) (Q := Q) rfl hN I hi ok hs h (fun b J it D tn s4 R0 B z hR => loop_dict1 hc hu (hg b) (ht b) (hk b) (hv b) B z hR) fun D C s' m H' I' q hn f => ⟨m, hn, fun h'' sb => ?_⟩
  obtain ⟨f0, f1, _, f3, f4, f5⟩ := f
  exact ⟨.ref D, H', I'.turned (t' := s'.toks) (fun b o hb e => (sb.2 b hb).trans e) f0 f1 f3 f4 f5, rfl, q⟩
/-- the new dict goes straight to a local -/
theorem use_name {i : Nat} {y : Str} {py : Pos} {pins : List (Addr × Obj)} {s' : Shared} {σ : L2.St} {H' : Hp} {D C : Addr} {m : _} {De : Ends} (hN : X.N.Nodup) (hy : X.N[i]? = some y) (hyl : X.env.scope.names.lookup y = some .local) (I' : Inv X pins σ H' s') (q : gName i (.ref D) σ H' De.nx) (hn : s'.heap.Ns C m) (f : FpOk X pins H' C) :
    compPost (model X.prog X.w) X.A X.xe (some (assign (.Name y py) X.env)) (fun _ s' => SP X pins De .next s') (.ref D) C (.ok .next) s' := by
  show wpAny _ _ (assign (.Name y py) X.env (.ref D)) _ _ _
  refine wpAny_assign_Name (store_ok2 (v := V.ref D) I' hN hy (.inl hyl) rfl (fun s2 I2 ⟨a, sb, ha⟩ => ?_) (.inr hyl))
  obtain ⟨f0, f1, _, f3, f4, f5⟩ := f
  have ne : C ≠ a := fun e => ha.elim (fun z => f1 (e.trans z)) fun z => f4 y a z e.symm
  exact ⟨m, hn.sameBut sb ne, fun h3 sb3 => ⟨_, H', I2.turned (t' := s2.toks) (fun b o hb e => (sb3.2 b hb).trans e) f0 f1 f3 f4 f5, q⟩⟩
theorem ps_dT {i : Nat} {y : Str} {py spos : Pos} {kx vx tg iter : Expr} {ifs : List Expr} {scope : Scope} {own : List (Str × Nat)} {pos : Pos} {wi : TI} {g : TG} {tt : TT} {tk tv : TE} (hc : X.calm = true) (hN : X.N.Nodup) (hu : X.A.units + 1 < cLine) (hy : X.N[i]? = some y) (hyl : X.env.scope.names.lookup y = some .local)
    (hsw : swapsWith (.DictComp kx vx [⟨tg, iter, ifs, 0⟩] scope pos) (some (.Name y py)) spos.line X.env = pure true) (hi : PI X tg iter wi) (ok : BlkOk X.N X.env.scope scope own)
    (hg : ∀ b : Bx, PG (Bk X scope b) tg g) (ht : ∀ b : Bx, PTs (Bk X scope b) ifs tt) (hk : ∀ b : Bx, PE (Bk X scope b) kx tk) (hv : ∀ b : Bx, PE (Bk X scope b) vx tv) (hs : ∀ x, foldedSetIterable iter X.env x = pure x) :
    PS X (.Assign [.Name y py] (.DictComp kx vx [⟨tg, iter, ifs, 0⟩] scope pos) spos) (tAsg (tDT wi g tt tk tv (own.map (·.2))) (gName i)) := by
  refine ⟨fun pins s σ H De I h => ?_⟩
  rw [exec_Assign_Name_used _ _ _ _ hsw]
  refine wpAny_bind (wpAny_standAt (wpAny_bind ?_))
  show wpAny _ X.A (do let _ ← comprehension (.DictComp kx vx [⟨tg, iter, ifs, 0⟩] scope pos) scope X.env (firstIterPos [⟨tg, iter, ifs, 0⟩] pos) newDict false (eval iter X.env) (some (assign (.Name y py) X.env))) _ _ s
  exact wpAny_bind (thn (dict_shell (Qf := fun _ s' => SP X pins De .next s') (Z := fun J D H0 => Z1 g tt tk tv (own.map fun z : Str × Nat => z.2) σ (fun x H1 => gName i x σ H1 De.nx) J D H0) (Q := fun x H1 => gName i x σ H1 De.nx) rfl hN I hi ok hs h (fun b J it D tn s4 R0 B z hR => loop_dict1 hc hu (hg b) (ht b) (hk b) (hv b) B z hR)
    fun D C s' m H' I' q hn f => use_name hN hy hyl I' q hn f) fun _ s' hq => wpAny_pure (wpAny_pure hq))
theorem swd_true {kx vx : Expr} {gs : List Comprehension} {scope : Scope} {pos py : Pos} {y : Str} {l : Nat} {env : Env} (hk : env.scope.kind = .function) (hy : env.scope.names.lookup y = some .local) (hl : (py.line == pos.line) = true)
    (ha : (scope.names.any fun (n, k) => n == y && (k == .local || k == .cell)) = false) : swapsWith (.DictComp kx vx gs scope pos) (some (.Name y py)) l env = pure true := by
  have ky : env.kindOf y = some .local := hy
  have hb : env.blockKind = .function := by
    unfold Env.blockKind
    rw [hk]
    rfl
  unfold swapsWith
  simp only [hb, ky, ha, Expr.pos, hl]
  rfl
end

/-! ### two clauses -/
def comp2 (kx vx t0 i0 t1 i1 : Expr) (ifs0 ifs1 : List Expr) (scope : Scope) (pos : Pos) : Expr := .DictComp kx vx [⟨t0, i0, ifs0, 0⟩, ⟨t1, i1, ifs1, 0⟩] scope pos
theorem turn2_out (kx vx t0 i0 t1 i1 : Expr) (ifs0 ifs1 : List Expr) (scope : Scope) (pos : Pos) (it acc : Value) (env : Env) :
    compTurn (comp2 kx vx t0 i0 t1 i1 ifs0 ifs1 scope pos) 0 it acc env = (do
      standAt i0.pos
      match ← pyNext it with
      | none => pure (.done .next)
      | some v =>
        letOwnedTupleGo t0 it v
        assign t0 env v
        let mut ok := true
        for c in ifs0 do
          if ok then ok ← isTrue c env (eval c env)
        if ok then
          let x ← eval i1 env
          standAt i1.pos
          let x ← foldedSetIterable i1 env x
          let _ ← runOwn (.compStart (comp2 kx vx t0 i0 t1 i1 ifs0 ifs1 scope pos) 1 (← holding [x] (pyIter x)) acc env) env
        again (.compLoop (comp2 kx vx t0 i0 t1 i1 ifs0 ifs1 scope pos) 0 it acc env)) := by rfl
theorem turn2_in (kx vx t0 i0 t1 i1 : Expr) (ifs0 ifs1 : List Expr) (scope : Scope) (pos : Pos) (it : Value) (D : Addr) (env : Env) :
    compTurn (comp2 kx vx t0 i0 t1 i1 ifs0 ifs1 scope pos) 1 it (.ref D) env = (do
      standAt i1.pos
      match ← pyNext it with
      | none => pure (.done .next)
      | some v =>
        letOwnedTupleGo t1 it v
        assign t1 env v
        let mut ok := true
        for c in ifs1 do
          if ok then ok ← isTrue c env (eval c env)
        if ok then
          (do
            let kv ← eval kx env
            let vv ← holding [kv] (eval vx env)
            standAt { kx.pos with endLine := vx.pos.endLine, endCol := vx.pos.endCol }
            holding [kv, vv] (dictSet D kv vv))
        again (.compLoop (comp2 kx vx t0 i0 t1 i1 ifs0 ifs1 scope pos) 1 it (.ref D) env)) := by rfl
section
variable {prog : Program} {w : World} {A : Around} {R : Result → Shared → Prop} {s : Shared} {kx vx t0 i0 t1 i1 : Expr} {ifs0 ifs1 : List Expr} {scope : Scope} {pos : Pos} {it acc : Value} {D : Addr} {env : Env}
abbrev TstOf (ifs : List Expr) (env : Env) : Sem Bool := forIn ifs true fun c r => if r = true then do let ok ← isTrue c env (eval c env); pure (ForInStep.yield ok) else pure (ForInStep.yield r)
theorem loop2_out (hs : ∀ x, foldedSetIterable i1 env x = pure x) (I : Nat → Shared → Prop)
    (turn : ∀ n s, I n s → wpAny (model prog w) A (pyNext it) (fun r s₁ => match r with
      | none => R (.ok .next) s₁
      | some v => wpAny (model prog w) A (letOwnedTupleGo t0 it v) (fun _ s₂ => wpAny (model prog w) A (assign t0 env v) (fun _ s₃ =>
          wpAny (model prog w) A (TstOf ifs0 env) (fun ok s₄ =>
            if ok = true then wpAny (model prog w) A (eval i1 env) (fun x s₅ => wpAny (model prog w) A (pyIter x) (fun it1 s₆ =>
              codeAny (model prog w) A (.compStart (comp2 kx vx t0 i0 t1 i1 ifs0 ifs1 scope pos) 1 it1 acc env) (fun r s' => match r with
                | .ok _ => ∃ m, m < n ∧ I m s'
                | .error _ => False) s₆) (fun _ _ => False) s₅) (fun _ _ => False) s₄
            else ∃ m, m < n ∧ I m s₄) (fun _ _ => False) s₃) (fun _ _ => False) s₂) (fun _ _ => False) s₁) (fun _ _ => False) s)
    (n : Nat) (h : I n s) : codeAny (model prog w) A (.compLoop (comp2 kx vx t0 i0 t1 i1 ifs0 ifs1 scope pos) 0 it acc env) R s := by
  refine codeAny_loop rfl I (fun n s hI => ?_) n h
  show wpAny _ A ((compTurn (comp2 kx vx t0 i0 t1 i1 ifs0 ifs1 scope pos) 0 it acc env).onRaise (fun x => do noteFrame x env; theTreesLotGoes x)) _ _ s
  refine wpAny_noted ?_
  rw [turn2_out]
  refine wpAny_bind (wpAny_standAt (wpAny_bind (thnF (turn n s hI) fun r s₁ h₁ => ?_)))
  cases r with
  | none => exact wpAny_pure h₁
  | some v =>
    refine wpAny_bind (thnF h₁ fun _ _ h₂ => wpAny_bind (thnF h₂ fun _ _ h₃ => wpAny_bind (thnF h₃ fun ok _ h₄ => ?_)))
    cases ok with
    | false => exact wpAny_pure ⟨rfl, h₄⟩
    | true =>
      refine wpAny_bind (thnF h₄ fun x _ h₅ => ?_)
      refine wpAny_bind (wpAny_standAt (wpAny_bind (wpAny_of_eq (hs x) (wpAny_bind (wpAny_holding (thnF h₅ fun it1 _ h₆ => wpAny_bind (wpAny_runOwn ?_)))))))
      rw [Around.mark_none]
      refine codeAny_mono h₆ fun r s' hr => ?_
      cases r with
      | ok f =>
        first
          | exact wpAny_pure ⟨rfl, hr⟩
          | exact wpAny_bind (wpAny_pure (wpAny_pure ⟨rfl, hr⟩))
      | error e => exact hr.elim
theorem loop2_in (I : Nat → Shared → Prop)
    (turn : ∀ n s, I n s → wpAny (model prog w) A (pyNext it) (fun r s₁ => match r with
      | none => R (.ok .next) s₁
      | some v => wpAny (model prog w) A (letOwnedTupleGo t1 it v) (fun _ s₂ => wpAny (model prog w) A (assign t1 env v) (fun _ s₃ =>
          wpAny (model prog w) A (TstOf ifs1 env) (fun ok s₄ =>
            if ok = true then wpAny (model prog w) A (eval kx env) (fun kv s₅ => wpAny (model prog w) A (eval vx env) (fun vv s₆ =>
              wpAny (model prog w) A (dictSet D kv vv) (fun _ s₇ => ∃ m, m < n ∧ I m s₇) (fun _ _ => False) s₆) (fun _ _ => False) s₅) (fun _ _ => False) s₄
            else ∃ m, m < n ∧ I m s₄) (fun _ _ => False) s₃) (fun _ _ => False) s₂) (fun _ _ => False) s₁) (fun _ _ => False) s)
    (n : Nat) (h : I n s) : codeAny (model prog w) A (.compLoop (comp2 kx vx t0 i0 t1 i1 ifs0 ifs1 scope pos) 1 it (.ref D) env) R s := by
  refine codeAny_loop rfl I (fun n s hI => ?_) n h
  show wpAny _ A ((compTurn (comp2 kx vx t0 i0 t1 i1 ifs0 ifs1 scope pos) 1 it (.ref D) env).onRaise (fun x => do noteFrame x env; theTreesLotGoes x)) _ _ s
  refine wpAny_noted ?_
  rw [turn2_in]
  refine wpAny_bind (wpAny_standAt (wpAny_bind (thnF (turn n s hI) fun r s₁ h₁ => ?_)))
  cases r with
  | none => exact wpAny_pure h₁
  | some v =>
    refine wpAny_bind (thnF h₁ fun _ _ h₂ => wpAny_bind (thnF h₂ fun _ _ h₃ => wpAny_bind (thnF h₃ fun ok _ h₄ => ?_)))
    cases ok with
    | false => exact wpAny_pure ⟨rfl, h₄⟩
    | true => exact wpAny_bind (wpAny_bind (thnF h₄ fun kv _ h₅ => wpAny_bind (wpAny_holding (thnF h₅ fun vv _ h₆ => wpAny_bind (wpAny_standAt (wpAny_holding (thnF h₆ fun _ _ h₇ => wpAny_pure ⟨rfl, h₇⟩)))))))
theorem start1_ok (h0 : codeAny (model prog w) A (.compLoop (comp2 kx vx t0 i0 t1 i1 ifs0 ifs1 scope pos) 1 it acc env) R s)
    (h : wpAny (model prog w) A (pyIter it) (fun it' s' => codeAny (model prog w) A (.compLoop (comp2 kx vx t0 i0 t1 i1 ifs0 ifs1 scope pos) 1 it' acc env) R s') (fun _ _ => False) s) :
    codeAny (model prog w) A (.compStart (comp2 kx vx t0 i0 t1 i1 ifs0 ifs1 scope pos) 1 it acc env) R s := by
  refine codeAny_of_tree ?_
  show wpAny _ _ ((compStart (comp2 kx vx t0 i0 t1 i1 ifs0 ifs1 scope pos) 1 it acc env).onRaise (fun x => do noteFrame x env; standAt theWindowsPlace)) _ _ s
  refine wpAny_notedAt ?_
  unfold compStart
  show wpAny _ _ (ask >>= _) _ _ s
  refine wpAny_bind (wpAny_askSetting (wpAny_ite ?_))
  split
  · first
      | exact wpAny_bind (wpAny_pure (wpAny_pure (And.intro rfl h0)))
      | exact wpAny_pure (And.intro rfl h0)
  · refine wpAny_bind (wpAny_rule ?_)
    show wpAny _ _ (standAt i1.pos >>= _) _ _ s
    exact wpAny_bind (wpAny_standAt (wpAny_bind (thnF h fun it' s' h' => wpAny_pure (And.intro rfl h'))))
end
def Z2 (g : TG) (tt : TT) (wi1 : TI) (g1 : TG) (tt1 : TT) (tk tv : TE) (vs vs1 : List Nat) (σ : L2.St) (Q : VK) (J : It) (D : Addr) (H0 : Hp) : Prop := ∃ W : Nat → Nat → Hp → Prop, (∃ m, W 0 m H0) ∧ ∀ i m H, W i m H → (J.stop i H ∧ Q (.ref D) H) ∨
  (J.go i H ∧ ∃ N : Hp → Prop, (∀ H', N H' → ∃ m', m' < m ∧ W (i + 1) m' H') ∧ ∀ x H', J.yld i H x H' → g x (wipe σ vs) H' fun σ2 H2 => wipe σ2 vs = wipe σ vs ∧ tt σ2 H2 fun b H3 =>
    if b = true then wi1 σ2 H3 fun J1 H4 => ∃ W1 : Nat → Nat → Hp → Prop, (∃ m, W1 0 m H4) ∧ ∀ j k H, W1 j k H → (J1.stop j H ∧ N H) ∨
      (J1.go j H ∧ ∃ N1 : Hp → Prop, (∀ H', N1 H' → ∃ k', k' < k ∧ W1 (j + 1) k' H') ∧ ∀ x H', J1.yld j H x H' → g1 x (wipe σ2 vs1) H' fun σ3 H5 => wipe σ3 vs1 = wipe σ2 vs1 ∧ tt1 σ3 H5 fun b H6 =>
        if b = true then tk σ3 H6 fun y H7 => tv σ3 H7 fun z H8 => KPut D y z H8 N1 else N1 H6)
    else N H3)
def tDT2 (wi : TI) (g : TG) (tt : TT) (wi1 : TI) (g1 : TG) (tt1 : TT) (tk tv : TE) (vs vs1 : List Nat) : TE := fun σ H Q => wi σ H fun J H1 => ∀ D, H1 D = none → Z2 g tt wi1 g1 tt1 tk tv vs vs1 σ Q J D (upd H1 D (.dT []))
section
variable {X : Cx}
theorem loop_dict2 {scope : Scope} {b : Bx} {σ : L2.St} {vs vs1 : List Nat} {tg iter tg1 iter1 kx vx : Expr} {ifs ifs1 : List Expr} {pos : Pos} {J : It} {it D : Addr} {tn : Nat → Heap → Prop} {s4 : Shared} {g g1 : TG} {tt tt1 : TT} {wi1 : TI} {tk tv : TE} {Q : VK} {R0 : Result → Shared → Prop} (hc : X.calm = true) (hu : X.A.units + 1 < cLine) (hv : ∀ i ∈ vs1, i ∈ vs)
    (pg : PG (Bk X scope b) tg g) (pt : PTs (Bk X scope b) ifs tt) (pi1 : PI (Bk X scope b) tg1 iter1 wi1) (pg1 : PG (Bk X scope b) tg1 g1) (pt1 : PTs (Bk X scope b) ifs1 tt1) (pk : PE (Bk X scope b) kx tk) (pv : PE (Bk X scope b) vx tv) (hs1 : ∀ x, foldedSetIterable iter1 (Bk X scope b).env x = pure x)
    (B : BlI (Bk X scope b) (wipe σ vs) tg J it b.fp tn b.H s4) (z : Z2 g tt wi1 g1 tt1 tk tv vs vs1 σ Q J D b.H)
    (hR : ∀ s6 H5, Inv (Bk X scope b) [] (wipe σ vs) H5 s6 → Q (.ref D) H5 → R0 (.ok .next) s6) : codeAny (model X.prog X.w) X.A (.compStart (.DictComp kx vx [⟨tg, iter, ifs, 0⟩, ⟨tg1, iter1, ifs1, 0⟩] scope pos) 0 (.ref it) (.ref D) (Bk X scope b).env) R0 s4 := by
  obtain ⟨W, ⟨m0, w0⟩, turn⟩ := z
  have loop : codeAny (model X.prog X.w) X.A (.compLoop (.DictComp kx vx [⟨tg, iter, ifs, 0⟩, ⟨tg1, iter1, ifs1, 0⟩] scope pos) 0 (.ref it) (.ref D) (Bk X scope b).env) R0 s4 := by
    refine loop2_out hs1 (fun n s' => ∃ i H', Inv (Bk X scope b) [] (wipe σ vs) H' s' ∧ tn i s'.heap ∧ (∀ c ∈ b.fp, H' c = none) ∧ W i n H') ?_ m0 ⟨0, b.H, B.I, B.st, B.nn, w0⟩
    rintro n s5 ⟨i, H5, I5, st5, n5, w5⟩
    rcases turn i n H5 w5 with ⟨stop, qq⟩ | ⟨go, N, hN, step⟩
    · refine thnF (B.T.done (Bk X scope b) rfl rfl rfl hc i [] s5 _ H5 (fun _ _ => False) I5 (B.fk H5 _ s5 I5 n5) st5 stop) fun r s6 ⟨hr, I6⟩ => ?_
      subst hr
      exact hR s6 H5 I6 qq
    · refine step_run (Y := Bk X scope b) hc rfl B.T pg pt I5 (B.fk H5 _ s5 I5 n5) st5 go (fun H' hn c hc => ⟨hn c hc, (B.fk H5 _ s5 I5 n5 c hc).2⟩) step fun c s9 σ8 H9 pl I9 hw q9 fin => ?_
      -- the turn's end: σ9 knows what the block's start knew
      have close : ∀ s' H' σ9, Inv (Bk X scope b) ([] ++ pl) σ9 H' s' → (∀ j v, (wipe σ vs)[j]? = some (some v) → σ9[j]? = some (some v)) → (wipe σ vs).length = σ9.length → N H' → ∃ m, m < n ∧ ∃ i H', Inv (Bk X scope b) [] (wipe σ vs) H' s' ∧ tn i s'.heap ∧ (∀ c ∈ b.fp, H' c = none) ∧ W i m H' := fun s' H' σ9 I' hk hl nx => by
        obtain ⟨m', hm, w'⟩ := hN H' nx
        obtain ⟨t1, t2⟩ := fin s' H' σ9 I'
        exact ⟨m', hm, i + 1, H', (I'.unpinned (pins := [])).weak hl hk, t1, t2, w'⟩
      have k8 : ∀ j v, (wipe σ vs)[j]? = some (some v) → σ8[j]? = some (some v) := fun j v e => by
        rw [← hw] at e
        exact (wipe_some e).1
      have l8 : (wipe σ vs).length = σ8.length := by rw [← hw, wipe_length]
      cases c with
      | false => exact close s9 H9 σ8 I9 k8 l8 q9
      | true =>
        rw [if_pos rfl]
        rw [if_pos rfl] at q9
        refine thnF (pi1.run _ s9 σ8 H9 _ I9 q9) fun xv s10 hx => thnF hx fun itv s11 ⟨it1, fp1, tn1, J1, H11, e1, I11, T1, st11, f11, W1, ⟨m1, w1⟩, turn1⟩ => ?_
        subst e1
        have fk1 : ∀ {H' : Hp}, (∀ c ∈ fp1, H' c = none) → ∀ c ∈ fp1, FpOk (Bk X scope b) ([] ++ pl) H' c := fun hn c hc => ⟨hn c hc, (f11 c hc).2⟩
        have k9 : ∀ j v, (wipe σ vs)[j]? = some (some v) → (wipe σ8 vs1)[j]? = some (some v) := fun j v e => by
          have e0 := e
          rw [← hw] at e0
          rw [wipe_out fun z => (wipe_some e0).2 (hv j z)]
          exact k8 j v e
        have loop1 : codeAny (model X.prog X.w) X.A (.compLoop (.DictComp kx vx [⟨tg, iter, ifs, 0⟩, ⟨tg1, iter1, ifs1, 0⟩] scope pos) 1 (.ref it1) (.ref D) (Bk X scope b).env) (fun r s' => match r with
              | .ok _ => ∃ m, m < n ∧ ∃ i H', Inv (Bk X scope b) [] (wipe σ vs) H' s' ∧ tn i s'.heap ∧ (∀ c ∈ b.fp, H' c = none) ∧ W i m H'
              | .error _ => False) s11 := by
          refine loop2_in (fun k s' => ∃ j H', Inv (Bk X scope b) ([] ++ pl) (wipe σ8 vs1) H' s' ∧ tn1 j s'.heap ∧ (∀ c ∈ fp1, H' c = none) ∧ W1 j k H') ?_ m1 ⟨0, H11, I11.weak (wipe_length _ _) (fun j v e => (wipe_some e).1), st11, fun c hc => (f11 c hc).1, w1⟩
          rintro k s12 ⟨j, H12, I12, st12, n12, w12⟩
          rcases turn1 j k H12 w12 with ⟨stop1, nx1⟩ | ⟨go1, N1, hN1, step1⟩
          · refine thnF (T1.done (Bk X scope b) rfl rfl rfl hc j _ s12 (wipe σ8 vs1) H12 (fun _ _ => False) I12 (fk1 n12) st12 stop1) fun r s13 ⟨hr, I13⟩ => ?_
            subst hr
            exact close s13 H12 _ I13 k9 (l8.trans (wipe_length σ8 vs1).symm) nx1
          · refine step_run (Y := Bk X scope b) hc rfl T1 pg1 pt1 I12 (fk1 n12) st12 go1 (fun H' hn => fk1 hn) step1 fun c s16 σ15 H16 pl1 I16 hw1 q16 fin1 => ?_
            have close1 : ∀ s' H', Inv (Bk X scope b) (([] ++ pl) ++ pl1) σ15 H' s' → N1 H' → ∃ m, m < k ∧ ∃ j H', Inv (Bk X scope b) ([] ++ pl) (wipe σ8 vs1) H' s' ∧ tn1 j s'.heap ∧ (∀ c ∈ fp1, H' c = none) ∧ W1 j m H' := fun s' H' I' nx => by
              obtain ⟨m', hm, w'⟩ := hN1 H' nx
              obtain ⟨t1, t2⟩ := fin1 s' H' σ15 I'
              exact ⟨m', hm, j + 1, H', back I' hw1, t1, t2, w'⟩
            cases c with
            | false => exact close1 s16 H16 I16 q16
            | true =>
              rw [if_pos rfl]
              rw [if_pos rfl] at q16
              refine thnF (pk.run _ s16 σ15 H16 _ I16 q16) fun u s17 ⟨y, H17, I17, r17, q17⟩ => ?_
              refine thnF (pv.run _ s17 σ15 H17 _ I17 q17) fun u2 s18 ⟨v, H18, I18, r18, ws, k, kb, ey, hk, hD, hz, nx⟩ => ?_
              subst ey
              cases (show u = Value.ref kb from r17)
              exact put_key (Y := Bk X scope b) hu I18 hD hz hk r18 fun s19 I19 => close1 s19 _ I19 nx
        exact start1_ok loop1 (T1.self X.A 0 _ _ _ st11 loop1)
  exact codeAny_compStart_dict loop (B.T.self X.A 0 _ _ _ B.st loop)
theorem pe_dT2 {kx vx tg iter tg1 iter1 : Expr} {ifs ifs1 : List Expr} {scope : Scope} {own : List (Str × Nat)} {vs1 : List Nat} {pos : Pos} {wi wi1 : TI} {g g1 : TG} {tt tt1 : TT} {tk tv : TE} (hc : X.calm = true) (hN : X.N.Nodup) (hu : X.A.units + 1 < cLine) (hi : PI X tg iter wi) (ok : BlkOk X.N X.env.scope scope own) (hvs : ∀ i ∈ vs1, i ∈ own.map (·.2))
    (hg : ∀ b : Bx, PG (Bk X scope b) tg g) (ht : ∀ b : Bx, PTs (Bk X scope b) ifs tt) (hi1 : ∀ b : Bx, PI (Bk X scope b) tg1 iter1 wi1) (hg1 : ∀ b : Bx, PG (Bk X scope b) tg1 g1) (ht1 : ∀ b : Bx, PTs (Bk X scope b) ifs1 tt1) (hk : ∀ b : Bx, PE (Bk X scope b) kx tk) (hv : ∀ b : Bx, PE (Bk X scope b) vx tv)
    (hs : ∀ x, foldedSetIterable iter X.env x = pure x) (hs1 : ∀ env x, foldedSetIterable iter1 env x = pure x) : PE X (.DictComp kx vx [⟨tg, iter, ifs, 0⟩, ⟨tg1, iter1, ifs1, 0⟩] scope pos) (tDT2 wi g tt wi1 g1 tt1 tk tv (own.map (·.2)) vs1) := by
  refine ⟨fun pins s σ H Q I h => ?_⟩
  rw [arm_eval_DictComp]
  refine dict_shell (Z := fun J D H0 => Z2 g tt wi1 g1 tt1 tk tv (own.map fun z : Str × Nat => z.2) vs1 σ Q J D H0) (Q := Q) rfl hN I hi ok hs h (fun b J it D tn s4 R0 B z hR => loop_dict2 hc hu hvs (hg b) (ht b) (hi1 b) (hg1 b) (ht1 b) (hk b) (hv b) (hs1 _) B z hR) fun D C s' m H' I' q hn f => ⟨m, hn, fun h'' sb => ?_⟩
  obtain ⟨f0, f1, _, f3, f4, f5⟩ := f
  exact ⟨.ref D, H', I'.turned (t' := s'.toks) (fun b o hb e => (sb.2 b hb).trans e) f0 f1 f3 f4 f5, rfl, q⟩
end
end BW

namespace BW
open PySem PySem.Spec PyProof.Rows L2

/-! ### dict comprehensions over data -/
theorem ifT {A B : Prop} (h : A) : if true = true then A else B := h
theorem yesT {Y : Cx} {σ : L2.St} {H : Hp} {Q : Bool → Hp → Prop} (h : Q true H) : tFm Y [] σ H Q := h
theorem we_lock {X : Cx} {e : Expr} {σ : L2.St} {H : Hp} {Q : VK} (h : We X e σ H fun v H' => ∃ a u, v = .ref a ∧ H' a = some u ∧ Mut (some u) ∧ ∀ od, Q v (upd H' a (.frz od u))) : We X e σ H Q := fun pins s I =>
  thn (h pins s I) fun v s1 ⟨x, H1, I1, r, a, u, ex, hu, mu, q⟩ => by
    obtain ⟨od, I2⟩ := I1.lock hu mu
    exact ⟨x, _, I2, r, q od⟩
theorem pk_len {α : Type} (kvs : List (List Key × α)) (k : List Key) (v : α) : (pk kvs k v).length ≤ kvs.length + 1 := by
  unfold pk
  split
  · rw [List.length_map]
    omega
  · rw [List.length_append]
    exact Nat.le_refl _
theorem it_run {K : PySem.W.Frag} {F1 H0 : Hp} {ds : List PyData} {It : It} {G : (Hp → Prop) → V → Hp → Prop} {Qd : Hp → Prop} (y : Yl K It F1 ds) (Pv : Nat → Hp → Prop) (h0 : Pv 0 H0) (same : ∀ i H, i ≤ ds.length → Pv i H → Same F1 H)
    (step : ∀ i v H H', i < ds.length → Pv i H → YRp K F1 ds i H v H' → G (Pv (i + 1)) v H') (fin : ∀ H, Pv ds.length H → Qd H) :
    ∃ W : Nat → Nat → Hp → Prop, (∃ m, W 0 m H0) ∧ ∀ i m H, W i m H → (It.stop i H ∧ Qd H) ∨ (It.go i H ∧ ∃ N : Hp → Prop, (∀ H', N H' → ∃ m', m' < m ∧ W (i + 1) m' H') ∧ ∀ x H', It.yld i H x H' → G N x H') := by
  refine ⟨fun i m H => m = ds.length - i ∧ i ≤ ds.length ∧ Pv i H, ⟨ds.length, rfl, Nat.zero_le _, h0⟩, ?_⟩
  rintro i m H ⟨rfl, hi, p⟩
  obtain ⟨y1, y2, y3⟩ := y
  have sm := same i H hi p
  by_cases hl : i < ds.length
  · exact .inr ⟨y1 i H hl sm, Pv (i + 1), fun H' p' => ⟨ds.length - (i + 1), by omega, rfl, hl, p'⟩, fun x H' hy => step i x H H' hl p (y3 i H x H' hl sm hy)⟩
  · have e : i = ds.length := by omega
    subst e
    exact .inl ⟨y2 H sm, fin H p⟩
section
variable {X : Cx} {ρ : Rho} {μ : Mu} {e kx vx tg iter tg1 iter1 : Expr} {ifs ifs1 : List Expr} {pos : Pos} {P : PR}
/-- what a clause's last part does: the key, the value, the entry -/
def Ent (X : Cx) (scope : Scope) (ρ2 : Rho) (μ3 : Mu) (kx vx : Expr) (acc : List (List Key × Rv)) (N : Mu → List (List Key × Rv) → Prop) : Prop :=
  ∀ b : Bx, Dm (Bk X scope b) ρ2 μ3 kx fun μ4 r => ∀ b : Bx, Dm (Bk X scope b) ρ2 μ4 vx fun μ5 r' => ∃ k, r = .dat (keyD k) ∧ kc (k.map kD) = false ∧ acc.length ≤ 1000 ∧ N μ5 (pk acc k r')
theorem ent_run {scope : Scope} {ρ2 : Rho} {μ3 : Mu} {acc : List (List Key × Rv)} {N : Mu → List (List Key × Rv) → Prop} (h : Ent X scope ρ2 μ3 kx vx acc N) {R F4 H4 : Hp} {as4 : List Addr} {σ3 : L2.St} {D : Addr} {ws : List (List Key × V)} (S4 : Sta X.K (upd R D (.dT ws)) F4 H4 as4 σ3 ρ2 μ3)
    (pa : KP (ROk X.K F4 as4) ws acc) {NX : Hp → Prop}
    (q : ∀ F5 H5 as5 μ5 ws' acc', Sta X.K (upd R D (.dT ws')) F5 H5 as5 σ3 ρ2 μ5 → Ext F4 as4 F5 as5 → KP (ROk X.K F5 as5) ws' acc' → N μ5 acc' → NX H5) : WeB X scope kx σ3 H4 fun y H5 => WeB X scope vx σ3 H5 fun z H6 => KPut D y z H6 NX := by
  intro b
  refine h b _ F4 H4 as4 σ3 S4 _ fun y F5 H5 as5 μ5 r5 S5 x5 o5 h5 => ?_
  intro b
  refine h5 b _ F5 H5 as5 σ3 S5 _ fun z F6 H6 as6 μ6 r6 S6 x6 o6 ⟨k, e, hk, hl, h6⟩ => ?_
  subst e
  obtain ⟨kb, rfl, hkb⟩ := key_at (o5.ext x6) hk
  have pa6 : KP (ROk X.K F6 as6) ws acc := Paired.mapP pa fun _ _ z => ⟨z.1, z.2.ext (x5.trans x6)⟩
  refine ⟨ws, k, kb, rfl, S6.fh _ _ hkb, S6.asideIs.1, small1000 (by rw [kp_len pa6]; exact hl), ?_⟩
  exact q F6 _ as6 μ6 _ _ S6.asideSet (x5.trans x6) (pk_pair pa6 o6) h6
def Dc (X : Cx) (ρ : Rho) (scope : Scope) (vs : List Nat) (tg kx vx : Expr) (ifs : List Expr) (ds : List PyData) (I : Nat → Mu → List (List Key × Rv) → Prop) : Prop :=
  ∀ i d μ' acc, ds[i]? = some d → I i μ' acc → ∀ b : Bx, Gj (Bk X scope b) (wipeR ρ vs) μ' tg vs (.dat d) fun ρ2 μ2 =>
    ∀ b : Bx, Fm (Bk X scope b) ρ2 μ2 ifs fun μ3 k => (k = true → Ent X scope ρ2 μ3 kx vx acc (I (i + 1))) ∧ (k = false → I (i + 1) μ3 acc)
theorem dc_run {scope : Scope} {vs : List Nat} {ds : List PyData} {I : Nat → Mu → List (List Key × Rv) → Prop} (h : Dc X ρ scope vs tg kx vx ifs ds I) {R F1 H1 : Hp} {as1 : List Addr} {σ : L2.St} {μ1 : Mu} (S1 : Sta X.K R F1 H1 as1 σ ρ μ1) (h0 : I 0 μ1 []) {It : It} (y : Yl X.K It F1 ds)
    {D : Addr} (hD : H1 D = none) {Q : VK} (q : ∀ F' H' as' μ' ws acc, Sta X.K (upd R D (.dT ws)) F' H' as' σ ρ μ' → Ext F1 as1 F' as' → KP (ROk X.K F' as') ws acc → I ds.length μ' acc → Q (.ref D) H') :
    Z1 (WgB X scope tg) (WfB X scope ifs) (WeB X scope kx) (WeB X scope vx) vs σ Q It D (upd H1 D (.dT [])) := by
  refine it_run (G := fun N x H' => WgB X scope tg x (L2.wipe σ vs) H' fun σ2 H2 => L2.wipe σ2 vs = L2.wipe σ vs ∧ WfB X scope ifs σ2 H2 fun b H3 => if b = true then WeB X scope kx σ2 H3 fun y H4 => WeB X scope vx σ2 H4 fun z H5 => KPut D y z H5 N else N H3) y
    (fun i H => ∃ F' as' μ' ws acc, Sta X.K (upd R D (.dT ws)) F' H as' σ ρ μ' ∧ Ext F1 as1 F' as' ∧ KP (ROk X.K F' as') ws acc ∧ I i μ' acc) ⟨F1, as1, μ1, [], [], S1.aside hD, Ext.refl _ _, .nil, h0⟩ ?_ ?_ ?_
  · rintro i H hi ⟨F', as', μ', ws, acc, S', x', _⟩
    exact x'.f.trans S'.fh
  · rintro i v H H' hi ⟨F', as', μ', ws, acc, S', x', pa, hI⟩ yy b
    obtain ⟨F2, d, S2, x2, h2, o2⟩ := sta_yield S' x'.f yy
    refine h i d μ' acc h2 hI b _ F2 H' as' _ v (S2.wipe vs) (okD o2) _ fun σ3 F3 H3 as3 ρ3 μ3 S3 x3 ag h3 => ?_
    refine ⟨wipe_agr ag, fun b => ?_⟩
    refine fm_run (h3 b) S3 fun k F4 H4 as4 μ4 S4 x4 h4 => ?_
    have x24 := (x2.trans x3).trans x4
    have pa4 : KP (ROk X.K F4 as4) ws acc := Paired.mapP pa fun _ _ z => ⟨z.1, z.2.ext x24⟩
    have slots : ∀ {F5 H5 as5 μ5 ws'}, Sta X.K (upd R D (.dT ws')) F5 H5 as5 σ3 ρ3 μ5 → Ext F' as' F5 as5 → Sta X.K (upd R D (.dT ws')) F5 H5 as5 σ ρ μ5 := fun S5 x => S5.slots S'.sl fun j r hj => by
      obtain ⟨v, e1, e2⟩ := S'.slt j r hj
      exact ⟨v, e1, e2.ext x⟩
    cases k with
    | true =>
      rw [if_pos rfl]
      exact ent_run (h4.1 rfl) S4 pa4 fun F5 H5 as5 μ5 ws' acc' S5 x5 pa5 h5 => ⟨F5, as5, μ5, ws', acc', slots S5 (x24.trans x5), x'.trans (x24.trans x5), pa5, h5⟩
    | false =>
      rw [if_neg Bool.false_ne_true]
      exact ⟨F4, as4, μ4, ws, acc, slots S4 x24, x'.trans x24, pa4, h4.2 rfl⟩
  · rintro H ⟨F', as', μ', ws, acc, S', x', pa, hI⟩
    exact q F' H as' μ' ws acc S' x' pa hI
def DcP (X : Cx) (ρ : Rho) (scope : Scope) (vs : List Nat) (tg kx vx : Expr) (ifs : List Expr) (P : Mu → List (List Key × Rv) → Prop) : Mu → List PyData → Prop := fun μ1 ds =>
  ∃ I : Nat → Mu → List (List Key × Rv) → Prop, I 0 μ1 [] ∧ Dc X ρ scope vs tg kx vx ifs ds I ∧ ∀ μ' acc, I ds.length μ' acc → P μ' acc
def tDcM (X : Cx) (scope : Scope) (vs : List Nat) (tg iter kx vx : Expr) (ifs : List Expr) : TE := tDT (Wi X tg iter) (WgB X scope tg) (WfB X scope ifs) (WeB X scope kx) (WeB X scope vx) vs
theorem dcM_run {scope : Scope} {vs : List Nat} {P : Mu → List (List Key × Rv) → Prop} (h : Im X ρ μ tg iter (DcP X ρ scope vs tg kx vx ifs P)) {R F H as σ} (S : Sta X.K R F H as σ ρ μ) {Q : VK}
    (q : ∀ D F' H' as' μ' ws acc, R D = none → Sta X.K (upd R D (.dT ws)) F' H' as' σ ρ μ' → Ext F as F' as' → KP (ROk X.K F' as') ws acc → P μ' acc → Q (.ref D) H') : tDcM X scope vs tg iter kx vx ifs σ H Q := by
  refine h R F H as σ S _ fun It F1 H1 as1 μ1 ds S1 x1 y1 h1 => ?_
  obtain ⟨I, h0, hL, hd⟩ := h1
  intro D hD
  exact dc_run hL S1 h0 y1 hD fun F' H' as' μ' ws acc S' x' pa hI => q D F' H' as' μ' ws acc (fresh_of S1.rh hD) S' (x1.trans x') pa (hd μ' acc hI)
theorem gB (scope : Scope) (tg : Expr) : ∀ b : Bx, PG (Bk X scope b) tg (WgB X scope tg) := fun b => ⟨fun pins s' σ H' v u Q I r h => h b pins s' u I r⟩
theorem fB (scope : Scope) (ifs : List Expr) : ∀ b : Bx, PTs (Bk X scope b) ifs (WfB X scope ifs) := fun b => ⟨fun pins s' σ H' Q I h => (pts_fm _ ifs).run pins s' σ H' Q I (h b)⟩
theorem eB (scope : Scope) (e : Expr) : ∀ b : Bx, PE (Bk X scope b) e (WeB X scope e) := fun b => ⟨fun pins s' σ H' Q I h => h b pins s' I⟩
theorem iB (scope : Scope) (tg e : Expr) : ∀ b : Bx, PI (Bk X scope b) tg e (WiB X scope tg e) := fun b => ⟨fun pins s' σ H' R I h => h b pins s' I⟩
/-- the new dict's end, locked: data -/
theorem post_dcZ {R F : Hp} {as : List Addr} {σ : L2.St} {Q : VK} (q : Post X.K R F as σ ρ P Q) {D : Addr} {F' H' : Hp} {as' : List Addr} {μ' : Mu} {ws : List (List Key × V)} {kds : List (List Key × PyData)} (hR : R D = none) (S : Sta X.K (upd R D (.dT ws)) F' H' as' σ ρ μ') (x : Ext F as F' as') (pa : KP (ROk X.K F' as') ws (kds.map fun p => (p.1, Rv.dat p.2))) (h : P μ' (.dat (dD kds))) :
    ∃ a u, V.ref D = .ref a ∧ H' a = some u ∧ Mut (some u) ∧ ∀ od, Q (.ref D) (upd H' a (.frz od u)) := by
  refine ⟨D, .dT ws, rfl, S.asideIs.1, True.intro, fun od => ?_⟩
  have S2 := S.asideSet (o' := .frz od (.dT ws))
  have hF := S2.asideIs.2
  exact q _ _ _ as' μ' (.dat (dD kds)) (S2.asideZ hR) (x.trans ⟨same_upd hF, List.prefix_refl _⟩) (okD (.dct upd_same ((kp_rpK (kp_undat pa)).mono (Gw.of (same_upd hF))))) h
theorem post_dcO {R F : Hp} {as : List Addr} {σ : L2.St} {Q : VK} (q : Post X.K R F as σ ρ P Q) {D : Addr} {F' H' : Hp} {as' : List Addr} {μ' : Mu} {ws : List (List Key × V)} {acc : List (List Key × Rv)} (hR : R D = none) (S : Sta X.K (upd R D (.dT ws)) F' H' as' σ ρ μ') (x : Ext F as F' as') (pa : KP (ROk X.K F' as') ws acc) (h : P (μ' ++ [.M acc]) (.own μ'.length)) : Q (.ref D) H' := by
  obtain ⟨hH, hF⟩ := S.asideIs
  refine q _ F' H' (as' ++ [D]) _ (.own μ'.length) (S.asideO hR (c := .M acc) ⟨ws, hH, hF, hR, Paired.mapP pa fun _ _ z => ⟨z.1, z.2.mono (Gw.refl _) (List.prefix_append _ _)⟩⟩) (x.trans ⟨Same.refl _, List.prefix_append _ _⟩) ⟨D, ?_, rfl⟩ h
  rw [← S.len]
  simp
/-- {k: v for ..}: data -/
theorem dm_dc {scope : Scope} {own : List (Str × Nat)} (hN : X.N.Nodup) (hu : X.A.units + 1 < cLine) (ok : BlkOk X.N X.env.scope scope own) (h : Im X ρ μ tg iter (DcP X ρ scope (own.map (·.2)) tg kx vx ifs fun μ' acc => ∃ kds : List (List Key × PyData), acc = kds.map (fun p => (p.1, Rv.dat p.2)) ∧ P μ' (.dat (dD kds)))) (hc : X.calm = true := by rfl)
    (hs : ∀ x, foldedSetIterable iter X.env x = pure x := by intro _; rfl) : Dm X ρ μ (.DictComp kx vx [⟨tg, iter, ifs, 0⟩] scope pos) P := fun R F H as σ S Q q =>
  we_lock (We.of (pe_dT hc hN hu (Wi.pi X tg iter) ok (gB scope tg) (fB scope ifs) (eB scope kx) (eB scope vx) hs) (dcM_run h S fun D F' H' as' μ' ws acc hR S' x' pa h' => by
    obtain ⟨kds, rfl, h'⟩ := h'
    exact post_dcZ q hR S' x' pa h'))
/-- {k: v for ..}: a cell -/
theorem dm_dcO {scope : Scope} {own : List (Str × Nat)} (hN : X.N.Nodup) (hu : X.A.units + 1 < cLine) (ok : BlkOk X.N X.env.scope scope own) (h : Im X ρ μ tg iter (DcP X ρ scope (own.map (·.2)) tg kx vx ifs fun μ' acc => P (μ' ++ [.M acc]) (.own μ'.length))) (hc : X.calm = true := by rfl)
    (hs : ∀ x, foldedSetIterable iter X.env x = pure x := by intro _; rfl) : Dm X ρ μ (.DictComp kx vx [⟨tg, iter, ifs, 0⟩] scope pos) P := fun R F H as σ S Q q =>
  We.of (pe_dT hc hN hu (Wi.pi X tg iter) ok (gB scope tg) (fB scope ifs) (eB scope kx) (eB scope vx) hs) (dcM_run h S fun D F' H' as' μ' ws acc hR S' x' pa h' => post_dcO q hR S' x' pa h')
/-- name = {k: v for ..}: a cell -/
theorem ds_setDc {scope : Scope} {own : List (Str × Nat)} {i : Nat} {y : Str} {py spos : Pos} {J : Jm} {rest : List Stmt} (hN : X.N.Nodup) (hu : X.A.units + 1 < cLine) (ok : BlkOk X.N X.env.scope scope own) (hy : X.N[i]? = some y)
    (h : Im X ρ μ tg iter (DcP X ρ scope (own.map (·.2)) tg kx vx ifs fun μ' acc => Ds X (ρ.set i (some (.own μ'.length))) (μ' ++ [.M acc]) rest J)) (hli : Nat.blt i ρ.length = true := by rfl) (hyl : X.env.scope.names.lookup y = some .local := by rfl)
    (hsw : swapsWith (.DictComp kx vx [⟨tg, iter, ifs, 0⟩] scope pos) (some (.Name y py)) spos.line X.env = pure true := by exact swd_true rfl rfl rfl (by decide +kernel)) (hc : X.calm = true := by rfl)
    (hs : ∀ x, foldedSetIterable iter X.env x = pure x := by intro _; rfl) : Ds X ρ μ (.Assign [.Name y py] (.DictComp kx vx [⟨tg, iter, ifs, 0⟩] scope pos) spos :: rest) J :=
  ds_cons_of (ps_dT hc hN hu hy hyl hsw (Wi.pi X tg iter) ok (gB scope tg) (fB scope ifs) (eB scope kx) (eB scope vx) hs) fun R F H as σ S D j => dcM_run (Q := fun x H1 => gName i x σ H1 _) h S fun a F' H' as' μ' ws acc hR S' x' pa h' => by
    obtain ⟨hH, hF⟩ := S'.asideIs
    have S2 := S'.asideO hR (c := .M acc) ⟨ws, hH, hF, hR, Paired.mapP pa fun _ _ z => ⟨z.1, z.2.mono (Gw.refl _) (List.prefix_append _ _)⟩⟩
    refine h' R F' H' (as' ++ [a]) _ (S2.store ⟨a, ?_, rfl⟩ (Nat.le_of_ble_eq_true hli)) D (j.ext (x'.trans ⟨Same.refl _, List.prefix_append _ _⟩))
    rw [← S'.len]
    simp
/-! two clauses -/
def ImB (X : Cx) (scope : Scope) (ρ : Rho) (μ : Mu) (tg iter : Expr) (P : Mu → List PyData → Prop) : Prop := ∀ b : Bx, Im (Bk X scope b) ρ μ tg iter P
def Dc2 (X : Cx) (ρ : Rho) (scope : Scope) (vs vs1 : List Nat) (tg tg1 iter1 kx vx : Expr) (ds : List PyData) (I : Nat → Mu → List (List Key × Rv) → Prop) : Prop :=
  ∀ i d μ' acc, ds[i]? = some d → I i μ' acc → ∀ b : Bx, Gj (Bk X scope b) (wipeR ρ vs) μ' tg vs (.dat d) fun ρ2 μ2 => ImB X scope ρ2 μ2 tg1 iter1 fun μ3 ds1 => ∃ I1 : Nat → Mu → List (List Key × Rv) → Prop, I1 0 μ3 acc ∧
    (∀ j d1 μ4 acc1, ds1[j]? = some d1 → I1 j μ4 acc1 → ∀ b : Bx, Gj (Bk X scope b) (wipeR ρ2 vs1) μ4 tg1 vs1 (.dat d1) fun ρ3 μ5 => Ent X scope ρ3 μ5 kx vx acc1 (I1 (j + 1))) ∧ ∀ μ4 acc1, I1 ds1.length μ4 acc1 → I (i + 1) μ4 acc1
theorem dc2_run {scope : Scope} {vs vs1 : List Nat} {ds : List PyData} {I : Nat → Mu → List (List Key × Rv) → Prop} (h : Dc2 X ρ scope vs vs1 tg tg1 iter1 kx vx ds I) {R F1 H1 : Hp} {as1 : List Addr} {σ : L2.St} {μ1 : Mu} (S1 : Sta X.K R F1 H1 as1 σ ρ μ1) (h0 : I 0 μ1 []) {It : It} (y : Yl X.K It F1 ds)
    {D : Addr} (hD : H1 D = none) {Q : VK} (q : ∀ F' H' as' μ' ws acc, Sta X.K (upd R D (.dT ws)) F' H' as' σ ρ μ' → Ext F1 as1 F' as' → KP (ROk X.K F' as') ws acc → I ds.length μ' acc → Q (.ref D) H') :
    Z2 (WgB X scope tg) (WfB X scope []) (WiB X scope tg1 iter1) (WgB X scope tg1) (WfB X scope []) (WeB X scope kx) (WeB X scope vx) vs vs1 σ Q It D (upd H1 D (.dT [])) := by
  refine it_run (G := fun N x H' => WgB X scope tg x (L2.wipe σ vs) H' fun σ2 H2 => L2.wipe σ2 vs = L2.wipe σ vs ∧ WfB X scope [] σ2 H2 fun b H3 => if b = true then WiB X scope tg1 iter1 σ2 H3 fun J1 H4 => ∃ W1 : Nat → Nat → Hp → Prop, (∃ m, W1 0 m H4) ∧ ∀ j k H, W1 j k H → (J1.stop j H ∧ N H) ∨
      (J1.go j H ∧ ∃ N1 : Hp → Prop, (∀ H', N1 H' → ∃ k', k' < k ∧ W1 (j + 1) k' H') ∧ ∀ x H', J1.yld j H x H' → WgB X scope tg1 x (L2.wipe σ2 vs1) H' fun σ3 H5 => L2.wipe σ3 vs1 = L2.wipe σ2 vs1 ∧ WfB X scope [] σ3 H5 fun b H6 => if b = true then WeB X scope kx σ3 H6 fun y H7 => WeB X scope vx σ3 H7 fun z H8 => KPut D y z H8 N1 else N1 H6) else N H3) y
    (fun i H => ∃ F' as' μ' ws acc, Sta X.K (upd R D (.dT ws)) F' H as' σ ρ μ' ∧ Ext F1 as1 F' as' ∧ KP (ROk X.K F' as') ws acc ∧ I i μ' acc) ⟨F1, as1, μ1, [], [], S1.aside hD, Ext.refl _ _, .nil, h0⟩ ?_ ?_ ?_
  · rintro i H hi ⟨F', as', μ', ws, acc, S', x', _⟩
    exact x'.f.trans S'.fh
  · rintro i v H H' hi ⟨F', as', μ', ws, acc, S', x', pa, hI⟩ yy b
    obtain ⟨F2, d, S2, x2, h2, o2⟩ := sta_yield S' x'.f yy
    refine h i d μ' acc h2 hI b _ F2 H' as' _ v (S2.wipe vs) (okD o2) _ fun σ3 F3 H3 as3 ρ3 μ3 S3 x3 ag h3 => ?_
    refine ⟨wipe_agr ag, fun b => ?_⟩
    refine yesT (ifT ?_)
    intro b
    refine h3 b _ F3 H3 as3 σ3 S3 _ fun It1 F4 H4 as4 μ4 ds1 S4 x4 y4 ⟨I1, g0, g1, g2⟩ => ?_
    have x24 := (x2.trans x3).trans x4
    have pa4 : KP (ROk X.K F4 as4) ws acc := Paired.mapP pa fun _ _ z => ⟨z.1, z.2.ext x24⟩
    refine it_run (G := fun N1 x H' => WgB X scope tg1 x (L2.wipe σ3 vs1) H' fun σ4 H5 => L2.wipe σ4 vs1 = L2.wipe σ3 vs1 ∧ WfB X scope [] σ4 H5 fun b H6 => if b = true then WeB X scope kx σ4 H6 fun y H7 => WeB X scope vx σ4 H7 fun z H8 => KPut D y z H8 N1 else N1 H6) y4
      (fun j H => ∃ F5 as5 μ5 ws acc, Sta X.K (upd R D (.dT ws)) F5 H as5 σ3 ρ3 μ5 ∧ Ext F4 as4 F5 as5 ∧ KP (ROk X.K F5 as5) ws acc ∧ I1 j μ5 acc) ⟨F4, as4, μ4, ws, acc, S4, Ext.refl _ _, pa4, g0⟩ ?_ ?_ ?_
    · rintro j H hj ⟨F5, as5, μ5, ws, acc, S5, x5, _⟩
      exact x5.f.trans S5.fh
    · rintro j v1 H5 H6 hj ⟨F5, as5, μ5, ws, acc, S5, x5, pa5, hI1⟩ yy1 b
      obtain ⟨F6, d1, S6, x6, h6, o6⟩ := sta_yield S5 x5.f yy1
      refine g1 j d1 μ5 acc h6 hI1 b _ F6 H6 as5 _ v1 (S6.wipe vs1) (okD o6) _ fun σ7 F7 H7 as7 ρ7 μ7 S7 x7 ag7 h7 => ?_
      refine ⟨wipe_agr ag7, fun b => ?_⟩
      refine yesT (ifT ?_)
      have x57 := x6.trans x7
      exact ent_run h7 S7 (Paired.mapP pa5 fun _ _ z => ⟨z.1, z.2.ext x57⟩) fun F8 H8 as8 μ8 ws' acc' S8 x8 pa8 h8 => ⟨F8, as8, μ8, ws', acc', S8.slots S5.sl fun j r hj => by
        obtain ⟨v, e1, e2⟩ := S5.slt j r hj
        exact ⟨v, e1, e2.ext (x57.trans x8)⟩, x5.trans (x57.trans x8), pa8, h8⟩
    · rintro H ⟨F5, as5, μ5, ws, acc, S5, x5, pa5, hI1⟩
      exact ⟨F5, as5, μ5, ws, acc, S5.slots S'.sl fun j r hj => by
        obtain ⟨v, e1, e2⟩ := S'.slt j r hj
        exact ⟨v, e1, e2.ext (x24.trans x5)⟩, x'.trans (x24.trans x5), pa5, g2 μ5 acc hI1⟩
  · rintro H ⟨F', as', μ', ws, acc, S', x', pa, hI⟩
    exact q F' H as' μ' ws acc S' x' pa hI
/-- {k: v for .. for ..}: data -/
theorem dm_dc2 {scope : Scope} {own : List (Str × Nat)} {vs1 : List Nat} (hN : X.N.Nodup) (hu : X.A.units + 1 < cLine) (ok : BlkOk X.N X.env.scope scope own) (hvs : ∀ i ∈ vs1, i ∈ own.map (·.2))
    (h : Im X ρ μ tg iter fun μ1 ds => ∃ I : Nat → Mu → List (List Key × Rv) → Prop, I 0 μ1 [] ∧ Dc2 X ρ scope (own.map fun z : Str × Nat => z.2) vs1 tg tg1 iter1 kx vx ds I ∧ ∀ μ' acc, I ds.length μ' acc → ∃ kds : List (List Key × PyData), acc = kds.map (fun p => (p.1, Rv.dat p.2)) ∧ P μ' (.dat (dD kds))) (hc : X.calm = true := by rfl)
    (hs : ∀ x, foldedSetIterable iter X.env x = pure x := by intro _; rfl) (hs1 : ∀ env x, foldedSetIterable iter1 env x = pure x := by intro _ _; rfl) : Dm X ρ μ (.DictComp kx vx [⟨tg, iter, [], 0⟩, ⟨tg1, iter1, [], 0⟩] scope pos) P := fun R F H as σ S Q q => by
  refine we_lock (We.of (pe_dT2 hc hN hu (Wi.pi X tg iter) ok hvs (gB scope tg) (fB scope []) (iB scope tg1 iter1) (gB scope tg1) (fB scope []) (eB scope kx) (eB scope vx) hs hs1) ?_)
  refine h R F H as σ S _ fun It F1 H1 as1 μ1 ds S1 x1 y1 ⟨I, h0, hL, hd⟩ => ?_
  intro D hD
  refine dc2_run hL S1 h0 y1 hD fun F' H' as' μ' ws acc S' x' pa hI => ?_
  obtain ⟨kds, rfl, h'⟩ := hd μ' acc hI
  exact post_dcZ q (fresh_of S1.rh hD) S' (x1.trans x') pa h'
end
end BW

namespace BW
open PySem PySem.Spec PyProof.Rows L2

/-! ### the pairs of a locked dict whose keys are tuples -/
theorem locked_rows {X : Cx} {pins : List (Addr × Obj)} {σ : L2.St} {H : Hp} {s : Shared} {d : Addr} {o : Obj} {ws : List (List Key × V)} (I : Inv X pins σ H s) (h : H d = some (.frz o (.dT ws))) :
    (d == sysModules) = false ∧ ∃ (es : Array DictEntry) (ep : Nat), o.data = .dict es ep ∧ DT.Raw s.heap d es ep ∧ es.size = ws.length ∧
      ∀ (i : Nat) (k : List Key) (v : V), ws[i]? = some (k, v) → ∃ (hi : i < es.size) (q : Addr), es[i].key = .ref q ∧ H q = some (.tup (k.map kV)) ∧ RelV v es[i].val := by
  obtain ⟨hd, z, hs, xs, pr, o', es, ep, ho, hx, hdt, he, _⟩ := I.hok d _ h
  rw [hd] at ho
  cases ho
  have lx : es.size = xs.length := size_of_entries he
  have lw : ws.length = xs.length := Paired.length pr
  refine ⟨hs, es, ep, hdt, ⟨o, hd, hx, hdt⟩, by omega, fun i k v e => ?_⟩
  obtain ⟨b, hb, _, e2, e3⟩ := L2.paired_get pr e
  have hi : i < es.size := by
    have := (List.getElem?_eq_some_iff.mp e).1
    omega
  have q := entry_at he i
  rw [hb, Array.getElem?_eq_getElem hi] at q
  have q2 := Option.some.inj q
  refine ⟨hi, b.2.1, ?_, e2, ?_⟩
  · rw [q2]
    rfl
  · rw [q2]
    exact e3
def Itp (d : Addr) (o : Obj) (ws : List (List Key × V)) : It :=
  ⟨fun i H => H d = some (.frz o (.dT ws)) ∧ i < ws.length, fun i H x H' => ∃ T k v q, ws[i]? = some (k, v) ∧ x = .ref T ∧ H q = some (.tup (List.map kV k)) ∧ H T = none ∧ H' = upd H T (.tup [.ref q, v]), fun i H => H d = some (.frz o (.dT ws)) ∧ ws.length ≤ i⟩
theorem turn_pairs {P : Program} {w : World} {K : PySem.W.Frag} {d : Addr} {o : Obj} {es : Array DictEntry} {ep : Nat} {ws : List (List Key × V)} {elts : List Expr} {kk : Nat} {tpos : Pos} (it : Addr) (hod : o.data = .dict es ep) :
    Turn P w K (.Tuple elts kk tpos) (Itp d o ws) [it] it (fun i h => ∃ ok ov, IsItemIter h it d i es.size ep ok ov) where
  mem := List.mem_singleton.mpr rfl
  obj := fun i h ⟨ok, ov, e⟩ b hb => by
    rw [List.mem_singleton.mp hb]
    exact ⟨_, e, fun v z => nomatch z⟩
  keep := fun i h h' ⟨ok, ov, e⟩ k => ⟨ok, ov, k it (List.mem_singleton.mpr rfl) _ e⟩
  item := by
    intro X hP hw hK hc i pins s σ H E I hf ⟨ok, ov, he⟩ ⟨hd, hi⟩
    subst hP hw hK
    have fit := hf it (List.mem_singleton.mpr rfl)
    obtain ⟨hs, es', ep', hdt, raw, hsz, ent⟩ := locked_rows I hd
    obtain ⟨rfl, rfl⟩ := dict_ep hod hdt
    have hkv : ws[i]? = some (ws[i].1, ws[i].2) := List.getElem?_eq_getElem hi
    obtain ⟨hi2, q, hkey, hq, rv⟩ := ent i _ _ hkv
    have hlt : it < s.heap.objs.size := Heap.lt_size he
    refine DT.nextI he raw hi2 fun h' ho hT hz hk => ⟨_, rfl, wpAny_letOwnedTupleGo_items (s := { s with heap := h' }) ho fun h'' he' sb => ?_⟩
    have hT2 := (sb.2 s.heap.objs.size (Nat.ne_of_gt hlt)).trans hT
    have new : ObjOk X.prog X.w (upd H s.heap.objs.size (.tup [.ref q, ws[i].2])) h'' s.heap.objs.size (.tup [.ref q, ws[i].2]) := ⟨by show 2 ≤ sizeLine; decide, _, .cons (show RelV (.ref q) es'[i].key from hkey) (.cons rv .nil), ⟨_, hT2, rfl, _, rfl⟩⟩
    refine ⟨.ref s.heap.objs.size, upd H s.heap.objs.size (.tup [.ref q, ws[i].2]), I.turnedNew (t' := s.toks) (ch := [it]) (fun b ob hb e => (sb.2 b fun z => hb (List.mem_singleton.mpr z)).trans (hk b ob (fun z => hb (List.mem_singleton.mpr z)) e)) hf (Nat.le_refl _) new, rfl, ⟨_, _, _, q, hkv, rfl, hq, I.hok.fresh (Nat.le_refl _), rfl⟩, ⟨_, _, he'⟩, fun b hb => ?_⟩
    rw [List.mem_singleton.mp hb, upd_ne (Nat.ne_of_lt hlt)]
    exact fit.1
  done := by
    intro X hP hw hK hc i pins s σ H E I hf ⟨ok, ov, he⟩ ⟨hd, hi⟩
    subst hP hw hK
    obtain ⟨g0, g1, _, g3, g4, g5⟩ := hf it (List.mem_singleton.mpr rfl)
    obtain ⟨hs, es', ep', hdt, raw, hsz, ent⟩ := locked_rows I hd
    obtain ⟨rfl, rfl⟩ := dict_ep hod hdt
    exact DT.endI (I.ok.hd hc) he raw (hsz ▸ hi) fun h' eb => ⟨rfl, I.turned (t' := s.toks) (fun b ob hb e => eb b ob hb e) g0 g1 g3 g4 g5⟩
  self := fun A i s Q E ⟨_, _, e⟩ h => PySem.W.kcp_self e h
def iPairs (td : TE) : TI := fun σ H R => td σ H fun x H1 => ∃ d o ws, x = .ref d ∧ H1 d = some (.frz o (.dT ws)) ∧ R (Itp d o ws) H1
theorem pi_pairs {X : Cx} {e : Expr} {td : TE} {apos cpos : Pos} {elts : List Expr} {kk : Nat} {tpos : Pos} (he : PE X e td) (hbase : attributeBase e "items" X.env (eval e X.env) = eval e X.env := by rfl) (hline : (apos.endLine == cpos.line) = true := by rfl) :
    PI X (.Tuple elts kk tpos) (.Call (.Attribute e "items" apos) [] [] cpos) (iPairs td) := by
  refine ⟨fun pins s σ H R I h => ?_⟩
  refine wpAny_Call_method (T := "dict") (id := "dict.items") hbase rfl hline F.plainAttrs_dict F.slot_dict_items F.type_dict_items (thn (he.run pins s σ H _ I h) fun u s1 ⟨x, H1, I1, rx, d, o, ws, ex, hd, q⟩ => ?_)
  subst ex
  obtain rfl : u = Value.ref d := rx
  obtain ⟨hs, es, ep, hdt, raw, hsz, _⟩ := locked_rows I1 hd
  refine ⟨raw.typeIs, fun a ea => ?_, ?_⟩
  · cases ea
    obtain ⟨o, ho, hx, _⟩ := raw
    exact ⟨o, ho, hx.2.1⟩
  have I2 : Inv X pins σ H1 { s1 with heap := s1.heap.push { cls := .type "dict_items", data := .fields #[.ref d] } } := I1.kept (t' := s1.toks) fun b ob z => Heap.get?_push_of_some _ z
  have last : wpAny (model X.prog X.w) X.A (pyIter (.ref s1.heap.objs.size)) (PIE X pins σ (.Tuple elts kk tpos) R) X.xe { s1 with heap := s1.heap.push { cls := .type "dict_items", data := .fields #[.ref d] } } :=
    DT.iterI (d := d) ⟨_, Heap.get?_push_size _ rfl, rfl, rfl⟩ (raw.push _) (pi_one (tk := s1.toks) I2 _ (turn_pairs _ hdt) ⟨.none, .none, Heap.get?_push_size _ rfl⟩ q)
  show wpAny _ _ (callWith cpos (.builtin "dict.items") [.ref d] [] []) _ X.xe s1
  exact method_meetsIn F.slot_dict_items F.entry_dict_items rfl (PySem.evalArgs_none ⟨rfl, raw.typeIs, F.args_dict_items_1 _, _, DT.meetsItems hs, ⟨raw, last⟩⟩)
section
variable {X : Cx} {ρ : Rho} {μ : Mu} {a b c e tg : Expr} {es : List Expr} {x : Str} {p pos : Pos} {J : Jm} {rest : List Stmt}
def pairD (kds : List (List Key × PyData)) : List PyData := kds.map fun p => .tuple [keyD p.1, p.2]
theorem kp_get {α : Type} {G : V → α → Prop} {ws : List (List Key × V)} {kvs : List (List Key × α)} {k : List Key} {v : V} (p : KP G ws kvs) : ∀ {i : Nat}, ws[i]? = some (k, v) → ∃ d, kvs[i]? = some (k, d) ∧ G v d := by
  intro i h
  obtain ⟨b, h1, h2, h3⟩ := L2.paired_get p h
  obtain ⟨k', d⟩ := b
  cases h2
  exact ⟨d, h1, h3⟩
theorem yl_pairs {K : PySem.W.Frag} {F : Hp} {a : Addr} {o : Obj} {ws : List (List Key × V)} {kds : List (List Key × PyData)} (h : F a = some (.frz o (.dT ws))) (r : KP (Rp K F) ws kds) : Yl K (Itp a o ws) F (pairD kds) := by
  have hl : (pairD kds).length = ws.length := by
    unfold pairD
    rw [List.length_map, ← kp_len r]
  unfold Yl
  rw [hl]
  refine ⟨fun i H hi e => ⟨e _ _ h, hi⟩, fun H e => ⟨e _ _ h, Nat.le_refl _⟩, fun i H x H' hi e y => ?_⟩
  obtain ⟨T, k, v, q, h1, h2, h3, h4, h5⟩ := y
  obtain ⟨d, g1, g2⟩ := kp_get r h1
  refine ⟨.tuple [keyD k, d], ?_, .inr (.inr (.inr (.inl ⟨T, q, k, v, d, rfl, h2, h3, h4, h5, g2⟩)))⟩
  unfold pairD
  rw [List.getElem?_map, g1]
  rfl
theorem im_pairs {elts : List Expr} {kk : Nat} {tpos apos : Pos} {P : Mu → List PyData → Prop} (h : Dm X ρ μ e fun μ1 r => ∃ kds, r = .dat (dD kds) ∧ P μ1 (pairD kds)) (hbase : attributeBase e "items" X.env (eval e X.env) = eval e X.env := by rfl) (hline : (apos.endLine == pos.line) = true := by rfl) :
    Im X ρ μ (.Tuple elts kk tpos) (.Call (.Attribute e "items" apos) [] [] pos) P := fun R F H as σ S Rk q => by
  refine Wi.of (pi_pairs (We.pe X e) hbase hline) ?_
  refine h R F H as σ S _ fun v F1 H1 as1 μ1 r1 S1 x1 o1 ⟨kds, er, h1⟩ => ?_
  subst er
  obtain ⟨a, o, ws, rfl, g1, g2⟩ := Rp.dctE o1
  exact ⟨a, o, ws, rfl, S1.fh _ _ g1, q _ F1 H1 as1 μ1 _ S1 x1 (yl_pairs g1 (rpK_kp g2)) h1⟩
/-- the keys of a dict, data -/
def keysD (kds : List (List Key × PyData)) : List PyData := kds.map fun p => keyD p.1
theorem yl_keys {K : PySem.W.Frag} {F : Hp} {a : Addr} {o : Obj} {ws : List (List Key × V)} {kds : List (List Key × PyData)} (h : F a = some (.frz o (.dT ws))) (r : KP (Rp K F) ws kds) : Yl K (Itkt a o ws) F (keysD kds) := by
  have hl : (keysD kds).length = ws.length := by
    unfold keysD
    rw [List.length_map, ← kp_len r]
  unfold Yl
  rw [hl]
  refine walk_keysT.mono (fun H e => e _ _ h) fun i H x H' hi _ y => ?_
  obtain ⟨h5, k, v, q, h1, h2, h3⟩ := y
  obtain ⟨d, g1, g2⟩ := kp_get r h1
  refine ⟨keyD k, ?_, .inr (.inr (.inl ⟨q, k, rfl, h2, h3, h5⟩))⟩
  unfold keysD
  rw [List.getElem?_map, g1]
  rfl
theorem im_keys {P : Mu → List PyData → Prop} (h : Dm X ρ μ e fun μ1 r => ∃ kds, r = .dat (dD kds) ∧ P μ1 (keysD kds)) : Im X ρ μ tg e P := fun R F H as σ S Rk q => by
  refine Wi.of (pi_keys (We.pe X e)) ?_
  refine h R F H as σ S _ fun v F1 H1 as1 μ1 r1 S1 x1 o1 ⟨kds, er, h1⟩ => ?_
  subst er
  obtain ⟨a, o, ws, rfl, g1, g2⟩ := Rp.dctE o1
  exact ⟨a, o, rfl, .inr ⟨ws, S1.fh _ _ g1, q _ F1 H1 as1 μ1 _ S1 x1 (yl_keys g1 (rpK_kp g2)) h1⟩⟩
end
end BW

namespace BW
open PySem PySem.Spec PyProof.Rows L2
section
variable {X : Cx} {ρ : Rho} {μ : Mu} {a b c e tg elt iter tg1 iter1 : Expr} {es : List Expr} {x : Str} {p pos : Pos} {J : Jm} {rest : List Stmt} {P : PR}
/-! ### a dict of our own, locked while a statement runs -/
/-- a statement's reading from a data state -/
def Dt (X : Cx) (ρ : Rho) (μ : Mu) (t : TS) (J : Jm) : Prop := ∀ R F H as σ, Sta X.K R F H as σ ρ μ → ∀ D : Ends, JOk X.K R F as J D → t D σ H
theorem ds_of_t {st : Stmt} {t : TS} (hp : PS X st t) (h : Dt X ρ μ t { J with nx := fun ρ' μ' => Ds X ρ' μ' rest J }) : Ds X ρ μ (st :: rest) J :=
  ds_cons_of hp fun R F H as σ S D j => h R F H as σ S _ (jok_nx j fun σ' F' H' as' ρ' μ' S' x' h' => h' R F' H' as' σ' S' D (j.ext x'))
theorem dt_for {body : List Stmt} (h : Im X ρ μ tg e fun μ1 ds => ∃ I : Nat → Rho → Mu → Prop, I 0 ρ μ1 ∧
      (∀ i d ρ' μ', ds[i]? = some d → I i ρ' μ' → Gm X ρ' μ' tg (.dat d) fun ρ2 μ2 => Ds X ρ2 μ2 body { J with nx := I (i + 1), ct := I (i + 1), bk := J.nx }) ∧ ∀ ρ' μ', I ds.length ρ' μ' → J.nx ρ' μ') :
    Dt X ρ μ (tFor (Wi X tg e) (Wg X tg) (Wb X body)) J := fun R F H as σ S D j => by
  refine h R F H as σ S _ fun It F1 H1 as1 μ1 ds S1 x1 y1 h1 => ?_
  obtain ⟨I, h0, ht, hd⟩ := h1
  refine for_it y1 (fun i σ' H' => ∃ F' as' ρ' μ', Sta X.K R F' H' as' σ' ρ' μ' ∧ Ext F1 as1 F' as' ∧ I i ρ' μ') ⟨F1, as1, ρ, μ1, S1, Ext.refl _ _, h0⟩ ?_ ?_ ?_
  · rintro i σ' H' hi ⟨F', as', ρ', μ', S', x', _⟩
    exact x'.f.trans S'.fh
  · rintro i v σ' H' H2 hi ⟨F', as', ρ', μ', S', x', hI⟩ y
    obtain ⟨F2, d, S2, x2, h2, o2⟩ := sta_yield S' x'.f y
    refine ht i d ρ' μ' h2 hI R F2 H2 as' σ' v S2 (okD o2) _ fun σ3 F3 H3 as3 ρ3 μ3 S3 x3 h3 => ?_
    have x123 := (x'.trans x2).trans x3
    refine h3 R F3 H3 as3 σ3 S3 _ ⟨?_, ?_, ?_, ?_⟩
    · intro σ4 F4 H4 as4 ρ4 μ4 S4 x4 h4
      exact ⟨F4, as4, ρ4, μ4, S4, x123.trans x4, h4⟩
    · exact (j.ext (x1.trans x123)).rt
    · exact (j.ext (x1.trans x123)).nx
    · intro σ4 F4 H4 as4 ρ4 μ4 S4 x4 h4
      exact ⟨F4, as4, ρ4, μ4, S4, x123.trans x4, h4⟩
  · rintro σ' H' ⟨F', as', ρ', μ', S', x', hI⟩
    exact j.nx σ' F' H' as' ρ' μ' S' (x1.trans x') (hd ρ' μ' hI)
theorem lockC {K : PySem.W.Frag} {R F H : Hp} {as : List Addr} {σ : L2.St} {n : Nat} {a : Addr} {c c' : Cell} {o : HO} (S : Sta K R F H as σ ρ μ) (ha : as[n]? = some a) (hF : F a = none) (hR : R a = none) (hc : COk K R F (upd H a o) as a c') : Sta K R F (upd H a o) as σ ρ (μ.set n c') := S.set ha hF hR hc
/-- the statement runs with the cell n locked -/
theorem ds_lock {st : Stmt} {t : TS} {n : Nat} {kvs : List (List Key × Rv)} (hp : PS X st t) (hn : μ[n]? = some (.M kvs))
    (h : ∀ od ws, Dt X ρ (μ.set n (.Q od ws kvs)) t { nx := fun ρ' μ' => μ'[n]? = some (.Q od ws kvs) ∧ Ds X ρ' (μ'.set n (.M kvs)) rest J, rt := fun _ _ => False }) : Ds X ρ μ (st :: rest) J :=
  ds_cons_of (ps_lock hp) fun R F H as σ S D j => by
    have hl : n < as.length := by rw [S.len]; exact (List.getElem?_eq_some_iff.mp hn).1
    have ha : as[n]? = some as[n] := List.getElem?_eq_getElem hl
    obtain ⟨ws, e1, e2, e3, e4⟩ := S.cel n _ _ ha hn
    refine ⟨as[n], .dT ws, e1, True.intro, fun od => ?_⟩
    refine h od ws R F _ as σ (S.set ha e2 e3 ⟨upd_same, e2, e3, e4⟩) _ ⟨?_, ?_, ?_, ?_⟩
    · intro σ' F' H' as' ρ' μ' S' x' ⟨h1, h2⟩
      have ha' := pre_get x'.p ha
      obtain ⟨g1, g2, g3, g4⟩ := S'.cel n _ _ ha' h1
      exact ⟨g1, h2 R F' _ as' σ' (S'.set ha' g2 g3 ⟨ws, upd_same, g2, g3, g4⟩) D (j.ext x')⟩
    · rintro v F' H' as' σ' ρ' μ' r S' x' o z
      exact z.elim
    · intro σ' F' H' as' ρ' μ' S' x' z
      exact z.elim
    · intro σ' F' H' as' ρ' μ' S' x' z
      exact z.elim
/-- for .. under a lock -/
theorem ds_forQ {body : List Stmt} {n : Nat} {kvs : List (List Key × Rv)} (hp : PassesOwn (model X.prog X.w) X.A X.env X.xe) (hn : μ[n]? = some (.M kvs))
    (h : ∀ od ws, Im X ρ (μ.set n (.Q od ws kvs)) tg e fun μ1 ds => ∃ I : Nat → Rho → Mu → Prop, I 0 ρ μ1 ∧
      (∀ i d ρ' μ', ds[i]? = some d → I i ρ' μ' → Gm X ρ' μ' tg (.dat d) fun ρ2 μ2 => Ds X ρ2 μ2 body { nx := I (i + 1), ct := I (i + 1), rt := fun _ _ => False, bk := fun ρ' μ' => μ'[n]? = some (.Q od ws kvs) ∧ Ds X ρ' (μ'.set n (.M kvs)) rest J }) ∧ ∀ ρ' μ', I ds.length ρ' μ' → μ'[n]? = some (.Q od ws kvs) ∧ Ds X ρ' (μ'.set n (.M kvs)) rest J)
    (hc : X.calm = true := by rfl) (hs : ∀ x, foldedSetIterable e X.env x = pure x := by intro _; rfl) : Ds X ρ μ (.For tg e body [] pos :: rest) J :=
  ds_lock (ps_for hp hc (Wi.pi X tg e) (Wg.pg X tg) (Wb.ps X body) hs) hn fun od ws => dt_for (h od ws)
/-- name = [elt for .. in d.items()], d a locked cell -/
theorem ds_setLcQ {scope : Scope} {own : List (Str × Nat)} {i j n : Nat} {y z : Str} {py pz apos cpos spos : Pos} {elts : List Expr} {kk : Nat} {tpos : Pos} {od : Obj} {ws : List (List Key × V)} {kds : List (List Key × PyData)} (hN : X.N.Nodup) (ok : BlkOk X.N X.env.scope scope own) (hy : X.N[i]? = some y)
    (hz : X.N[j]? = some z) (hr : ρ[j]? = some (some (.own n))) (hm : μ[n]? = some (.Q od ws (kds.map fun p => (p.1, Rv.dat p.2)))) (hl : kds.length ≤ 1000000) (I : Nat → Mu → List Rv → Prop) (h0 : I 0 μ [])
    (hQ : ∀ i μ' acc, I i μ' acc → μ'[n]? = some (.Q od ws (kds.map fun p => (p.1, Rv.dat p.2)))) (hL : Lc X ρ scope (own.map (·.2)) (.Tuple elts kk tpos) elt [] (pairD kds) I)
    (hD : ∀ μ' acc, I (pairD kds).length μ' acc → ∃ ds : List PyData, acc = ds.map Rv.dat ∧ Ds X (ρ.set i (some (.dat (.list ds)))) μ' rest J)
    (hli : Nat.blt i ρ.length = true := by rfl) (hyl : X.env.scope.names.lookup y = some .local := by rfl) (hv : Vis X.env.scope z := by first | exact Or.inl rfl | exact Or.inr (Or.inl rfl) | exact Or.inr (Or.inr rfl)) (hd : (z == ("__debug__" : Str)) = false := by decide)
    (hcd : (z == ("__classdict__" : Str)) = false := by decide) (hbase : attributeBase (.Name z pz) "items" X.env (eval (.Name z pz) X.env) = eval (.Name z pz) X.env := by rfl) (hline : (apos.endLine == cpos.line) = true := by rfl)
    (hsw : swapsWith (.ListComp elt [⟨.Tuple elts kk tpos, .Call (.Attribute (.Name z pz) "items" apos) [] [] cpos, [], 0⟩] scope pos) (some (.Name y py)) spos.line X.env = pure true := by exact sw_true rfl rfl rfl (by decide +kernel)) (hc : X.calm = true := by rfl)
    (hs : ∀ x, foldedSetIterable (.Call (.Attribute (.Name z pz) "items" apos) [] [] cpos) X.env x = pure x := by intro _; rfl) :
    Ds X ρ μ (.Assign [.Name y py] (.ListComp elt [⟨.Tuple elts kk tpos, .Call (.Attribute (.Name z pz) "items" apos) [] [] cpos, [], 0⟩] scope pos) spos :: rest) J :=
  ds_cons_of (ps_setLc hc hN hy hyl hsw (pi_pairs (pe_var hz hv hd hcd) hbase hline) ok (fun s H C cl fp => gB scope _ ⟨s, H, C, cl, fp⟩) (fun s H C cl fp => fB scope [] ⟨s, H, C, cl, fp⟩) (fun s H C cl fp => eB scope elt ⟨s, H, C, cl, fp⟩) hs)
    fun R F H as σ S D jj => by
      obtain ⟨v, e1, a, e2, rfl⟩ := S.slt j _ hr
      obtain ⟨g1, g2, g3, g4⟩ := S.cel n a _ e2 hm
      have kp : KP (Rp X.K F) ws kds := kp_undat g4
      refine ⟨_, e1, a, od, ws, rfl, g1, fun T hT => ?_⟩
      have hlen : (pairD kds).length = ws.length := by
        unfold pairD
        rw [List.length_map, ← kp_len kp]
      have yy : Walk (Itp a od ws) (pairD kds).length (fun H => Same F H ∧ H a = some (.frz od (.dT ws))) (YRp X.K F (pairD kds)) := by
        rw [hlen]
        refine ⟨fun i H hi e => ⟨e.2, hi⟩, fun H e => ⟨e.2, Nat.le_refl _⟩, fun i H x H' hi e yy => ?_⟩
        obtain ⟨T, k, v, q, h1, h2, h3, h4, h5⟩ := yy
        obtain ⟨d, g1, g2⟩ := kp_get kp h1
        refine ⟨.tuple [keyD k, d], ?_, .inr (.inr (.inr (.inl ⟨T, q, k, v, d, rfl, h2, h3, h4, h5, g2⟩)))⟩
        unfold pairD
        rw [List.getElem?_map, g1]
        rfl
      refine lc_run (C := fun H => H a = some (.frz od (.dT ws))) (Q := fun x H1 => gName i x σ H1 _) hL S h0 (by unfold pairD; rw [List.length_map]; exact hl) yy (fun i R' F' H' as' μ' acc S' x' hI => (S'.cel n a _ (pre_get x'.p e2) (hQ i μ' acc hI)).1) hT fun F' H' as' μ' vs acc S' x' pa _ hI => ?_
      obtain ⟨ds, rfl, h'⟩ := hD μ' acc hI
      have hF := S'.asideIs.2
      have hRT := fresh_of S.rh hT
      exact h' R _ H' as' _ ((S'.asideZ hRT).store (okD (.lst (.inl (.inl upd_same)) ((rpA_of pa).mono (Gw.of (same_upd hF))))) (Nat.le_of_ble_eq_true hli)) D (jj.ext (x'.trans ⟨same_upd hF, List.prefix_refl _⟩))
end
end BW

namespace BW
open PySem PySem.Spec PyProof.Rows L2

/-! ### enumerate of a tuple -/
theorem meets_enum1 {v : Value} {o : Obj} {G : Heap → Prop} (B : Begins v o G) :
    Meets (Builtin.«enumerate.__new__» ⟨[.type "enumerate", v], []⟩) (fun _ R s => G s.heap ∧
      R (.ok (.ret (.ref (s.heap.push o).objs.size))) { s with heap := (s.heap.push o).push { cls := .type "enumerate", data := .fields #[.none, .bool false, .ref s.heap.objs.size, rawInt 0, .none, .none] } }) :=
  .of_wp fun prog w A R s h => by
    obtain ⟨hp, g, d, tk, os⟩ := s
    obtain ⟨h1, h⟩ := h
    have sub := sub_enumerate
    have q1 : ∀ {A' : Around} {E : Value → Shared → Prop} {Q : Value → Shared → Prop}, Q (.ref hp.objs.size) ⟨hp.push o, g, d, tk, os⟩ → wpAny (model prog w) A' (pyIter v) Q E ⟨hp, g, d, tk, os⟩ := fun q => B.iter prog w _ _ ⟨hp, g, d, tk, os⟩ _ h1 q
    wp_walk using q1
    refine wpAny_stack_any fun st => wpAny_pure ?_
    split
    · rename_i c _ _ _ _ _
      cases (c == Value.type "enumerate") <;> (wp_walk using q1; exact ⟨_, rfl, h⟩)
    · wp_walk using q1
      exact ⟨_, rfl, h⟩
theorem call_enum1 {prog : Program} {w : World} {A : Around} {E : Value → Shared → Prop} {s : Shared} {v : Value} {o : Obj} {G : Heap → Prop} {Q : Value → Shared → Prop} (B : Begins v o G) (h1 : G s.heap)
    (h : ∀ h', IsEnum h' (s.heap.objs.size + 1) s.heap.objs.size 0 .none → h'.get? s.heap.objs.size = some o → (∀ b o, s.heap.get? b = some o → h'.get? b = some o) → Q (.ref (s.heap.objs.size + 1)) { s with heap := h' }) :
    wpAny (model prog w) A (call (.type "enumerate") [v]) Q E s := by
  refine callType_new F.called_enumerate (by decide) (F.typeCall_enumerate_1 _) (F.newCall_enumerate_1 _) (fun obj => F.args_object_init_2 obj _) F.entry_enumerate_new (meets_enum1 B) ⟨h1, ?_⟩
  have hz : (s.heap.push o).objs.size = s.heap.objs.size + 1 := Heap.size_push ..
  have he : IsEnum ((s.heap.push o).push { cls := .type "enumerate", data := .fields #[.none, .bool false, .ref s.heap.objs.size, rawInt 0, .none, .none] }) (s.heap.objs.size + 1) s.heap.objs.size 0 .none :=
    hz ▸ Heap.get?_push_size (s.heap.push o) (o := { cls := .type "enumerate", data := .fields #[.none, .bool false, .ref s.heap.objs.size, rawInt 0, .none, .none] }) rfl
  show _ ∧ _
  rw [hz]
  exact ⟨⟨_, he, rfl⟩, h _ he (Heap.get?_push_of_some _ (Heap.get?_push_size _ B.free)) fun b o x => Heap.get?_push_of_some _ (Heap.get?_push_of_some _ x)⟩
def IeT (K : PySem.W.Frag) (a : Addr) (xs : List V) : It :=
  ⟨fun i H => SqT K H a xs ∧ i < xs.length, fun i H v H' => ∃ T x, v = .ref T ∧ xs[i]? = some x ∧ H T = none ∧ H' = upd H T (.tup [.int (i : Nat), x]), fun i H => SqT K H a xs ∧ i = xs.length⟩
theorem turn_enT {P : Program} {w : World} {K : PySem.W.Frag} {elts : List Expr} {kk : Nat} {tpos : Pos} {xs : List V} (a e it : Addr) (hae : a ≠ it) (hax : a ≠ e) :
    Turn P w K (.Tuple elts kk tpos) (IeT K a xs) [e, it] e (fun i h => (∃ old, IsEnum h e it ((i : Nat) : Int) old) ∧ h.IsTupleIter it a i ∧ e ≠ it) where
  mem := List.mem_cons_self ..
  obj := fun i h ⟨⟨old, he⟩, ⟨o, ho, hc, hd⟩, _⟩ b hb => by
    rcases List.mem_cons.mp hb with rfl | hb
    · exact ⟨_, he, fun v q => nomatch q⟩
    · rw [List.mem_singleton.mp hb]
      exact ⟨o, ho, fun v q => by rw [hd] at q; cases q⟩
  keep := fun i h h' ⟨⟨old, he⟩, hi, hne⟩ k => ⟨⟨old, k e (List.mem_cons_self ..) _ he⟩, hi.at fun o q => k it (List.mem_cons_of_mem _ (List.mem_singleton.mpr rfl)) o q, hne⟩
  item := by
    intro X hP hw hK hc i pins s σ H E I hf ⟨⟨old, he⟩, hit, hne⟩ ⟨hq, hi⟩
    subst hP hw hK
    obtain ⟨its, rv, p, hz⟩ := I.tuple hq
    have hlen := rv.length
    obtain ⟨u, hu, ru⟩ := rv.get (List.getElem?_eq_getElem hi)
    have hel : e < s.heap.objs.size := Heap.lt_size he
    have hil : it < s.heap.objs.size := by
      obtain ⟨_, q, _⟩ := hit
      exact Heap.lt_size q
    have D := Draws.tuple (prog := X.prog) (w := X.w) (A := X.A.in1) (I.ok.hd hc) it a hae its.toArray
    refine wpAny_pyNext_enum_itemD D he (i := i) ⟨hit, p⟩ (by simp; omega) hne (by simp [hne, Ne.symm hax]) fun x h' tk hP ho hst' hT hsz hk => ?_
    have hx : x = u := by
      have e1 : its[i]? = some x := by simpa using hP
      rw [hu] at e1
      exact (Option.some.inj e1).symm
    subst hx
    refine ⟨_, rfl, wpAny_letOwnedTupleGo_enum (s := { s with heap := h', toks := tk + 1 }) ho fun h'' he' sb => ?_⟩
    have hT2 := (sb.2 s.heap.objs.size (Nat.ne_of_gt hel)).trans hT
    have new : ObjOk X.prog X.w (upd H s.heap.objs.size (.tup [.int (i : Nat), xs[i]])) h'' s.heap.objs.size (.tup [.int (i : Nat), xs[i]]) := ⟨by show 2 ≤ sizeLine; decide, _, .cons ⟨tk, rfl⟩ (.cons ru .nil), ⟨_, hT2, rfl, _, rfl⟩⟩
    have nb : ∀ {b}, b ∉ [e, it] → b ≠ e ∧ b ≠ it := fun hb => ⟨fun z => hb (by simp [z]), fun z => hb (by simp [z])⟩
    refine ⟨.ref s.heap.objs.size, _, I.turnedNew (t' := tk + 1) (ch := [e, it]) (fun b ob hb q => (sb.2 b (nb hb).1).trans (hk b ob (nb hb).1 (nb hb).2 q)) hf (Nat.le_refl _) new, rfl, ⟨_, _, rfl, List.getElem?_eq_getElem hi, I.hok.fresh (Nat.le_refl _), rfl⟩, ⟨⟨x, ?_⟩, hst'.1.at fun o q => (sb.2 it (Ne.symm hne)).trans q, hne⟩, fun b hb => ?_⟩
    · have e1 : ((i + 1 : Nat) : Int) = (i : Int) + 1 := by omega
      rw [e1]
      exact he'
    · have hb' : b < s.heap.objs.size := by
        rcases List.mem_cons.mp hb with rfl | hb
        · exact hel
        · rw [List.mem_singleton.mp hb]
          exact hil
      rw [upd_ne (Nat.ne_of_lt hb')]
      exact (hf b hb).1
  done := by
    intro X hP hw hK hc i pins s σ H E I hf ⟨⟨old, he⟩, hit, hne⟩ ⟨hq, hi⟩
    subst hP hw hK
    obtain ⟨its, rv, p, hz⟩ := I.tuple hq
    obtain ⟨g0, g1, _, g3, g4, g5⟩ := hf it (List.mem_cons_of_mem _ (List.mem_singleton.mpr rfl))
    have hlen := rv.length
    have hE : i = its.toArray.size := by simp; omega
    subst hE
    have D := Draws.tuple (prog := X.prog) (w := X.w) (A := X.A.in1) (I.ok.hd hc) it a hae its.toArray
    exact wpAny_pyNext_enum_endD D he ⟨hit, p⟩ fun h' eb => ⟨rfl, I.turned (t' := s.toks) (fun b o hb q => eb b o hb q) g0 g1 g3 g4 g5⟩
  self := fun A i s Q E ⟨⟨_, he⟩, _⟩ h => wpAny_pyIter_enum he h
def iEnT (K : PySem.W.Frag) (ta : TA) : TI := fun σ H R => ta σ H fun vs H1 => ∃ a xs, vs = [.ref a] ∧ SqT K H1 a xs ∧ R (IeT K a xs) H1
theorem pi_enT {X : Cx} {e : Expr} {ta : TA} {p pos tpos : Pos} {elts : List Expr} {kk : Nat} (hg : Gl X "enumerate") (hm : X.mg "enumerate" = none) (ha : PA X [e] ta) (hs : starEach [e] X.env = [(false, eval e X.env)]) :
    PI X (.Tuple elts kk tpos) (.Call (.Name "enumerate" p) [e] [] pos) (iEnT X.K ta) := by
  refine ⟨fun pins s σ H R I h => ?_⟩
  refine Call_ (ld_blt I hg hm boot_enumerate (PyProof.Rows.callWith_type1 (thn (ha.run pos pins s σ H _ I h) fun us s1 ⟨vs, H1, I1, r1, a, xs, ex, hq, q⟩ => ?_) hs rfl))
  subst ex
  obtain rfl := Vals.ref1 r1
  obtain ⟨its, rv, p', hz⟩ := I1.tuple hq
  have hlt : a < s1.heap.objs.size := p'.elim fun o z => Heap.lt_size z.1
  refine call_enum1 (begins_tuple a its.toArray) p' fun h' he hit hk => wpAny_pyIter_enum he ?_
  refine ⟨s1.heap.objs.size + 1, [s1.heap.objs.size + 1, s1.heap.objs.size], _, _, H1, rfl, I1.kept (t' := s1.toks) hk, turn_enT a (s1.heap.objs.size + 1) s1.heap.objs.size (Nat.ne_of_lt hlt) (Nat.ne_of_lt (Nat.lt_succ_of_lt hlt)), ⟨⟨.none, he⟩, ⟨_, hit, rfl, rfl⟩, Nat.succ_ne_self _⟩, fun b hb => ?_, q⟩
  have hle : s1.heap.objs.size ≤ b := by
    rcases List.mem_cons.mp hb with rfl | hb
    · exact Nat.le_succ _
    · exact Nat.le_of_eq (List.mem_singleton.mp hb).symm
  exact I1.fpOk hle (I1.hok.fresh hle)
section
variable {X : Cx} {ρ : Rho} {μ : Mu} {a b c e tg elt iter tg1 iter1 : Expr} {es : List Expr} {x : Str} {p pos : Pos} {J : Jm} {rest : List Stmt} {P : PR}
theorem im_enumT {elts : List Expr} {kk : Nat} {tpos : Pos} {P : Mu → List PyData → Prop} (hg : Gl X "enumerate") (hm : X.mg "enumerate" = none) (h : Dm X ρ μ a (TupP fun μ1 ds => P μ1 (enumD ds))) (hs : starEach [a] X.env = [(false, eval a X.env)] := by rfl) :
    Im X ρ μ (.Tuple elts kk tpos) (.Call (.Name "enumerate" p) [a] [] pos) P := fun R F H as σ S Rk q => by
  refine Wi.of (pi_enT hg hm (pa_cons (We.pe X a) pa_nil hs) hs) ?_
  refine h R F H as σ S _ fun v F1 H1 as1 μ1 r1 S1 x1 o1 ⟨ds, er, h1⟩ => ?_
  subst er
  obtain ⟨a, xs, rfl, g1, g2⟩ := Rp.tupE o1
  refine ⟨a, xs, rfl, st_up S1.fh g1, q _ F1 H1 as1 μ1 _ S1 x1 ?_ h1⟩
  unfold Yl
  rw [enumD_len, ← g2.length]
  refine ⟨fun i H hi e => ⟨st_up e g1, hi⟩, fun H e => ⟨st_up e g1, rfl⟩, fun i H x H' hi e y => ?_⟩
  obtain ⟨T, w, h1, h2, h3, h4⟩ := y
  obtain ⟨d, k1, k2⟩ := g2.get' h2
  exact ⟨_, enumD_get k1, .inr (.inl ⟨T, [_, w], [_, d], rfl, h1, h3, h4, .cons (.int _) (.cons k2 .nil)⟩)⟩
theorem im_zipT {elts : List Expr} {kk : Nat} {tpos : Pos} {P : Mu → List PyData → Prop} (hg : Gl X "zip") (hm : X.mg "zip" = none) (h : Dm X ρ μ a (TupP fun μ1 ds => Dm X ρ μ1 b (TupP fun μ2 es => P μ2 (zipD ds es)))) (hs : starEach [a, b] X.env = (false, eval a X.env) :: starEach [b] X.env := by rfl)
    (hs2 : starEach [b] X.env = [(false, eval b X.env)] := by rfl) (hpl : (backTo pos (starEach [b] X.env)).any (·.1) = false := by rfl) : Im X ρ μ (.Tuple elts kk tpos) (.Call (.Name "zip" p) [a, b] [] pos) P := fun R F H as σ S Rk q => by
  refine Wi.of (RZ.pi_zipA hg hm (pa_cons (We.pe X a) (pa_cons (We.pe X b) pa_nil hs2) hs) hs hpl) ?_
  refine h R F H as σ S _ fun v F1 H1 as1 μ1 r1 S1 x1 o1 ⟨ds, er, h1⟩ => ?_
  subst er
  refine h1 R F1 H1 as1 σ S1 _ fun w F2 H2 as2 μ2 r2 S2 x2 o2 ⟨es, er, h2⟩ => ?_
  subst er
  obtain ⟨a, xs, rfl, g1, g2⟩ := Rp.tupE (o1.ext x2)
  obtain ⟨b, ys, rfl, g3, g4⟩ := Rp.tupE o2
  refine ⟨a, b, xs, ys, rfl, .inr ⟨st_up S2.fh g1, st_up S2.fh g3, q _ F2 H2 as2 μ2 _ S2 (x1.trans x2) ?_ h2⟩⟩
  unfold Yl
  rw [zipD_len, ← g2.length, ← g4.length]
  refine ⟨fun i H hi e => ?_, fun H e => ⟨xs, ys, st_up e g1, st_up e g3, by omega⟩, fun i H x H' hi e y => ?_⟩
  · exact ⟨xs, ys, xs[i]'(by omega), ys[i]'(by omega), st_up e g1, st_up e g3, List.getElem?_eq_getElem _, List.getElem?_eq_getElem _⟩
  · obtain ⟨T, v, w, h1, h2, h3, h4, h5⟩ := y
    obtain ⟨d, k1, k2⟩ := g2.get' (h4 xs (st_up e g1))
    obtain ⟨d', k3, k4⟩ := g4.get' (h5 ys (st_up e g3))
    exact ⟨_, zipD_get k1 k3, .inr (.inl ⟨T, [v, w], [d, d'], rfl, h1, h2, h3, .cons k2 (.cons k4 .nil)⟩)⟩
/-! ### two clauses -/
def Lc2 (X : Cx) (ρ : Rho) (scope : Scope) (vs vs1 : List Nat) (tg tg1 iter1 elt : Expr) (ds : List PyData) (I : Nat → Mu → List Rv → Prop) : Prop :=
  ∀ i d μ' acc, ds[i]? = some d → I i μ' acc → ∀ b : Bx, Gj (Bk X scope b) (wipeR ρ vs) μ' tg vs (.dat d) fun ρ2 μ2 => ImB X scope ρ2 μ2 tg1 iter1 fun μ3 ds1 => ∃ I1 : Nat → Mu → List Rv → Prop, I1 0 μ3 acc ∧
    (∀ j d1 μ4 acc1, ds1[j]? = some d1 → I1 j μ4 acc1 → ∀ b : Bx, Gj (Bk X scope b) (wipeR ρ2 vs1) μ4 tg1 vs1 (.dat d1) fun ρ3 μ5 => ∀ b : Bx, Dm (Bk X scope b) ρ3 μ5 elt fun μ6 r => acc1.length ≤ 1000 ∧ I1 (j + 1) μ6 (acc1 ++ [r])) ∧ ∀ μ4 acc1, I1 ds1.length μ4 acc1 → I (i + 1) μ4 acc1
theorem lc2_run {scope : Scope} {vs vs1 : List Nat} {ds : List PyData} {I : Nat → Mu → List Rv → Prop} (h : Lc2 X ρ scope vs vs1 tg tg1 iter1 elt ds I) {R F1 H1 : Hp} {as1 : List Addr} {σ : L2.St} {μ1 : Mu} (S1 : Sta X.K R F1 H1 as1 σ ρ μ1) (h0 : I 0 μ1 []) {It : It} (y : Yl X.K It F1 ds)
    {D : Addr} (hD : H1 D = none) {Q : VK} (q : ∀ F' H' as' μ' ws acc, Sta X.K (upd R D (.lst ws)) F' H' as' σ ρ μ' → Ext F1 as1 F' as' → Paired (ROk X.K F' as') ws acc → I ds.length μ' acc → Q (.ref D) H') :
    ∃ W : Nat → Nat → Hp → Prop, (∃ m, W 0 m (upd H1 D (.lst []))) ∧ ∀ i m H, W i m H → (It.stop i H ∧ Q (.ref D) H) ∨ (It.go i H ∧ ∃ N : Hp → Prop, (∀ H', N H' → ∃ m', m' < m ∧ W (i + 1) m' H') ∧ ∀ x H', It.yld i H x H' → WgB X scope tg x (L2.wipe σ vs) H' fun σ2 H2 => L2.wipe σ2 vs = L2.wipe σ vs ∧ WfB X scope [] σ2 H2 fun b H3 =>
      if b = true then WiB X scope tg1 iter1 σ2 H3 fun J1 H4 => ∃ W1 : Nat → Nat → Hp → Prop, (∃ m, W1 0 m H4) ∧ ∀ j k H, W1 j k H → (J1.stop j H ∧ N H) ∨ (J1.go j H ∧ ∃ N1 : Hp → Prop, (∀ H', N1 H' → ∃ k', k' < k ∧ W1 (j + 1) k' H') ∧ ∀ x H', J1.yld j H x H' → WgB X scope tg1 x (L2.wipe σ2 vs1) H' fun σ3 H5 =>
        L2.wipe σ3 vs1 = L2.wipe σ2 vs1 ∧ WfB X scope [] σ3 H5 fun b H6 => if b = true then WeB X scope elt σ3 H6 fun y H7 => ∃ acc, H7 D = some (.lst acc) ∧ acc.length < sizeLine ∧ N1 (upd H7 D (.lst (acc ++ [y]))) else N1 H6) else N H3) := by
  refine it_run (G := fun N x H' => WgB X scope tg x (L2.wipe σ vs) H' fun σ2 H2 => L2.wipe σ2 vs = L2.wipe σ vs ∧ WfB X scope [] σ2 H2 fun b H3 => if b = true then WiB X scope tg1 iter1 σ2 H3 fun J1 H4 => ∃ W1 : Nat → Nat → Hp → Prop, (∃ m, W1 0 m H4) ∧ ∀ j k H, W1 j k H → (J1.stop j H ∧ N H) ∨
      (J1.go j H ∧ ∃ N1 : Hp → Prop, (∀ H', N1 H' → ∃ k', k' < k ∧ W1 (j + 1) k' H') ∧ ∀ x H', J1.yld j H x H' → WgB X scope tg1 x (L2.wipe σ2 vs1) H' fun σ3 H5 => L2.wipe σ3 vs1 = L2.wipe σ2 vs1 ∧ WfB X scope [] σ3 H5 fun b H6 => if b = true then WeB X scope elt σ3 H6 fun y H7 => ∃ acc, H7 D = some (.lst acc) ∧ acc.length < sizeLine ∧ N1 (upd H7 D (.lst (acc ++ [y]))) else N1 H6) else N H3) y
    (fun i H => ∃ F' as' μ' ws acc, Sta X.K (upd R D (.lst ws)) F' H as' σ ρ μ' ∧ Ext F1 as1 F' as' ∧ Paired (ROk X.K F' as') ws acc ∧ I i μ' acc) ⟨F1, as1, μ1, [], [], S1.aside hD, Ext.refl _ _, .nil, h0⟩ ?_ ?_ ?_
  · rintro i H hi ⟨F', as', μ', ws, acc, S', x', _⟩
    exact x'.f.trans S'.fh
  · rintro i v H H' hi ⟨F', as', μ', ws, acc, S', x', pa, hI⟩ yy b
    obtain ⟨F2, d, S2, x2, h2, o2⟩ := sta_yield S' x'.f yy
    refine h i d μ' acc h2 hI b _ F2 H' as' _ v (S2.wipe vs) (okD o2) _ fun σ3 F3 H3 as3 ρ3 μ3 S3 x3 ag h3 => ?_
    refine ⟨wipe_agr ag, fun b => ?_⟩
    refine yesT (ifT ?_)
    intro b
    refine h3 b _ F3 H3 as3 σ3 S3 _ fun It1 F4 H4 as4 μ4 ds1 S4 x4 y4 ⟨I1, g0, g1, g2⟩ => ?_
    have x24 := (x2.trans x3).trans x4
    refine it_run (G := fun N1 x H' => WgB X scope tg1 x (L2.wipe σ3 vs1) H' fun σ4 H5 => L2.wipe σ4 vs1 = L2.wipe σ3 vs1 ∧ WfB X scope [] σ4 H5 fun b H6 => if b = true then WeB X scope elt σ4 H6 fun y H7 => ∃ acc, H7 D = some (.lst acc) ∧ acc.length < sizeLine ∧ N1 (upd H7 D (.lst (acc ++ [y]))) else N1 H6) y4
      (fun j H => ∃ F5 as5 μ5 ws acc, Sta X.K (upd R D (.lst ws)) F5 H as5 σ3 ρ3 μ5 ∧ Ext F4 as4 F5 as5 ∧ Paired (ROk X.K F5 as5) ws acc ∧ I1 j μ5 acc) ⟨F4, as4, μ4, ws, acc, S4, Ext.refl _ _, Paired.mapP pa fun _ _ z => z.ext x24, g0⟩ ?_ ?_ ?_
    · rintro j H hj ⟨F5, as5, μ5, ws, acc, S5, x5, _⟩
      exact x5.f.trans S5.fh
    · rintro j v1 H5 H6 hj ⟨F5, as5, μ5, ws, acc, S5, x5, pa5, hI1⟩ yy1 b
      obtain ⟨F6, d1, S6, x6, h6, o6⟩ := sta_yield S5 x5.f yy1
      refine g1 j d1 μ5 acc h6 hI1 b _ F6 H6 as5 _ v1 (S6.wipe vs1) (okD o6) _ fun σ7 F7 H7 as7 ρ7 μ7 S7 x7 ag7 h7 => ?_
      refine ⟨wipe_agr ag7, fun b => ?_⟩
      refine yesT (ifT ?_)
      have x57 := x6.trans x7
      intro b
      refine h7 b _ F7 H7 as7 σ7 S7 _ fun z F8 H8 as8 μ8 r8 S8 x8 o8 ⟨hl8, h8⟩ => ?_
      have x58 := x57.trans x8
      exact ⟨ws, S8.asideIs.1, small1000 (by rw [paired_len pa5]; exact hl8), F8, as8, μ8, ws ++ [z], acc ++ [r8], S8.asideSet.slots S5.sl fun j r hj => by
        obtain ⟨v, e1, e2⟩ := S5.slt j r hj
        exact ⟨v, e1, e2.ext x58⟩, x5.trans x58, (Paired.mapP pa5 fun _ _ z => z.ext x58).snoc o8, h8⟩
    · rintro H ⟨F5, as5, μ5, ws, acc, S5, x5, pa5, hI1⟩
      exact ⟨F5, as5, μ5, ws, acc, S5.slots S'.sl fun j r hj => by
        obtain ⟨v, e1, e2⟩ := S'.slt j r hj
        exact ⟨v, e1, e2.ext (x24.trans x5)⟩, x'.trans (x24.trans x5), pa5, g2 μ5 acc hI1⟩
  · rintro H ⟨F', as', μ', ws, acc, S', x', pa, hI⟩
    exact q F' H as' μ' ws acc S' x' pa hI
/-- name = [elt for .. for ..]: data -/
theorem ds_setLc2 {scope : Scope} {own : List (Str × Nat)} {vs1 : List Nat} {i : Nat} {y : Str} {py spos : Pos} (hN : X.N.Nodup) (ok : BlkOk X.N X.env.scope scope own) (hvs : ∀ i ∈ vs1, i ∈ own.map (·.2)) (hy : X.N[i]? = some y)
    (h : Im X ρ μ tg iter fun μ1 ds => ∃ I : Nat → Mu → List Rv → Prop, I 0 μ1 [] ∧ Lc2 X ρ scope (own.map fun z : Str × Nat => z.2) vs1 tg tg1 iter1 elt ds I ∧ ∀ μ' acc, I ds.length μ' acc → ∃ ds : List PyData, acc = ds.map Rv.dat ∧ Ds X (ρ.set i (some (.dat (.list ds)))) μ' rest J)
    (hli : Nat.blt i ρ.length = true := by rfl) (hyl : X.env.scope.names.lookup y = some .local := by rfl)
    (hsw : swapsWith (.ListComp elt [⟨tg, iter, [], 0⟩, ⟨tg1, iter1, [], 0⟩] scope pos) (some (.Name y py)) spos.line X.env = pure true := by exact sw_true rfl rfl rfl (by decide +kernel)) (hc : X.calm = true := by rfl)
    (hs : ∀ x, foldedSetIterable iter X.env x = pure x := by intro _; rfl) (hs1 : ∀ env x, foldedSetIterable iter1 env x = pure x := by intro _ _; rfl) : Ds X ρ μ (.Assign [.Name y py] (.ListComp elt [⟨tg, iter, [], 0⟩, ⟨tg1, iter1, [], 0⟩] scope pos) spos :: rest) J :=
  ds_cons_of (ps_setLc2 hc hN hy hyl hsw (Wi.pi X tg iter) ok hvs (fun s H C cl fp => gB scope tg ⟨s, H, C, cl, fp⟩) (fun s H C cl fp => fB scope [] ⟨s, H, C, cl, fp⟩) (fun s H C cl fp => iB scope tg1 iter1 ⟨s, H, C, cl, fp⟩) (fun s H C cl fp => gB scope tg1 ⟨s, H, C, cl, fp⟩) (fun s H C cl fp => fB scope [] ⟨s, H, C, cl, fp⟩) (fun s H C cl fp => eB scope elt ⟨s, H, C, cl, fp⟩) hs hs1)
    fun R F H as σ S D j => by
      refine h R F H as σ S _ fun It F1 H1 as1 μ1 ds S1 x1 y1 ⟨I, h0, hL, hd⟩ => ?_
      intro T hT
      refine lc2_run (Q := fun x H1 => gName i x σ H1 _) hL S1 h0 y1 hT fun F' H' as' μ' ws acc S' x' pa hI => ?_
      obtain ⟨ds, rfl, h'⟩ := hd μ' acc hI
      have hF := S'.asideIs.2
      exact h' R _ H' as' _ ((S'.asideZ (fresh_of S1.rh hT)).store (okD (.lst (.inl (.inl upd_same)) ((rpA_of pa).mono (Gw.of (same_upd hF))))) (Nat.le_of_ble_eq_true hli)) D (j.ext ((x1.trans x').trans ⟨same_upd hF, List.prefix_refl _⟩))
end
end BW

namespace BW
open PySem PySem.Spec PyProof.Rows L2
section
variable {X : Cx} {ρ : Rho} {μ : Mu} {a b c e o i tg : Expr} {es : List Expr} {x : Str} {p pos : Pos} {J : Jm} {rest : List Stmt} {P : PR}
theorem papp {α β : Type} {G : α → β → Prop} : ∀ {l1 : List α} {l2 : List β} {m1 : List α} {m2 : List β}, Paired G l1 l2 → Paired G m1 m2 → Paired G (l1 ++ m1) (l2 ++ m2)
  | _, _, _, _, .nil, h => h
  | _, _, _, _, .cons g t, h => .cons g (papp t h)
/-! ### methods -/
/-- x.append(y), x a list of our own -/
theorem dm_append {apos : Pos} (h : Dm X ρ μ o fun μ1 r1 => ∃ n rs0, r1 = .own n ∧ μ1[n]? = some (.L rs0) ∧ Dm X ρ μ1 e fun μ2 r2 => ∃ rs, μ2[n]? = some (.L rs) ∧ rs.length ≤ 1000 ∧ P (μ2.set n (.L (rs ++ [r2]))) (.dat .none))
    (hbase : attributeBase o "append" X.env (eval o X.env) = eval o X.env := by rfl) (hfew : ((backTo pos (starEach [e] X.env)).all (fun x => !x.1) && (backToKw pos (keywordEach [] X.env)).all (fun x => x.1.isSome)
      && decide ([e].length + ([] : List Keyword).length + (if ([] : List Keyword).isEmpty then 0 else 1) < 30)) = true := by rfl)
    (hline : (apos.endLine == pos.line) = true := by rfl) (hs : starEach [e] X.env = (false, eval e X.env) :: starEach [] X.env := by rfl) : Dm X ρ μ (.Call (.Attribute o "append" apos) [e] [] pos) P := fun R F H as σ S Q q => by
  refine We.of (pe_bm PySem.F.plainAttrs_list PySem.F.slot_list_append PySem.F.type_list_append mt_append (We.pe X o) (pa_cons (We.pe X e) pa_nil hs) hbase hfew hline hs rfl) ?_
  refine h R F H as σ S _ fun v F1 H1 as1 μ1 r1 S1 x1 o1 ⟨n, rs0, er, hm, h1⟩ => ?_
  subst er
  obtain ⟨a, ha, rfl⟩ := o1
  obtain ⟨vs0, g1, _⟩ := S1.cel n a _ ha hm
  refine ⟨.inl ⟨rfl, vs0, .inl (.inl g1)⟩, ?_⟩
  refine h1 R F1 H1 as1 σ S1 _ fun w F2 H2 as2 μ2 r2 S2 x2 o2 ⟨rs, hm2, hl, h2⟩ => ?_
  have ha2 := pre_get x2.p ha
  obtain ⟨vs, e1, e2, e3, e4⟩ := S2.cel n a _ ha2 hm2
  refine ⟨a, vs, w, rfl, rfl, e1, small1000 (by rw [paired_len e4]; exact hl), ?_⟩
  exact q .non F2 _ as2 _ (.dat .none) (S2.set (c := .L _) ha2 e2 e3 ⟨_, upd_same, e2, e3, e4.snoc o2⟩) (x1.trans x2) (okD .non) h2
/-- x.extend(y), both lists of our own -/
theorem dm_extend {apos : Pos} (h : Dm X ρ μ o fun μ1 r1 => ∃ n rs0, r1 = .own n ∧ μ1[n]? = some (.L rs0) ∧ Dm X ρ μ1 e fun μ2 r2 => ∃ m rs rs2, r2 = .own m ∧ μ2[n]? = some (.L rs) ∧ μ2[m]? = some (.L rs2) ∧ rs.length + rs2.length ≤ 1000 ∧ P (μ2.set n (.L (rs ++ rs2))) (.dat .none))
    (hbase : attributeBase o "extend" X.env (eval o X.env) = eval o X.env := by rfl) (hfew : ((backTo pos (starEach [e] X.env)).all (fun x => !x.1) && (backToKw pos (keywordEach [] X.env)).all (fun x => x.1.isSome)
      && decide ([e].length + ([] : List Keyword).length + (if ([] : List Keyword).isEmpty then 0 else 1) < 30)) = true := by rfl)
    (hline : (apos.endLine == pos.line) = true := by rfl) (hs : starEach [e] X.env = (false, eval e X.env) :: starEach [] X.env := by rfl) : Dm X ρ μ (.Call (.Attribute o "extend" apos) [e] [] pos) P := fun R F H as σ S Q q => by
  refine We.of (pe_bm PySem.F.plainAttrs_list PySem.F.slot_list_extend PySem.F.type_list_extend mt_extend (We.pe X o) (pa_cons (We.pe X e) pa_nil hs) hbase hfew hline hs rfl) ?_
  refine h R F H as σ S _ fun v F1 H1 as1 μ1 r1 S1 x1 o1 ⟨n, rs0, er, hm, h1⟩ => ?_
  subst er
  obtain ⟨a, ha, rfl⟩ := o1
  obtain ⟨vs0, g1, _⟩ := S1.cel n a _ ha hm
  refine ⟨.inl ⟨rfl, vs0, .inl (.inl g1)⟩, ?_⟩
  refine h1 R F1 H1 as1 σ S1 _ fun w F2 H2 as2 μ2 r2 S2 x2 o2 ⟨m, rs, rs2, er, hm2, hm3, hl, h2⟩ => ?_
  subst er
  obtain ⟨b, hb, rfl⟩ := o2
  have ha2 := pre_get x2.p ha
  obtain ⟨vs, e1, e2, e3, e4⟩ := S2.cel n a _ ha2 hm2
  obtain ⟨vs2, g1, g2, g3, g4⟩ := S2.cel m b _ hb hm3
  refine ⟨a, b, vs, vs2, rfl, rfl, e1, g1, ?_, ?_⟩
  · rw [paired_len e4, paired_len g4, sizeLine_eq]
    omega
  · exact q .non F2 _ as2 _ (.dat .none) (S2.set (c := .L _) ha2 e2 e3 ⟨_, upd_same, e2, e3, papp e4 g4⟩) (x1.trans x2) (okD .non) h2
/-- l.index(x) of data -/
theorem dm_index {apos : Pos} (hu : X.A.units + 65 < cLine) (h : Dm X ρ μ o (LstP fun μ1 ds => Dm X ρ μ1 e (DatP fun μ2 d => ∃ j z, shp (.list ds) = true ∧ shp d = true ∧ ds[j]? = some z ∧ PyData.eqv z d = true ∧ (∀ m z', m < j → ds[m]? = some z' → PyData.eqv z' d = false) ∧ P μ2 (.dat (.int (j : Nat))))))
    (hbase : attributeBase o "index" X.env (eval o X.env) = eval o X.env := by rfl) (hfew : ((backTo pos (starEach [e] X.env)).all (fun x => !x.1) && (backToKw pos (keywordEach [] X.env)).all (fun x => x.1.isSome)
      && decide ([e].length + ([] : List Keyword).length + (if ([] : List Keyword).isEmpty then 0 else 1) < 30)) = true := by rfl)
    (hline : (apos.endLine == pos.line) = true := by rfl) (hs : starEach [e] X.env = (false, eval e X.env) :: starEach [] X.env := by rfl) : Dm X ρ μ (.Call (.Attribute o "index" apos) [e] [] pos) P := fun R F H as σ S Q q => by
  refine We.of (pe_bm PySem.F.plainAttrs_list PySem.F.slot_list_index PySem.F.type_list_index (mt_indexD hu) (We.pe X o) (pa_cons (We.pe X e) pa_nil hs) hbase hfew hline hs rfl) ?_
  refine h R F H as σ S _ fun v F1 H1 as1 μ1 r1 S1 x1 o1 ⟨ds, er, h1⟩ => ?_
  subst er
  obtain ⟨a, xs, rfl, g1, g2⟩ := Rp.lstE o1
  refine ⟨.inl ⟨rfl, xs, sq_up S1.fh g1⟩, ?_⟩
  refine h1 R F1 H1 as1 σ S1 _ fun w F2 H2 as2 μ2 r2 S2 x2 o2 ⟨d, er, j, z, s1, s2, h3, h4, h5, h6⟩ => ?_
  subst er
  refine ⟨a, w, d, ds, j, z, rfl, rfl, (S2.rp (Rp.mono (Gw.of x2.f) o1)).dp (shp1 s1).2, (S2.rp o2).dp (shp1 s2).2, (shp1 s1).1, (shp1 s2).1, h3, h4, h5, ?_⟩
  exact q _ F2 H2 as2 μ2 (.dat (.int _)) S2 (x1.trans x2) (okD (.int _)) h6
/-! ### a list's place is stored to -/
theorem gj_sub {js : List Nat} {r : Rv} {N : Rho → Mu → Prop} (h : Dm X ρ μ o fun μ1 r1 => Dm X ρ μ1 i (IntP fun μ2 k => ∃ n rs j, r1 = .own n ∧ μ2[n]? = some (.L rs) ∧ ixN rs.length k = some j ∧ N ρ (μ2.set n (.L (rs.set j r)))))
    (ha : ∀ v, assign (.Subscript o i pos) X.env v = (do
      let ov ← holding [v] (eval o X.env)
      let iv ← holding [v, ov] (eval i X.env)
      standAt pos
      holding [v, ov, iv] (setItem ov iv v)
      release [v, ov, iv] []) := by intro _; rfl) : Gj X ρ μ (.Subscript o i pos) js r N := fun R F H as σ v S ok Q q => by
  refine Wg.of (pg_sub (We.pe X o) (We.pe X i) set_list ha) ?_
  refine h R F H as σ S _ fun v1 F1 H1 as1 μ1 r1 S1 x1 o1 h1 => ?_
  refine h1 R F1 H1 as1 σ S1 _ fun v2 F2 H2 as2 μ2 r2 S2 x2 o2 ⟨k, er, n, rs, j, er1, hm, hj, h2⟩ => ?_
  subst er er1
  obtain ⟨a, ha, rfl⟩ := o1.ext x2
  obtain rfl := Rp.intE o2
  obtain ⟨vs, e1, e2, e3, e4⟩ := S2.cel n a _ ha hm
  have okv := (ok.ext x1).ext x2
  refine ⟨a, vs, k, j, rfl, rfl, e1, by rw [paired_len e4]; exact hj, ?_⟩
  have ps : Paired (ROk X.K F2 as2) (vs.set j v) (rs.set j r) := by
    clear hj hm e1 h2
    revert j
    induction e4 with
    | nil => intro j; exact .nil
    | cons g t ih =>
      intro j
      cases j with
      | zero => exact .cons okv t
      | succ j => exact .cons g (ih j)
  exact q σ F2 _ as2 ρ _ (S2.set (c := .L _) ha e2 e3 ⟨_, upd_same, e2, e3, ps⟩) (x1.trans x2) (Agr.refl js σ) h2
/-- (t1, t2, ..) = a list -/
theorem gj_unl {ts : List Expr} {k n : Nat} {js : List Nat} {ds : List PyData} {N : Rho → Mu → Prop} (h : Gjs X ρ μ ts js ds N) (hd : ds.length = n := by rfl) (hc : X.calm = true := by rfl) (hn : (assignEach ts X.env).length = n := by rfl)
    (hst : (assignEach ts X.env).findIdx? (·.1) = none := by rfl) : Gj X ρ μ (.Tuple ts k pos) js (.dat (.list ds)) N := fun R F H as σ v S ok Q q => by
  have hg : PGs X ts (fun vs σ1 H1 Q1 => ∀ (pins : List (Addr × Obj)) (s : Shared) (us : List Value), Inv X pins σ1 H1 s → Vals vs us → wpAny (model X.prog X.w) X.A (assignInOrder ((assignEach ts X.env).map (·.2)) us) (fun _ s' => ∃ σ' H', Inv X pins σ' H' s' ∧ Q1 σ' H') X.xe s) :=
    ⟨fun pins s σ H vs us Q I r h => h pins s us I r⟩
  obtain ⟨a, xs, rfl, h1, h2⟩ := Rp.lstE ok
  refine Wg.of (pg_unl hc hg hn hst) ⟨a, xs, rfl, sq_up S.fh h1, h2.length.trans hd, ?_⟩
  exact h R F H as σ xs S h2 Q q
/-! ### displays -/
/-- [*row, ..] -/
theorem am_star {f : Mu → List PyData → Prop} (h : Dm X ρ μ e fun μ1 r => ∃ ds1, TupR μ1 r ds1 ∧ Am X ρ μ1 es (DatsP fun μ2 ds => f μ2 (ds1 ++ ds))) (hs : starEach (.Starred e p :: es) X.env = (true, eval e X.env) :: starEach es X.env := by rfl) : Am X ρ μ (.Starred e p :: es) (DatsP f) := fun R F H as σ S Q q => by
  refine Wa.of (StX.pa_star (We.pe X e) (Wa.pa X es) hs) ?_
  refine h R F H as σ S _ fun v F1 H1 as1 μ1 r1 S1 x1 o1 ⟨ds1, ht, h1⟩ => ?_
  obtain ⟨a, xs, rfl, g1, g2⟩ := ht.isl S1 o1
  refine ⟨a, xs, rfl, g2.elim .inr fun z => .inl z.1, ?_⟩
  refine h1 R F1 H1 as1 σ S1 _ fun vs F2 H2 as2 μ2 rs S2 x2 o2 ⟨ds, er, h2⟩ => ?_
  subst er
  refine q _ F2 H2 as2 μ2 _ S2 (x1.trans x2) ?_ ⟨ds1 ++ ds, rfl, h2⟩
  rw [List.map_append]
  exact papp (paired_of (g1.mono (Gw.of x2.f))) o2
/-- what was made of our own is given as data -/
theorem dm_asd (h : Dm X ρ μ e fun μ1 r => ∃ n ds, r = .own n ∧ μ1[n]? = some (.L (ds.map Rv.dat)) ∧ P (μ1.set n (.Z (.list ds))) (.dat (.list ds))) : Dm X ρ μ e P := fun R F H as σ S Q q => by
  refine h R F H as σ S _ fun v F1 H1 as1 μ1 r1 S1 x1 o1 ⟨n, ds, er, hm, h1⟩ => ?_
  subst er
  obtain ⟨a, ha, rfl⟩ := o1
  obtain ⟨F', S', x'⟩ := frzL S1 hm rfl
  have hl : n < μ1.length := (List.getElem?_eq_some_iff.mp hm).1
  obtain ⟨_, g⟩ := S'.cel n a (.Z (.list ds)) ha (List.getElem?_set_self hl)
  exact q _ F' H1 as1 _ (.dat (.list ds)) S' (x1.trans x') (okD g) h1
/-! ### [..] * k -/
theorem opd_repL {n : Nat} {rs : List Rv} {k : Int} (hn : μ[n]? = some (.L rs)) (h1 : 0 ≤ k) (h2 : k ≤ 1000) (hl : rs.length ≤ 1000) (h : P (μ ++ [.L (List.replicate k.toNat rs).flatten]) (.own μ.length)) : OpD X ρ rRep μ (.own n) (.dat (.int k)) P := fun R F H as σ y z S o1 o2 Q q => by
  obtain ⟨a, ha, rfl⟩ := o1
  obtain rfl := Rp.intE o2
  obtain ⟨vs, e1, e2, e3, e4⟩ := S.cel n a _ ha hn
  have le := paired_len e4
  refine ⟨a, k, vs, rfl, rfl, e1, by omega, by omega, ?_, fun p hp => ?_⟩
  · have : vs.length * k.toNat ≤ 1000 * 1000 := Nat.mul_le_mul (by omega) (by omega)
    rw [sizeLine_eq]
    omega
  · have rp : ∀ m : Nat, Paired (ROk X.K F as) (List.replicate m vs).flatten (List.replicate m rs).flatten := by
      intro m
      induction m with
      | zero => exact .nil
      | succ m ih =>
        rw [List.replicate_succ, List.replicate_succ, List.flatten_cons, List.flatten_cons]
        exact papp e4 ih
    refine q _ F _ (as ++ [p]) _ (.own μ.length) (S.owned hp (c := .L _) ⟨_, upd_same, fresh_of S.fh hp, fresh_of S.rh hp, Paired.mapP (rp _) fun _ _ z => z.mono (Gw.refl _) (List.prefix_append _ _)⟩) ⟨Same.refl _, List.prefix_append _ _⟩ ⟨p, ?_, rfl⟩ h
    rw [← S.len]
    simp
end
end BW

namespace BW
open PySem PySem.Spec PyProof.Rows L2

/-! ### frames as data -/
structure Mb where
  i : Nat
  j : Nat
  k : Int
  s : Int
structure Fr where
  nd : List (Int × Int)
  mb : List Mb
  sp : List (Nat × List Nat)
def lcode (l : Nat) : Nat := if l = 0 then 120 else if l = 1 then 121 else 114
def lt (l : Nat) : Str := ⟨#[lcode l]⟩
def kS (ls : List Nat) : Str := ⟨(ls.map lcode).toArray⟩
abbrev pD (p : Int × Int) : PyData := .tuple [.int p.1, .int p.2]
abbrev mD (m : Mb) : PyData := .tuple [.int m.i, .int m.j, .int m.k, .int m.s]
abbrev sD (s : Nat × List Nat) : PyData := .tuple [.int s.1, .str (kS s.2)]
abbrev frD (f : Fr) : PyData := .tuple [.tuple (f.nd.map pD), .tuple (f.mb.map mD), .tuple (f.sp.map sD)]
abbrev Way := Nat × Nat
def wK (w : Way) : List Key := [.inl (w.1 : Int), .inr (lt w.2)]
theorem wK_kc (w : Way) : kc ((wK w).map kD) = false := rfl
structure AtM (f : Fr) (m : Nat) (M : Mb) (p q : Int × Int) : Prop where
  m : f.mb[m]? = some M
  i : f.nd[M.i]? = some p
  j : f.nd[M.j]? = some q
theorem atI_nat {α : Type} {xs : List α} {i : Nat} {x : α} (h : xs[i]? = some x) : atI xs (i : Int) = some x := by
  have hl := (List.getElem?_eq_some_iff.mp h).1
  have e : ixN xs.length (i : Int) = some i := by
    unfold ixN
    simp
    omega
  unfold atI
  rw [e]
  exact h
theorem atI_map {α : Type} {xs : List α} {g : α → PyData} {i : Nat} {x : α} (h : xs[i]? = some x) : atI (xs.map g) (i : Int) = some (g x) := atI_nat (by rw [List.getElem?_map, h]; rfl)
def far (p q : Int × Int) : Int := (if q.1 - p.1 < 0 then -(q.1 - p.1) else q.1 - p.1) + (if q.2 - p.2 < 0 then -(q.2 - p.2) else q.2 - p.2)
section
variable {P : Program} {w : World} {K : PySem.W.Frag} {mg : Str → Option Value} {base : Heap}
/-- x[e], the index an expression -/
theorem ixE {X : Cx} {ρ : Rho} {μ : Mu} {P : PR} {pos : Pos} {a b : Expr} (h : Dm X ρ μ a fun μ1 r => Dm X ρ μ1 b (IntP fun μ2 i => ∃ ds d, (r = .dat (.tuple ds) ∨ r = .dat (.list ds)) ∧ atI ds i = some d ∧ P μ2 (.dat d))) (hs : PlainIx b := by exact fun _ _ => rfl) : Dm X ρ μ (.Subscript a b pos) P :=
  dm_ix (h.imp fun _ r h1 => h1.imp fun _ _ ⟨i, e, ds, d, e1, h2, h3⟩ => ⟨i, e, by
    rcases e1 with rfl | rfl
    · exact ⟨d, h2, h3⟩
    · exact ⟨d, h2, h3⟩⟩) hs
section
variable {X : Cx} {ρ : Rho} {μ : Mu} {tg elt cnd kx vx : Expr} {scope : Scope} {vs : List Nat} {α : Type}
theorem take_map_snoc {β : Type} {xs : List α} {h : α → β} {i : Nat} (hi : i < xs.length) : (xs.take (i + 1)).map h = (xs.take i).map h ++ [h xs[i]] := by
  rw [List.take_succ_eq_append_getElem hi, List.map_append]
  rfl
/-- [h x for x in ..] -/
theorem lc_mapL {P : Mu → List Rv → Prop} (xs : List α) (g h : α → PyData) (hl : xs.length ≤ 1000000) (step : ∀ x ∈ xs, ∀ b : Bx, Gj (Bk X scope b) (wipeR ρ vs) μ tg vs (.dat (g x)) fun ρ2 μ2 => ∀ b : Bx, Dm (Bk X scope b) ρ2 μ2 elt fun μ4 r => μ4 = μ ∧ r = .dat (h x))
    (fin : P μ ((xs.map h).map Rv.dat)) : LcP X ρ scope vs tg elt [] P μ (xs.map g) := by
  refine ⟨by rw [List.length_map]; exact hl, fun i μ' acc => μ' = μ ∧ acc = ((xs.take i).map h).map Rv.dat, ⟨rfl, rfl⟩, ?_, ?_⟩
  · rintro i d μ' acc hd ⟨rfl, rfl⟩ _ b
    rw [List.getElem?_map] at hd
    obtain ⟨x, hx, rfl⟩ := Option.map_eq_some_iff.mp hd
    obtain ⟨hi, hx2⟩ := List.getElem?_eq_some_iff.mp hx
    refine fun R F H as σ v S o Q q => step x (List.mem_of_getElem? hx) b R F H as σ v S o Q fun σ' F' H' as' ρ' μ' S' x' a' n' => q σ' F' H' as' ρ' μ' S' x' a' ?_
    intro b2
    show (true = true → _) ∧ (true = false → _)
    refine ⟨fun _ b3 => (n' b3).imp ?_, fun z => nomatch z⟩
    rintro μ4 r ⟨rfl, rfl⟩
    refine ⟨rfl, ?_⟩
    rw [take_map_snoc hi, hx2, List.map_append]
    rfl
  · rintro μ' acc ⟨rfl, rfl⟩
    rw [List.length_map, List.take_length]
    exact fin
/-- [h x for x in .. if c x] -/
theorem lc_filt {P : Mu → List Rv → Prop} (xs : List α) (g h : α → PyData) (c : α → Bool) (hl : xs.length ≤ 1000000) (step : ∀ x ∈ xs, ∀ b : Bx, Gj (Bk X scope b) (wipeR ρ vs) μ tg vs (.dat (g x)) fun ρ2 μ2 => ∀ b : Bx, Tm (Bk X scope b) ρ2 μ2 cnd fun μ3 k => k = c x ∧ (c x = true → ∀ b : Bx, Dm (Bk X scope b) ρ2 μ3 elt fun μ4 r => μ4 = μ ∧ r = .dat (h x)) ∧ (c x = false → μ3 = μ))
    (fin : P μ (((xs.filter c).map h).map Rv.dat)) : LcP X ρ scope vs tg elt [cnd] P μ (xs.map g) := by
  refine ⟨by rw [List.length_map]; exact hl, fun i μ' acc => μ' = μ ∧ acc = (((xs.take i).filter c).map h).map Rv.dat, ⟨rfl, rfl⟩, ?_, ?_⟩
  · rintro i d μ' acc hd ⟨rfl, rfl⟩ _ b
    rw [List.getElem?_map] at hd
    obtain ⟨x, hx, rfl⟩ := Option.map_eq_some_iff.mp hd
    obtain ⟨hi, hx2⟩ := List.getElem?_eq_some_iff.mp hx
    refine fun R F H as σ v S o Q q => step x (List.mem_of_getElem? hx) b R F H as σ v S o Q fun σ' F' H' as' ρ' μ' S' x' a' n' => q σ' F' H' as' ρ' μ' S' x' a' ?_
    intro b2
    refine (n' b2).imp ?_
    rintro μ3 k ⟨rfl, h1, h2⟩
    refine ⟨fun hk b3 => (h1 hk b3).imp ?_, fun hk => ⟨h2 hk, ?_⟩⟩
    · rintro μ4 r ⟨rfl, rfl⟩
      refine ⟨rfl, ?_⟩
      rw [List.take_succ_eq_append_getElem hi, hx2, List.filter_append, List.filter_cons_of_pos hk, List.filter_nil, List.map_append, List.map_append]
      rfl
    · rw [List.take_succ_eq_append_getElem hi, hx2, List.filter_append, List.filter_cons_of_neg (by rw [hk]; exact Bool.false_ne_true), List.filter_nil, List.append_nil]
  · rintro μ' acc ⟨rfl, rfl⟩
    rw [List.length_map, List.take_length]
    exact fin
theorem pk_new {β : Type} {kvs : List (List Key × β)} {k : List Key} {v : β} (h : k ∉ kvs.map (·.1)) : pk kvs k v = kvs ++ [(k, v)] := by
  unfold pk
  rw [if_neg]
  intro z
  obtain ⟨p, hp, e⟩ := List.any_eq_true.mp z
  exact h (List.mem_map.mpr ⟨p, hp, of_decide_eq_true e⟩)
/-- {kf x: vf x for x in ..}, the keys apart -/
theorem dc_mapL {P : Mu → List (List Key × Rv) → Prop} (xs : List α) (g : α → PyData) (kf : α → List Key) (vf : α → PyData) (hl : xs.length ≤ 1000) (hnd : (xs.map kf).Nodup) (hkc : ∀ x ∈ xs, kc ((kf x).map kD) = false)
    (step : ∀ x ∈ xs, ∀ b : Bx, Gj (Bk X scope b) (wipeR ρ vs) μ tg vs (.dat (g x)) fun ρ2 μ2 => ∀ b : Bx, Dm (Bk X scope b) ρ2 μ2 kx fun μ4 r => r = .dat (keyD (kf x)) ∧ ∀ b : Bx, Dm (Bk X scope b) ρ2 μ4 vx fun μ5 r' => μ5 = μ ∧ r' = .dat (vf x))
    (fin : P μ ((xs.map fun x => (kf x, vf x)).map fun p => (p.1, Rv.dat p.2))) : DcP X ρ scope vs tg kx vx [] P μ (xs.map g) := by
  refine ⟨fun i μ' acc => μ' = μ ∧ acc = ((xs.take i).map fun x => (kf x, vf x)).map fun p => (p.1, Rv.dat p.2), ⟨rfl, rfl⟩, ?_, ?_⟩
  · rintro i d μ' acc hd ⟨rfl, rfl⟩ b
    rw [List.getElem?_map] at hd
    obtain ⟨x, hx, rfl⟩ := Option.map_eq_some_iff.mp hd
    obtain ⟨hi, hx2⟩ := List.getElem?_eq_some_iff.mp hx
    have hm := List.mem_of_getElem? hx
    refine fun R F H as σ v S o Q q => step x hm b R F H as σ v S o Q fun σ' F' H' as' ρ' μ' S' x' a' n' => q σ' F' H' as' ρ' μ' S' x' a' ?_
    intro b2
    show (true = true → _) ∧ (true = false → _)
    refine ⟨fun _ b3 => (n' b3).imp ?_, fun z => nomatch z⟩
    rintro μ4 r ⟨rfl, n2⟩ b4
    refine (n2 b4).imp ?_
    rintro μ5 r' ⟨rfl, rfl⟩
    refine ⟨kf x, rfl, hkc x hm, ?_, rfl, ?_⟩
    · rw [List.length_map, List.length_map, List.length_take]
      omega
    · rw [pk_new, List.take_succ_eq_append_getElem hi, hx2, List.map_append, List.map_append]
      · rfl
      · rw [List.map_map, List.map_map]
        show kf x ∉ (xs.take i).map kf
        intro z
        rw [← List.take_append_drop i xs, List.map_append, List.nodup_append] at hnd
        refine hnd.2.2 (kf x) z (kf x) ?_ rfl
        rw [List.drop_eq_getElem_cons hi, hx2]
        exact List.mem_cons_self ..
  · rintro μ' acc ⟨rfl, rfl⟩
    rw [List.length_map, List.take_length]
    exact fin
end
theorem pmN {X : Cx} {ρ : Rho} {μ : Mu} {f : Mu → Option Int → Prop} (h : f μ none) : Pm X ρ μ none f := h
theorem pmC {X : Cx} {ρ : Rho} {μ : Mu} {f : Mu → Option Int → Prop} {i : Int} {j} {pos : Pos} (h : f μ (some i)) : Pm X ρ μ (some (.Constant (.int i) j pos)) f := dm_int (im h)
theorem pmE {X : Cx} {ρ : Rho} {μ : Mu} {f : Mu → Option Int → Prop} {e : Expr} (h : Dm X ρ μ e (IntP fun μ1 i => f μ1 (some i))) : Pm X ρ μ (some e) f := h
def tf_length : Tf := fun ds G => ∃ f m M p q, ds = [frD f, .int (m : Nat)] ∧ AtM f m M p q ∧ G (.int (far p q))
theorem can_length (T : Txt K mg) : Can P w K mg base "length_of" 1 p_length_of (PureSp K tf_length) := by
  refine can_pure 26 T sc_length_of (fun _ _ _ _ _ _ us hl => match us, hl with | [_, _], _ => rfl) (fun ds G h => by obtain ⟨f, m, M, p, q, rfl, _⟩ := h; rfl) fun fa cdv B outer s H E hr ds G h => ?_
  obtain ⟨f, m, M, p, q, rfl, hA, hG⟩ := h
  refine ds_asg (dm_lc (own := [("end", 4)]) sc_length_of.nd (blkOk_by (by kernel_rfl)) (im_tup (dm_slT (ixE (ixT (nm 0 ⟨_, _, rfl, rfl, nm 1 (im ⟨_, _, .inl rfl, atI_map hA.m, tmm (pmN (pmC (tmm ?_)))⟩)⟩))))))
  refine lc_mapL (α := Nat × (Int × Int)) [(M.i, p), (M.j, q)] (fun z => .int (z.1 : Nat)) (fun z => pD z.2) (by simp) (fun z hz b => gj_name (i := 4) sc_length_of.nd rfl ?_) ?_
  · intro b
    have hz2 : f.nd[z.1]? = some z.2 := by
      rcases List.mem_cons.mp hz with rfl | hz
      · exact hA.i
      · rw [List.mem_singleton.mp hz]
        exact hA.j
    exact ixE (ixT (nm 0 ⟨_, _, rfl, rfl, nm 4 (im ⟨_, _, .inl rfl, atI_map hz2, rfl, rfl⟩)⟩))
  refine ⟨[pD p, pD q], rfl, gm_of_j (js := [2, 3]) (gj_unl (gjs_cons (gj_name (i := 2) sc_length_of.nd rfl (gjs_cons (gj_name (i := 3) sc_length_of.nd rfl (gjs_nil ?_))))))⟩
  refine ds_ret (dm_bin op_add (dm_abs rfl T.b_abs (dm_bin op_sub (ixT (nm 3 ⟨_, _, rfl, rfl, ixT (nm 2 ⟨_, _, rfl, rfl, opd_I0 (im ?_)⟩)⟩)))))
  exact dm_abs rfl T.b_abs (dm_bin op_sub (ixT (nm 3 ⟨_, _, rfl, rfl, ixT (nm 2 ⟨_, _, rfl, rfl, opd_I0 (im (opd_I0 ⟨_, rfl, hG⟩))⟩)⟩)))
end
end BW

namespace BW
open PySem PySem.Spec PyProof.Rows L2
section
variable {P : Program} {w : World} {K : PySem.W.Frag} {mg : Str → Option Value} {base : Heap}
/-! ### small tests -/
def isIntD : PyData → Bool
  | .int _ => true
  | _ => false
def tf_is_integer : Tf := fun ds G => ∃ d, ds = [d] ∧ ((∃ i, d = .int i) ∨ (∃ x, d = .str x) ∨ ∃ es, d = .tuple es ∧ noDA es = true) ∧ G (.bool (isIntD d))
theorem can_is_integer (T : Txt K mg) : Can P w K mg base "is_integer" 1 p_is_integer (PureSp K tf_is_integer) := by
  refine can_pure 0 T sc_is_integer (fun _ _ _ _ _ _ us hl => match us, hl with | [_], _ => rfl) (fun ds G h => by obtain ⟨d, rfl, _⟩ := h; rfl) fun fa cdv B outer s H E hr ds G h => ?_
  obtain ⟨d, rfl, hd, hG⟩ := h
  refine ds_ret (dm_and (dm_isi (T := "int") rfl T.b_isinstance rfl T.b_int (by decide +kernel) (nm 0 (dmm ?_))))
  rcases hd with ⟨i, rfl⟩ | ⟨x, rfl⟩ | ⟨es, rfl, he⟩
  · refine ⟨rfl, true, (by decide +kernel : kitB "int" "int" = some true), bm ⟨fun _ => dm_one (dm_not (dm_isi (T := "bool") rfl T.b_isinstance rfl T.b_bool (by decide +kernel) (nm 0 (dmm (d := .int i) ⟨rfl, false, (by decide +kernel : kitB "int" "bool" = some false), bm ⟨_, rfl, hG⟩⟩)))), fun z => nomatch z⟩⟩
  · exact ⟨rfl, false, (by decide +kernel : kitB "str" "int" = some false), bm ⟨(fun z => nomatch z), fun _ => ⟨_, rfl, hG⟩⟩⟩
  · exact ⟨he, false, (by decide +kernel : kitB "tuple" "int" = some false), bm ⟨(fun z => nomatch z), fun _ => ⟨_, rfl, hG⟩⟩⟩
def tf_is_in : Tf := fun ds G => ∃ i l m : Int, ds = [.int i, .int l, .int m] ∧ G (.bool (decide (l ≤ i) && decide (i ≤ m)))
theorem can_is_in (T : Txt K mg) (c : Can P w K mg base "is_integer" 1 p_is_integer (PureSp K tf_is_integer)) : Can P w K mg base "is_in" 2 p_is_in (PureSp K tf_is_in) := by
  refine can_pure 1 T sc_is_in (fun _ _ _ _ _ _ us hl => match us, hl with | [_, _, _], _ => rfl) (fun ds G h => by obtain ⟨i, l, m, rfl, _⟩ := h; rfl) fun fa cdv B outer s H E hr ds G h => ?_
  obtain ⟨i, l, m, rfl, hG⟩ := h
  refine ds_ret (dm_and (dm_call c hr rfl (a1 (nm 0 (dmm ⟨_, rfl, .inl ⟨i, rfl⟩, bm ⟨fun _ => ?_, fun z => nomatch z⟩⟩)))))
  refine dm_one (dm_chain op_le op_le (nm 1 (nm 0 (opd_B0 (bm ⟨fun hk => nm 2 (opd_B0 ⟨_, rfl, ?_⟩), fun hk => ⟨_, rfl, ?_⟩⟩)))))
  · rw [hk, Bool.true_and] at hG
    exact hG
  · rw [hk, Bool.false_and] at hG
    exact hG
def tf_is_list : Tf := fun ds G => ∃ es l m, ds = [.tuple es, .int l, .int m] ∧ noDA es = true ∧ G (.bool (decide (l ≤ (es.length : Int)) && decide ((es.length : Int) ≤ m)))
theorem can_is_list (T : Txt K mg) : Can P w K mg base "is_list" 1 p_is_list (PureSp K tf_is_list) := by
  refine can_pure 2 T sc_is_list (fun _ _ _ _ _ _ us hl => match us, hl with | [_, _, _], _ => rfl) (fun ds G h => by obtain ⟨i, l, m, rfl, _⟩ := h; rfl) fun fa cdv B outer s H E hr ds G h => ?_
  obtain ⟨es, l, m, rfl, he, hG⟩ := h
  refine ds_ret (dm_and (dm_isi (T := "tuple") rfl T.b_isinstance rfl T.b_tuple (by decide +kernel) (nm 0 (dmm ⟨show noD (.tuple es) = true from he, true, (by decide +kernel : kitB "tuple" "tuple" = some true), bm ⟨fun _ => ?_, fun z => nomatch z⟩⟩))))
  refine dm_one (dm_chain op_le op_le (nm 1 (dm_len rfl T.b_len (nm 0 ⟨_, .dat rfl, ?_⟩))))
  rw [List.length_map]
  refine opd_B0 (bm ⟨fun hk => nm 2 (opd_B0 ⟨_, rfl, ?_⟩), fun hk => ⟨_, rfl, ?_⟩⟩)
  · rw [hk, Bool.true_and] at hG
    exact hG
  · rw [hk, Bool.false_and] at hG
    exact hG
/-! ### geometry -/
def cc (p q : Int × Int) : Int := (q.1 - p.1).fdiv (far p q)
def ss (p q : Int × Int) : Int := (q.2 - p.2).fdiv (far p q)
def tf_along : Tf := fun ds G => ∃ f m M p q, ds = [frD f, .int (m : Nat)] ∧ AtM f m M p q ∧ far p q ≠ 0 ∧ G (.tuple [.int (cc p q), .int (ss p q)])
theorem can_along (T : Txt K mg) (z : Seer K mg) (ht : P.given.tree = none) (c : Can P w K mg base "length_of" 1 p_length_of (PureSp K tf_length)) : Can P w K mg base "along" 41 p_along (PureSp K tf_along) := by
  refine can_pure 27 T sc_along (fun _ _ _ _ _ _ us hl => match us, hl with | [_, _], _ => rfl) (fun ds G h => by obtain ⟨f, m, M, p, q, rfl, _⟩ := h; rfl) fun fa cdv B outer s H E hr ds G h => ?_
  obtain ⟨f, m, M, p, q, rfl, hA, h0, hG⟩ := h
  have hd : (B.deeper (envOfC "along" (defScope (top 48)) s.heap.objs.size fa cdv)).depth + 100 < recursionLimit := by
    have := hr.dp
    omega
  refine ds_asg (dm_lc (own := [("end", 5)]) sc_along.nd (blkOk_by (by kernel_rfl)) (im_tup (dm_slT (ixE (ixT (nm 0 ⟨_, _, rfl, rfl, nm 1 (im ⟨_, _, .inl rfl, atI_map hA.m, tmm (pmN (pmC (tmm ?_)))⟩)⟩))))))
  refine lc_mapL (α := Nat × (Int × Int)) [(M.i, p), (M.j, q)] (fun z => .int (z.1 : Nat)) (fun z => pD z.2) (by simp) (fun z hz b => gj_name (i := 5) sc_along.nd rfl ?_) ?_
  · intro b
    have hz2 : f.nd[z.1]? = some z.2 := by
      rcases List.mem_cons.mp hz with rfl | hz
      · exact hA.i
      · rw [List.mem_singleton.mp hz]
        exact hA.j
    exact ixE (ixT (nm 0 ⟨_, _, rfl, rfl, nm 5 (im ⟨_, _, .inl rfl, atI_map hz2, rfl, rfl⟩)⟩))
  refine ⟨[pD p, pD q], rfl, gm_of_j (js := [2, 3]) (gj_unl (gjs_cons (gj_name (i := 2) sc_along.nd rfl (gjs_cons (gj_name (i := 3) sc_along.nd rfl (gjs_nil ?_))))))⟩
  refine ds_asg (dm_call c (hr.mono (by decide)) rfl (ac (nm 0 (dmm (a1 (nm 1 (dmm ⟨f, m, M, p, q, rfl, hA, gm_name sc_along.nd (i := 4) rfl ?_⟩)))))))
  refine ds_ret (dm_tup (ac (dm_bin (op_fdivP z ht (l := outer) rfl rfl rfl hd) (dm_bin op_sub (ixT (nm 3 ⟨_, _, rfl, rfl, ixT (nm 2 ⟨_, _, rfl, rfl, opd_I0 (nm 4 (opd_I h0 (dmm ?_)))⟩)⟩))))))
  exact a1 (dm_bin (op_fdivP z ht (l := outer) rfl rfl rfl hd) (dm_bin op_sub (ixT (nm 3 ⟨_, _, rfl, rfl, ixT (nm 2 ⟨_, _, rfl, rfl, opd_I0 (nm 4 (opd_I h0 (dmm ⟨by simp, _, rfl, hG⟩)))⟩)⟩))))
/-- times 1, 0, -1 -/
def tf_scaled : Tf := fun ds G => ∃ (a : Rat) (s : Int), ds = [rt a, .int s] ∧ (s = 0 ∨ s = 1 ∨ s = -1) ∧ Sm a ∧ G (rt (a * (s : Rat)))
theorem can_scaled (T : Txt K mg) : Can P w K mg base "scaled" 1 p_scaled (PureSp K tf_scaled) := by
  refine can_pure 32 T sc_scaled (fun _ _ _ _ _ _ us hl => match us, hl with | [_, _], _ => rfl) (fun ds G h => by obtain ⟨a, s, rfl, _⟩ := h; rfl) fun fa cdv B outer s H E hr ds G h => ?_
  obtain ⟨a, s, rfl, hs, ha, hG⟩ := h
  refine ds_ret (dm_if (tm_cmp op_ne (nomark _) (nm 1 (dm_int (opd_neI (bm ⟨fun hk => ?_, fun hk => ?_⟩))))))
  · have hs0 : s ≠ 0 := by simpa using hk
    have hc : CMulB a.num s := by
      have := ha.1
      have e : s.natAbs = 1 := by omega
      unfold CMulB
      rw [e]
      have : (1 : Nat).log2 = 0 := by decide
      omega
    refine dm_tup (ac (dm_bin op_mulB (ixT (nm 0 ⟨_, _, rfl, rfl, nm 1 (opd_I hc (dmm (a1 (ixT (nm 0 ⟨_, _, rfl, rfl, dmm ⟨by simp, _, rfl, ?_⟩⟩)))))⟩))))
    rcases hs with rfl | rfl | rfl
    · exact absurd rfl hs0
    · rw [show a * ((1 : Int) : Rat) = a from by rw [show ((1 : Int) : Rat) = 1 from rfl, Rat.mul_one]] at hG
      rw [Int.mul_one]
      exact hG
    · rw [show a * ((-1 : Int) : Rat) = -a from by rw [show ((-1 : Int) : Rat) = -1 from rfl, Rat.mul_neg, Rat.mul_one], rt_neg] at hG
      rw [Int.mul_neg, Int.mul_one]
      exact hG
  · have hs0 : s = 0 := by simpa using hk
    subst hs0
    rw [show a * ((0 : Int) : Rat) = 0 from by rw [show ((0 : Int) : Rat) = 0 from rfl, Rat.mul_zero]] at hG
    exact dmZERO T ⟨_, rfl, hG⟩
end
end BW

namespace BW
open PySem PySem.Spec PyProof.Rows L2
theorem u1 {k : Nat} {A : Around} (r : Room k A) : A.units + 1 < cLine := by
  have := r.un
  omega
theorem u65 {k : Nat} {A : Around} (r : Room k A) : A.units + 65 < cLine := by
  have := r.un
  omega
/-! ### ways -/
def hW (sp : List (Nat × List Nat)) : List Way := sp.flatMap fun s => s.2.map fun l => (s.1, l)
def heldW (f : Fr) : List Way := hW f.sp
def wD (w : Way) : PyData := keyD (wK w)
theorem strD_kS (ls : List Nat) : strD (kS ls) = ls.map fun l => .str (lt l) := by
  unfold strD kS
  rw [List.map_map]
  rfl
theorem im_kS {X : Cx} {ρ : Rho} {μ : Mu} {tg e : Expr} {P : Mu → List PyData → Prop} (h : Dm X ρ μ e fun μ1 r => ∃ ls, r = .dat (.str (kS ls)) ∧ P μ1 (ls.map fun l => .str (lt l))) : Im X ρ μ tg e P :=
  im_str (h.imp fun _ _ ⟨ls, e1, h1⟩ => ⟨kS ls, e1, by show P _ (strD (kS ls)); rw [strD_kS]; exact h1⟩)
theorem hW_take {sp : List (Nat × List Nat)} {i : Nat} (h : i < sp.length) : hW (sp.take (i + 1)) = hW (sp.take i) ++ sp[i].2.map fun l => (sp[i].1, l) := by
  unfold hW
  rw [List.take_succ_eq_append_getElem h, List.flatMap_append]
  simp
theorem pre_new {W L : List Way} {x : Way} (hn : (W.map wK).Nodup) (hp : L ++ [x] <+: W) : wK x ∉ L.map wK := by
  obtain ⟨t, rfl⟩ := hp
  rw [List.map_append, List.map_append, List.nodup_append, List.nodup_append] at hn
  intro z
  exact hn.1.2.2 (wK x) z (wK x) (by simp) rfl
def hD (L : List Way) : List (List Key × PyData) := L.map fun w => (wK w, .bool true)
def hR (L : List Way) : List (List Key × Rv) := L.map fun w => (wK w, .dat (.bool true))
structure HeldOk (f : Fr) : Prop where
  nd : ((heldW f).map wK).Nodup
  len : (heldW f).length ≤ 1000
  sl : f.sp.length ≤ 1000
section
variable {P : Program} {w : World} {K : PySem.W.Frag} {mg : Str → Option Value} {base : Heap}
def tf_held : Tf := fun ds G => ∃ f, ds = [frD f] ∧ HeldOk f ∧ G (dD (hD (heldW f)))
theorem can_held (T : Txt K mg) : Can P w K mg base "held" 1 p_held (PureSp K tf_held) := by
  refine can_pure 28 T sc_held (fun _ _ _ _ _ _ us hl => match us, hl with | [_], _ => rfl) (fun ds G h => by obtain ⟨f, rfl, _⟩ := h; rfl) fun fa cdv B outer s H E hr ds G h => ?_
  obtain ⟨f, rfl, hf, hG⟩ := h
  refine ds_ret (dm_dc2 (own := [("node", 1), ("kind", 2), ("letter", 3)]) (vs1 := [3]) sc_held.nd (u1 hr) (blkOk_by (by kernel_rfl)) (by decide) (im_tup (ixT (nm 0 ⟨_, _, rfl, rfl, tmm ⟨fun i μ acc => μ = [] ∧ acc = hR (hW (f.sp.take i)), ⟨rfl, rfl⟩, ?_, ?_⟩⟩))))
  · rintro i d μ acc hd ⟨rfl, rfl⟩ b
    rw [List.getElem?_map] at hd
    obtain ⟨s, hs, rfl⟩ := Option.map_eq_some_iff.mp hd
    obtain ⟨hi, hs2⟩ := List.getElem?_eq_some_iff.mp hs
    refine gj_tup (gjs_cons (gj_name (i := 1) sc_held.nd rfl (gjs_cons (gj_name (i := 2) sc_held.nd rfl (gjs_nil ?_)))))
    intro b
    refine im_kS (nm 2 ⟨_, rfl, ?_⟩)
    refine ⟨fun j μ acc => μ = [] ∧ acc = hR (hW (f.sp.take i) ++ (s.2.take j).map fun l => (s.1, l)), ⟨rfl, by simp⟩, ?_, ?_⟩
    · rintro j d1 μ acc hd1 ⟨rfl, rfl⟩ b
      rw [List.getElem?_map] at hd1
      obtain ⟨l, hl, rfl⟩ := Option.map_eq_some_iff.mp hd1
      obtain ⟨hj, hl2⟩ := List.getElem?_eq_some_iff.mp hl
      have hpre : (hW (f.sp.take i) ++ (s.2.take j).map fun l => (s.1, l)) ++ [(s.1, l)] <+: heldW f := by
        have e1 : heldW f = hW (f.sp.take i) ++ (s.2.map fun l => (s.1, l)) ++ hW (f.sp.drop (i + 1)) := by
          rw [← hs2, ← hW_take hi]
          unfold heldW hW
          rw [← List.flatMap_append, List.take_append_drop]
        have e2 : (s.2.map fun l => (s.1, l)) = ((s.2.take j).map fun l => (s.1, l)) ++ [(s.1, l)] ++ (s.2.drop (j + 1)).map fun l => (s.1, l) := by
          conv => lhs; rw [← List.take_append_drop j s.2, List.drop_eq_getElem_cons hj, hl2]
          simp
        rw [e1, e2]
        exact ⟨((s.2.drop (j + 1)).map fun l => (s.1, l)) ++ hW (f.sp.drop (i + 1)), by simp⟩
      refine gj_name (i := 3) sc_held.nd rfl ?_
      intro b
      refine dm_tup (ac (nm 1 (dmm (a1 (nm 3 (dmm ⟨by simp, fun b => dm_bool ⟨wK (s.1, l), rfl, rfl, ?_, rfl, ?_⟩⟩))))))
      · have := hpre.length_le
        have := hf.len
        unfold hR
        rw [List.length_map]
        rw [List.length_append] at *
        simp at *
        omega
      · rw [pk_new]
        · rw [List.take_succ_eq_append_getElem hj, hl2]
          simp [hR]
        · unfold hR
          rw [List.map_map]
          exact pre_new hf.nd hpre
    · rintro μ acc ⟨rfl, rfl⟩
      refine ⟨rfl, ?_⟩
      rw [hW_take hi, hs2, List.length_map, List.take_length]
  · rintro μ acc ⟨rfl, rfl⟩
    refine ⟨hD (heldW f), ?_, _, rfl, hG⟩
    rw [List.length_map, List.take_length]
    unfold hR hD heldW
    rw [List.map_map]
    rfl
def isH (f : Fr) (w : Way) : Bool := (heldW f).any fun v => decide (wK v = wK w)
def waysW (n : Nat) : List Way := (List.range n).flatMap fun i => [(i, 0), (i, 1), (i, 2)]
def free (f : Fr) : List Way := (waysW f.nd.length).filter fun w => !isH f w
theorem waysW_succ (n : Nat) : waysW (n + 1) = waysW n ++ [(n, 0), (n, 1), (n, 2)] := by
  unfold waysW
  rw [List.range_succ, List.flatMap_append]
  simp
theorem waysW_len (n : Nat) : (waysW n).length = 3 * n := by
  induction n with
  | zero => rfl
  | succ n ih =>
    rw [waysW_succ, List.length_append, ih]
    simp
    omega
theorem lk_some {α : Type} {g : Way → α} {L : List Way} {k : List Key} : (lk (L.map fun w => (wK w, g w)) k).isSome = L.any fun v => decide (wK v = k) := by
  unfold lk
  rw [Option.isSome_map]
  induction L with
  | nil => rfl
  | cons x L ih =>
    rw [List.map_cons, List.any_cons]
    by_cases h : wK x = k
    · rw [List.find?_cons_of_pos (by simpa using h)]
      simp [h]
    · rw [List.find?_cons_of_neg (by simpa using h), ih]
      simp [h]
theorem dmLET {X : Cx} {ρ : Rho} {μ : Mu} {Q : PR} {pos : Pos} (T : Txt X.K X.mg) (h : Q μ (.dat (.str "xyr"))) (hg : Gl X "LETTERS" := by rfl) : Dm X ρ μ (.Name "LETTERS" pos) Q := by
  obtain ⟨t, ht⟩ := T.s_LETTERS
  exact dm_glob (v := .str "xyr") (d := .str "xyr") hg ht ⟨t, rfl⟩ (fun F => .str _) h
theorem strD_let : strD "xyr" = [0, 1, 2].map fun l => .str (lt l) := by rfl
theorem im_LET {X : Cx} {ρ : Rho} {μ : Mu} {tg : Expr} {pos : Pos} {P : Mu → List PyData → Prop} (T : Txt X.K X.mg) (h : P μ ([0, 1, 2].map fun l => .str (lt l))) (hg : Gl X "LETTERS" := by rfl) : Im X ρ μ tg (.Name "LETTERS" pos) P :=
  im_str (dmLET T ⟨_, rfl, by show P _ (strD "xyr"); rw [strD_let]; exact h⟩ hg)
/-- what a walk over the ways has made -/
theorem ways_at {n i : Nat} (h : i < n) : (waysW (i + 1)).length ≤ 3 * n := by
  rw [waysW_len]
  omega
def wDs (L : List Way) : List Rv := L.map fun w => .dat (wD w)
def tf_free : Tf := fun ds G => ∃ f, ds = [frD f] ∧ HeldOk f ∧ f.nd.length ≤ 300 ∧ G (.list ((free f).map wD))
theorem can_free (T : Txt K mg) (c : Can P w K mg base "held" 1 p_held (PureSp K tf_held)) : Can P w K mg base "free_in" 2 p_free_in (PureSp K tf_free) := by
  refine can_pure 29 T sc_free_in (fun _ _ _ _ _ _ us hl => match us, hl with | [_], _ => rfl) (fun ds G h => by obtain ⟨f, rfl, _⟩ := h; rfl) fun fa cdv B outer s H E hr ds G h => ?_
  obtain ⟨f, rfl, hf, hn, hG⟩ := h
  refine ds_asg (dm_call c hr rfl (a1 (nm 0 (dmm ⟨f, rfl, hf, gm_name sc_free_in.nd (i := 1) rfl ?_⟩))))
  refine ds_setLc2 (own := [("node", 3), ("letter", 4)]) (vs1 := [4]) sc_free_in.nd (blkOk_by (by kernel_rfl)) (by decide) (i := 2) rfl (im_range1 rfl T.b_range (dm_len rfl T.b_len (ixT (nm 0 ⟨_, _, rfl, rfl, _, .dat rfl, im ⟨by omega, ?_, fun i μ acc => μ = [] ∧ acc = wDs (waysW i), ⟨rfl, rfl⟩, ?_, ?_⟩⟩))))
  · simp
    omega
  · rintro i d μ acc hd ⟨rfl, rfl⟩ b
    have hi : i < f.nd.length := by
      have := (List.getElem?_eq_some_iff.mp hd).1
      rw [rangeD_len] at this
      simpa using this
    rw [rangeD_get (by simpa using hi)] at hd
    obtain rfl := Option.some.inj hd
    refine gj_name (i := 3) sc_free_in.nd rfl ?_
    intro b
    refine im_LET T ⟨fun j μ acc => μ = [] ∧ acc = wDs (waysW i ++ ([0, 1, 2].take j).map fun l => (i, l)), ⟨rfl, by simp⟩, ?_, ?_⟩
    · rintro j d1 μ acc hd1 ⟨rfl, rfl⟩ b
      rw [List.getElem?_map] at hd1
      obtain ⟨l, hl, rfl⟩ := Option.map_eq_some_iff.mp hd1
      obtain ⟨hj, hl2⟩ := List.getElem?_eq_some_iff.mp hl
      refine gj_name (i := 4) sc_free_in.nd rfl ?_
      intro b
      refine dm_tup (ac (nm 3 (dmm (a1 (nm 4 (dmm ⟨by simp, ?_, rfl, ?_⟩))))))
      · unfold wDs
        rw [List.length_map, List.length_append, waysW_len, List.length_map, List.length_take]
        have : min j ([0, 1, 2] : List Nat).length ≤ 3 := Nat.min_le_right _ _
        omega
      · rw [List.take_succ_eq_append_getElem hj, hl2]
        simp [wDs, wD, keyD, wK, kD]
    · rintro μ acc ⟨rfl, rfl⟩
      refine ⟨rfl, ?_⟩
      rw [waysW_succ]
      rfl
  · rintro μ acc ⟨rfl, rfl⟩
    refine ⟨(waysW f.nd.length).map wD, ?_, ?_⟩
    · rw [rangeD_len]
      simp [wDs]
    · refine ds_ret (dm_lc (own := [("way", 5)]) sc_free_in.nd (blkOk_by (by kernel_rfl)) (im_list (nm 2 (lm ?_))))
      refine lc_filt (waysW f.nd.length) wD wD (fun w => !isH f w) (by rw [waysW_len]; omega) (fun x hx b => gj_name (i := 5) sc_free_in.nd rfl ?_) ⟨_, rfl, _, rfl, hG⟩
      intro b
      refine tm_dni (u1 hr) (nm 5 (nm 1 ⟨wK x, _, rfl, rfl, .dat, ?_, fun _ b => nm 5 ⟨rfl, rfl⟩, fun _ => rfl⟩))
      unfold hD isH
      rw [List.map_map]
      exact congrArg (!·) (lk_some (g := fun _ => Rv.dat (.bool true)))
end
end BW

namespace BW
open PySem PySem.Spec PyProof.Rows L2
/-! ### forces at the nodes -/
def eD (e : Nat → Rat) (n : Nat) : List PyData := (List.range n).map fun i => rt (e i)
def atE (M : Mb) (c s : Int) (e : Nat → Rat) : List (Way × Rat) :=
  [((M.i, 0), e 0 * (c : Rat) + e 1 * ((-s : Int) : Rat)), ((M.i, 1), e 0 * (s : Rat) + e 1 * (c : Rat)), ((M.i, 2), e 2), ((M.j, 0), e 3 * (c : Rat) + e 4 * ((-s : Int) : Rat)), ((M.j, 1), e 3 * (s : Rat) + e 4 * (c : Rat)), ((M.j, 2), e 5)]
def tD (L : List (Way × Rat)) : List (List Key × PyData) := L.map fun z => (wK z.1, rt z.2)
def tR (L : List (Way × Rat)) : List (List Key × Rv) := L.map fun z => (wK z.1, .dat (rt z.2))
def sgnOk (s : Int) : Prop := s = 0 ∨ s = 1 ∨ s = -1
theorem sgnOk.neg {s : Int} (h : sgnOk s) : sgnOk (-s) := by
  unfold sgnOk at *
  omega
theorem sgnOk.bd {s : Int} (h : sgnOk s) : Bd 1 (s : Rat) := by
  rcases h with rfl | rfl | rfl <;> exact ⟨by decide, by decide⟩
theorem pk_snoc {L : List (Way × Rat)} {x : Way} {v : Rat} (h : wK x ∉ L.map fun z => wK z.1) : pk (tR L) (wK x) (.dat (rt v)) = tR (L ++ [(x, v)]) := by
  rw [pk_new]
  · simp [tR]
  · unfold tR
    rw [List.map_map]
    exact h
theorem asd_all (μ : Mu) : ∀ L : List (Way × Rat), Paired (fun (p : List Key × Rv) (q : List Key × PyData) => p.1 = q.1 ∧ AsD μ p.2 q.2) (tR L) (tD L)
  | [] => .nil
  | _ :: L => .cons ⟨rfl, .dat⟩ (asd_all μ L)
theorem wK_ne {a b : Nat} {i j : Nat} (h : a ≠ b) : wK (a, i) ≠ wK (b, j) := by
  intro z
  simp [wK] at z
  omega
section
variable {P : Program} {w : World} {K : PySem.W.Frag} {mg : Str → Option Value} {base : Heap}
def tf_at : Tf := fun ds G => ∃ f m M p q e b, ds = [frD f, .int (m : Nat), .tuple (eD e 6)] ∧ AtM f m M p q ∧ far p q ≠ 0 ∧ sgnOk (cc p q) ∧ sgnOk (ss p q) ∧ M.i ≠ M.j ∧ (∀ i, Bd b (e i)) ∧ b ≤ 4000000 ∧ G (dD (tD (atE M (cc p q) (ss p q) e)))
theorem can_at (T : Txt K mg) (c_along : Can P w K mg base "along" 41 p_along (PureSp K tf_along)) (c_scaled : Can P w K mg base "scaled" 1 p_scaled (PureSp K tf_scaled)) (c_plus : Can P w K mg base "plus" 42 p_plus (PureSp K tf_plus)) : Can P w K mg base "at_nodes" 43 p_at_nodes (PureSp K tf_at) := by
  refine can_pure 31 T sc_at_nodes (fun _ _ _ _ _ _ us hl => match us, hl with | [_, _, _], _ => rfl) (fun ds G h => by obtain ⟨f, m, M, p, q, e, b, rfl, _⟩ := h; rfl) fun fa cdv B outer s H E hr ds G h => ?_
  obtain ⟨f, m, M, p, q, e, bb, rfl, hA, h0, hc, hs, hij, he, hb, hG⟩ := h
  refine ds_asg (dm_call c_along (hr.mono (by decide)) rfl (ac (nm 0 (dmm (a1 (nm 1 (dmm ⟨f, m, M, p, q, rfl, hA, h0, gm_of_j (js := [3, 4]) (gj_tup (gjs_cons (gj_name (i := 3) sc_at_nodes.nd rfl (gjs_cons (gj_name (i := 4) sc_at_nodes.nd rfl (gjs_nil ?_))))))⟩)))))))
  refine ds_asg (dm_dctO (gm_name sc_at_nodes.nd (i := 5) rfl ?_))
  have hsm : ∀ i, Sm (e i) := fun i => (he i).sm (by omega)
  have hmul : ∀ i (x : Int), sgnOk x → Sm (e i * (x : Rat)) := fun i x hx => ((he i).mul hx.bd).sm (by omega)
  refine ds_for PassesOwn.never (im_tup (dm_tup (ac (dm_int (dmm (a1 (dm_int (dmm ⟨by simp, tmm ⟨fun i ρ μ => (∃ o1 o2 o3 o4 o5, ρ = [some (.dat (frD f)), some (.dat (.int (m : Nat))), some (.dat (.tuple (eD e 6))), some (.dat (.int (cc p q))), some (.dat (.int (ss p q))), some (.own 0), o1, o2, o3, o4, o5]) ∧ μ = [.M (tR ((atE M (cc p q) (ss p q) e).take (3 * i)))], ⟨⟨_, _, _, _, _, rfl⟩, rfl⟩, ?_, ?_⟩⟩))))))))
  · rintro i d ρ μ hd ⟨⟨o1, o2, o3, o4, o5, rfl⟩, rfl⟩
    have hi : i < 2 := (List.getElem?_eq_some_iff.mp hd).1
    obtain ⟨nn, rfl, hnn, hcut, htake, hnew⟩ : ∃ nn : Nat, d = .int (i : Int) ∧ atI [PyData.int M.i, .int M.j, .int M.k, .int M.s] (i : Int) = some (.int (nn : Nat)) ∧ cutD (eD e 6) (some (3 * (i : Int))) (some (3 * (i : Int) + 3)) = [rt (e (3 * i)), rt (e (3 * i + 1)), rt (e (3 * i + 2))] ∧
        (atE M (cc p q) (ss p q) e).take (3 * (i + 1)) = (atE M (cc p q) (ss p q) e).take (3 * i) ++ [((nn, 0), e (3 * i) * (cc p q : Rat) + e (3 * i + 1) * ((-(ss p q) : Int) : Rat)), ((nn, 1), e (3 * i) * (ss p q : Rat) + e (3 * i + 1) * (cc p q : Rat)), ((nn, 2), e (3 * i + 2))] ∧
        ∀ l, wK (nn, l) ∉ ((atE M (cc p q) (ss p q) e).take (3 * i)).map fun z => wK z.1 := by
      match i, hi, hd with
      | 0, _, hd =>
        refine ⟨M.i, (Option.some.inj hd).symm, rfl, rfl, rfl, ?_⟩
        intro l z
        simp at z
      | 1, _, hd =>
        refine ⟨M.j, (Option.some.inj hd).symm, rfl, rfl, rfl, ?_⟩
        intro l z
        simp only [atE, List.take, List.map, List.mem_cons, List.not_mem_nil, or_false] at z
        rcases z with z | z | z <;> exact wK_ne (Ne.symm hij) z
    have hl3 : ((atE M (cc p q) (ss p q) e).take (3 * i)).length ≤ 6 := by
      rw [List.length_take]
      exact Nat.min_le_right _ _
    have hlR : ∀ L : List (Way × Rat), (tR L).length = L.length := fun L => by
      unfold tR
      rw [List.length_map]
    generalize (atE M (cc p q) (ss p q) e).take (3 * i) = L at hl3 hnew htake ⊢
    refine gm_name sc_at_nodes.nd (i := 6) rfl ?_
    refine ds_asg (dm_tup (ac (ixE (ixE (ixT (nm 0 ⟨_, _, rfl, rfl, nm 1 (im ⟨_, _, .inl rfl, atI_map hA.m, nm 6 (im ⟨_, _, .inl rfl, hnn, dmm ?_⟩)⟩)⟩))))))
    refine a1 (dm_slT (nm 2 (tmm (pmE (dm_bin op_mulB (dm_int (nm 6 (opd_I ?_ (im (pmE (dm_bin op_add (dm_bin op_mulB (dm_int (nm 6 (opd_I ?_ (dm_int (opd_I0 (im ?_))))))))))))))))))
    · exact CMulB.of (a := 2) (b := 2) (by decide) (by omega) (by omega)
    · exact CMulB.of (a := 2) (b := 2) (by decide) (by omega) (by omega)
    rw [hcut]
    have hu := u1 hr
    refine dmm ⟨by simp, gm_of_j (js := [7, 8, 9, 10]) (gj_tup (gjs_cons (gj_name (i := 7) sc_at_nodes.nd rfl (gjs_cons (gj_tup (gjs_cons (gj_name (i := 8) sc_at_nodes.nd rfl (gjs_cons (gj_name (i := 9) sc_at_nodes.nd rfl (gjs_cons (gj_name (i := 10) sc_at_nodes.nd rfl (gjs_nil (gjs_nil ?_)))))))))))))⟩
    refine ds_dput hu (dm_call c_plus (hr.mono (by decide)) rfl (ac (dm_call c_scaled (hr.mono (by decide)) rfl (ac (nm 8 (dmm (a1 (nm 3 (dmm ⟨_, _, rfl, hc, hsm _, dmm ?_⟩)))))))))
    refine a1 (dm_call c_scaled (hr.mono (by decide)) rfl (ac (nm 9 (dmm (a1 (dm_neg (nm 4 (im (dmm ⟨_, _, rfl, hs.neg, hsm _, dmm ⟨_, _, rfl, hmul _ _ hc, hmul _ _ hs.neg, ?_⟩⟩))))))))) 
    refine nm 5 (dm_tup (ac (nm 7 (dmm (a1 (dm_str (dmm ⟨by simp, 0, wK (nn, 0), _, rfl, rfl, rfl, rfl, by rw [hlR]; omega, ?_⟩)))))))
    rw [pk_snoc (hnew 0)]
    refine ds_dput hu (dm_call c_plus (hr.mono (by decide)) rfl (ac (dm_call c_scaled (hr.mono (by decide)) rfl (ac (nm 8 (dmm (a1 (nm 4 (dmm ⟨_, _, rfl, hs, hsm _, dmm ?_⟩)))))))))
    refine a1 (dm_call c_scaled (hr.mono (by decide)) rfl (ac (nm 9 (dmm (a1 (nm 3 (dmm ⟨_, _, rfl, hc, hsm _, dmm ⟨_, _, rfl, hmul _ _ hs, hmul _ _ hc, ?_⟩⟩)))))))
    refine nm 5 (dm_tup (ac (nm 7 (dmm (a1 (dm_str (dmm ⟨by simp, 0, wK (nn, 1), _, rfl, rfl, rfl, rfl, by rw [hlR, List.length_append]; simp; omega, ?_⟩)))))))
    rw [pk_snoc (by
      rw [List.map_append, List.mem_append]
      rintro (z | z)
      · exact hnew 1 z
      · simp [wK, lt, lcode] at z)]
    refine ds_dput hu (nm 10 ?_)
    refine nm 5 (dm_tup (ac (nm 7 (dmm (a1 (dm_str (dmm ⟨by simp, 0, wK (nn, 2), _, rfl, rfl, rfl, rfl, by rw [hlR, List.length_append, List.length_append]; simp; omega, ?_⟩)))))))
    rw [pk_snoc (by
      rw [List.map_append, List.map_append, List.mem_append, List.mem_append]
      rintro ((z | z) | z)
      · exact hnew 2 z
      · simp [wK, lt, lcode] at z
      · simp [wK, lt, lcode] at z)]
    refine ds_nil ⟨⟨_, _, _, _, _, rfl⟩, ?_⟩
    rw [htake, List.append_assoc, List.append_assoc]
    rfl
  · rintro ρ μ ⟨⟨o1, o2, o3, o4, o5, rfl⟩, rfl⟩
    refine ds_frzM (n := 0) (tD (atE M (cc p q) (ss p q) e)) rfl ?_ (ds_ret (nz 5 ⟨_, rfl, hG⟩))
    exact asd_all _ _
/-! ### the forces of a member's three parts -/
def ef (L : Int) (a b c : Rat) : Nat → Rat := fun i => match i with
  | 0 => -a
  | 1 => (b + c) / (L : Rat)
  | 2 => b
  | 3 => a
  | 4 => -((b + c) / (L : Rat))
  | _ => c
def tf_ebf : Tf := fun ds G => ∃ f m M p q a b c bb, ds = [frD f, .int (m : Nat), .list [rt a, rt b, rt c]] ∧ AtM f m M p q ∧ far p q ≠ 0 ∧ Bd 30 (far p q : Rat) ∧ Bd bb b ∧ Bd bb c ∧ bb ≤ 4000000 ∧ G (.tuple (eD (ef (far p q) a b c) 6))
theorem can_ebf (T : Txt K mg) (c_length : Can P w K mg base "length_of" 1 p_length_of (PureSp K tf_length)) (c_plus : Can P w K mg base "plus" 42 p_plus (PureSp K tf_plus)) (c_whole : Can P w K mg base "whole" 1 p_whole (PureSp K tf_whole))
    (c_over : Can P w K mg base "over" 42 p_over (PureSp K tf_over)) (c_negative : Can P w K mg base "negative" 1 p_negative (PureSp K tf_negative)) : Can P w K mg base "ends_by_forces" 43 p_ends_by_forces (PureSp K tf_ebf) := by
  refine can_pure 30 T sc_ends_by_forces (fun _ _ _ _ _ _ us hl => match us, hl with | [_, _, _], _ => rfl) (fun ds G h => by obtain ⟨f, m, M, p, q, a, b, c, bb, rfl, _⟩ := h; rfl) fun fa cdv B outer s H E hr ds G h => ?_
  obtain ⟨f, m, M, p, q, a, b, c, bb, rfl, hA, h0, hF, hb, hc, hbb, hG⟩ := h
  have h0' : (far p q : Rat) ≠ 0 := fun z => h0 (by simpa using z)
  have hm : ∀ {k : Nat}, k ≤ 42 → Room k (B.deeper (envOfC "ends_by_forces" (defScope (top 51)) s.heap.objs.size fa cdv)) := fun h => hr.mono h
  refine ds_asg (nm 2 (gm_of_j (js := [3, 4, 5]) (gj_unl (gjs_cons (gj_name (i := 3) sc_ends_by_forces.nd rfl (gjs_cons (gj_name (i := 4) sc_ends_by_forces.nd rfl (gjs_cons (gj_name (i := 5) sc_ends_by_forces.nd rfl (gjs_nil ?_)))))))))) 
  refine ds_asg (dm_call c_over (hm (by decide)) rfl (ac (dm_call c_plus (hm (by decide)) rfl (ac (nm 4 (dmm (a1 (nm 5 (dmm ⟨_, _, rfl, hb.sm (by omega), hc.sm (by omega), dmm ?_⟩)))))))))
  refine a1 (dm_call c_whole (hm (by decide)) rfl (a1 (dm_call c_length (hm (by decide)) rfl (ac (nm 0 (dmm (a1 (nm 1 (dmm ⟨f, m, M, p, q, rfl, hA, dmm ⟨_, rfl, dmm ⟨_, _, rfl, (hb.add hc).sm (by omega), hF.sm (by omega), h0', gm_name sc_ends_by_forces.nd (i := 6) rfl ?_⟩⟩⟩)))))))))
  refine ds_ret (dm_tup (ac (dm_call c_negative (hm (by decide)) rfl (a1 (nm 3 (dmm ⟨_, rfl, dmm ?_⟩))))))
  refine ac (nm 6 (dmm (ac (nm 4 (dmm (ac (nm 3 (dmm (ac (dm_call c_negative (hm (by decide)) rfl (a1 (nm 6 (dmm ⟨_, rfl, dmm (a1 (nm 5 (dmm ⟨by simp, _, rfl, hG⟩)))⟩)))))))))))))
/-! ### a member's ends in its own directions -/
def tE (M : Mb) (c s : Int) (u : Way → Rat) : Nat → Rat := fun i => match i with
  | 0 => u (M.i, 0) * (c : Rat) + u (M.i, 1) * (s : Rat)
  | 1 => u (M.i, 0) * ((-s : Int) : Rat) + u (M.i, 1) * (c : Rat)
  | 2 => u (M.i, 2)
  | 3 => u (M.j, 0) * (c : Rat) + u (M.j, 1) * (s : Rat)
  | 4 => u (M.j, 0) * ((-s : Int) : Rat) + u (M.j, 1) * (c : Rat)
  | _ => u (M.j, 2)
def tf_turned : Tf := fun ds G => ∃ f m M p q kds u bb, ds = [frD f, .int (m : Nat), dD kds] ∧ AtM f m M p q ∧ far p q ≠ 0 ∧ sgnOk (cc p q) ∧ sgnOk (ss p q) ∧ (∀ l < 3, lk kds (wK (M.i, l)) = some (rt (u (M.i, l))) ∧ lk kds (wK (M.j, l)) = some (rt (u (M.j, l)))) ∧ (∀ w, Bd bb (u w)) ∧ bb ≤ 4000000 ∧ G (.list (eD (tE M (cc p q) (ss p q) u) 6))
theorem lk_map {α β : Type} (g : α → β) (kvs : List (List Key × α)) (k : List Key) : lk (kvs.map fun p => (p.1, g p.2)) k = (lk kvs k).map g := by
  unfold lk
  induction kvs with
  | nil => rfl
  | cons x L ih =>
    rw [List.map_cons]
    by_cases h : x.1 = k
    · rw [List.find?_cons_of_pos (by simpa using h), List.find?_cons_of_pos (by simpa using h)]
      rfl
    · rw [List.find?_cons_of_neg (by simpa using h), List.find?_cons_of_neg (by simpa using h)]
      exact ih
theorem can_turned (T : Txt K mg) (c_along : Can P w K mg base "along" 41 p_along (PureSp K tf_along)) (c_scaled : Can P w K mg base "scaled" 1 p_scaled (PureSp K tf_scaled)) (c_plus : Can P w K mg base "plus" 42 p_plus (PureSp K tf_plus)) : Can P w K mg base "turned" 43 p_turned (PureSp K tf_turned) := by
  refine can_pure 42 T sc_turned (fun _ _ _ _ _ _ us hl => match us, hl with | [_, _, _], _ => rfl) (fun ds G h => by obtain ⟨f, m, M, p, q, kds, u, b, rfl, _⟩ := h; rfl) fun fa cdv B outer s H E hr ds G h => ?_
  obtain ⟨f, m, M, p, q, kds, u, bb, rfl, hA, h0, hc, hs, hk, he, hb, hG⟩ := h
  have hu := u1 hr
  have hsm : ∀ i, Sm (u i) := fun i => (he i).sm (by omega)
  have hmul : ∀ i (x : Int), sgnOk x → Sm (u i * (x : Rat)) := fun i x hx => ((he i).mul hx.bd).sm (by omega)
  refine ds_asg (dm_call c_along (hr.mono (by decide)) rfl (ac (nm 0 (dmm (a1 (nm 1 (dmm ⟨f, m, M, p, q, rfl, hA, h0, gm_of_j (js := [3, 4]) (gj_tup (gjs_cons (gj_name (i := 3) sc_turned.nd rfl (gjs_cons (gj_name (i := 4) sc_turned.nd rfl (gjs_nil ?_))))))⟩)))))))
  refine ds_asg (dm_lstO (am_nil ⟨by simp, gm_name sc_turned.nd (i := 5) rfl ?_⟩))
  refine ds_for PassesOwn.never (im_tup (dm_tup (ac (dm_int (dmm (a1 (dm_int (dmm ⟨by simp, tmm ⟨fun i ρ μ => (∃ o1 o2 o3 o4 o5, ρ = [some (.dat (frD f)), some (.dat (.int (m : Nat))), some (.dat (dD kds)), some (.dat (.int (cc p q))), some (.dat (.int (ss p q))), some (.own 0), o1, o2, o3, o4, o5]) ∧ μ = [.L (((eD (tE M (cc p q) (ss p q) u) 6).take (3 * i)).map Rv.dat)], ⟨⟨_, _, _, _, _, rfl⟩, rfl⟩, ?_, ?_⟩⟩))))))))
  · rintro i d ρ μ hd ⟨⟨o1, o2, o3, o4, o5, rfl⟩, rfl⟩
    have hi : i < 2 := (List.getElem?_eq_some_iff.mp hd).1
    obtain ⟨nn, rfl, hnn, hkk, htake⟩ : ∃ nn : Nat, d = .int (i : Int) ∧ atI [PyData.int M.i, .int M.j, .int M.k, .int M.s] (i : Int) = some (.int (nn : Nat)) ∧ (∀ l < 3, lk kds (wK (nn, l)) = some (rt (u (nn, l)))) ∧
        (eD (tE M (cc p q) (ss p q) u) 6).take (3 * (i + 1)) = (eD (tE M (cc p q) (ss p q) u) 6).take (3 * i) ++ [rt (u (nn, 0) * (cc p q : Rat) + u (nn, 1) * (ss p q : Rat)), rt (u (nn, 0) * ((-(ss p q) : Int) : Rat) + u (nn, 1) * (cc p q : Rat)), rt (u (nn, 2))] := by
      match i, hi, hd with
      | 0, _, hd => exact ⟨M.i, (Option.some.inj hd).symm, rfl, fun l hl => (hk l hl).1, rfl⟩
      | 1, _, hd => exact ⟨M.j, (Option.some.inj hd).symm, rfl, fun l hl => (hk l hl).2, rfl⟩
    have hl3 : ((eD (tE M (cc p q) (ss p q) u) 6).take (3 * i)).length ≤ 6 := by
      rw [List.length_take]
      exact Nat.min_le_right _ _
    generalize (eD (tE M (cc p q) (ss p q) u) 6).take (3 * i) = L at hl3 htake ⊢
    refine gm_name sc_turned.nd (i := 6) rfl ?_
    refine ds_asg (dm_lc (own := [("letter", 10)]) sc_turned.nd (blkOk_by (by kernel_rfl)) (im_LET T (lc_mapL [0, 1, 2] (fun l => .str (lt l)) (fun l => rt (u (nn, l))) (by simp) (fun l hl b => gj_name (i := 10) sc_turned.nd rfl ?_) ?_)))
    · intro b
      refine dm_dget hu (nm 2 (dm_tup (ac (ixE (ixE (ixT ?_))))))
      refine nm 0 ⟨_, _, rfl, rfl, nm 1 (im ⟨_, _, .inl rfl, atI_map hA.m, nm 6 (im ⟨_, _, .inl rfl, hnn, dmm ?_⟩)⟩)⟩
      refine a1 (nm 10 (dmm ⟨by simp, wK (nn, l), _, _, rfl, rfl, .dat, ?_, rfl, rfl⟩))
      rw [lk_map, hkk l (by simp at hl; omega)]
      rfl
    refine ⟨_, rfl, gm_of_j (js := [7, 8, 9]) (gj_unl (ds := [rt (u (nn, 0)), rt (u (nn, 1)), rt (u (nn, 2))]) (gjs_cons (gj_name (i := 7) sc_turned.nd rfl (gjs_cons (gj_name (i := 8) sc_turned.nd rfl (gjs_cons (gj_name (i := 9) sc_turned.nd rfl (gjs_nil ?_))))))))⟩
    refine ds_expr (dm_append (nm 5 ⟨0, _, rfl, rfl, dm_call c_plus (hr.mono (by decide)) rfl (ac (dm_call c_scaled (hr.mono (by decide)) rfl (ac (nm 7 (dmm (a1 (nm 3 (dmm ⟨_, _, rfl, hc, hsm _, dmm ?_⟩))))))))⟩))
    refine a1 (dm_call c_scaled (hr.mono (by decide)) rfl (ac (nm 8 (dmm (a1 (nm 4 (dmm ⟨_, _, rfl, hs, hsm _, dmm ⟨_, _, rfl, hmul _ _ hc, hmul _ _ hs, _, rfl, by rw [List.length_map]; omega, ?_⟩⟩)))))))
    refine ds_expr (dm_append (nm 5 ⟨0, _, rfl, rfl, dm_call c_plus (hr.mono (by decide)) rfl (ac (dm_call c_scaled (hr.mono (by decide)) rfl (ac (nm 7 (dmm (a1 (dm_neg (nm 4 (im (dmm ⟨_, _, rfl, hs.neg, hsm _, dmm ?_⟩))))))))))⟩))
    refine a1 (dm_call c_scaled (hr.mono (by decide)) rfl (ac (nm 8 (dmm (a1 (nm 3 (dmm ⟨_, _, rfl, hc, hsm _, dmm ⟨_, _, rfl, hmul _ _ hs.neg, hmul _ _ hc, _, rfl, by simp; omega, ?_⟩⟩)))))))
    refine ds_expr (dm_append (nm 5 ⟨0, _, rfl, rfl, nm 9 ⟨_, rfl, by simp; omega, ?_⟩⟩))
    refine ds_nil ⟨⟨_, _, _, _, _, rfl⟩, ?_⟩
    rw [htake]
    simp
  · rintro ρ μ ⟨⟨o1, o2, o3, o4, o5, rfl⟩, rfl⟩
    exact ds_frzL (n := 0) (eD (tE M (cc p q) (ss p q) u) 6) rfl rfl (ds_ret (nz 5 ⟨_, rfl, hG⟩))
end
end BW

namespace BW
open PySem PySem.Spec PyProof.Rows L2
/-! ### inner products -/
def dot (n : Nat) (x y : Nat → Rat) : Rat := match n with
  | 0 => 0
  | n + 1 => dot n x y + x n * y n
def nzB (x y : Nat → Rat) (i : Nat) : Bool := !decide ((x i).num = 0) && !decide ((y i).num = 0)
theorem sums_dot (x y : Nat → Rat) : ∀ n, sums (((List.range n).filter (nzB x y)).map fun i => x i * y i) = dot n x y
  | 0 => rfl
  | n + 1 => by
    rw [List.range_succ, List.filter_append, List.map_append]
    by_cases h : nzB x y n = true
    · rw [List.filter_cons_of_pos h, List.filter_nil]
      show sums (_ ++ [x n * y n]) = _
      rw [sums_snoc, sums_dot x y n]
      rfl
    · rw [List.filter_cons_of_neg h, List.filter_nil, List.map_nil, List.append_nil, sums_dot x y n]
      have : x n * y n = 0 := by
        by_cases h1 : (x n).num = 0
        · rw [Rat.num_eq_zero.mp h1, Rat.zero_mul]
        · by_cases h2 : (y n).num = 0
          · rw [Rat.num_eq_zero.mp h2, Rat.mul_zero]
          · exact absurd (by simp [nzB, h1, h2]) h
      show _ = dot n x y + x n * y n
      rw [this, Rat.add_zero]
theorem zip_eD (x y : Nat → Rat) (n : Nat) : zipD (eD x n) (eD y n) = (List.range n).map fun i => .tuple [rt (x i), rt (y i)] := by
  unfold zipD eD
  rw [List.zip_map', List.map_map]
  rfl
section
variable {P : Program} {w : World} {K : PySem.W.Frag} {mg : Str → Option Value} {base : Heap}
def tf_inner : Tf := fun ds G => ∃ (x y : Nat → Rat) (n b : Nat), ds = [.list (eD x n), .list (eD y n)] ∧ (∀ i, Bd b (x i)) ∧ (∀ i, Bd b (y i)) ∧ n ≤ 100 ∧ n * (2 * b + 1) + 1 ≤ 40000000 ∧ b ≤ 4000000 ∧ G (rt (dot n x y))
theorem can_inner (T : Txt K mg) (c_times : Can P w K mg base "times" 42 p_times (PureSp K tf_times)) (c_total : Can P w K mg base "total" 43 p_total (PureSp K tf_total)) : Can P w K mg base "inner" 44 p_inner (PureSp K tf_inner) := by
  refine can_pure 12 T sc_inner (fun _ _ _ _ _ _ us hl => match us, hl with | [_, _], _ => rfl) (fun ds G h => by obtain ⟨x, y, n, b, rfl, _⟩ := h; rfl) fun fa cdv B outer s H E hr ds G h => ?_
  obtain ⟨x, y, n, bb, rfl, hx, hy, hn, hl, hb, hG⟩ := h
  refine ds_ret (dm_call c_total hr rfl (a1 (dm_lc (own := [("a", 2), ("b", 3)]) sc_inner.nd (blkOk_by (by kernel_rfl)) (im_zip rfl T.b_zip (nm 0 (lm (nm 1 (lm ?_))))))))
  rw [zip_eD]
  refine lc_filt (List.range n) _ (fun i => rt (x i * y i)) (nzB x y) (by rw [List.length_range]; omega) (fun i hi b => ?_) ?_
  · refine gj_tup (gjs_cons (gj_name (i := 2) sc_inner.nd rfl (gjs_cons (gj_name (i := 3) sc_inner.nd rfl (gjs_nil ?_)))))
    intro b
    have last : ∀ (X : Cx) (ρ : Rho), True := fun _ _ => trivial
    refine tm_w (wm_and2 (tm_cmp op_ne (nomark _) (ixT (nm 2 ⟨_, _, rfl, rfl, dm_int (opd_neI (bm ⟨fun h1 => ?_, fun h1 => ?_⟩))⟩))))
    · refine tm_cmp op_ne (nomark _) (ixT (nm 3 ⟨_, _, rfl, rfl, dm_int (opd_neI (bm ⟨?_, fun _ b => ?_, fun _ => rfl⟩))⟩))
      · unfold nzB
        rw [h1, Bool.true_and]
      · exact dm_call (X := Bk _ _ b) c_times (hr.mono (by decide)) rfl (ac (nm 2 (dmm (a1 (nm 3 (dmm ⟨_, _, rfl, (hx i).sm (by omega), (hy i).sm (by omega), rfl, rfl⟩))))))
    · have e : nzB x y i = false := by
        unfold nzB
        rw [h1, Bool.false_and]
      exact ⟨e.symm, (fun z => by rw [e] at z; cases z), fun _ => rfl⟩
  · refine ⟨_, rfl, dmm ⟨((List.range n).filter (nzB x y)).map fun i => x i * y i, 2 * bb, ?_, fun q hq => ?_, ?_, by omega, _, rfl, ?_⟩⟩
    · rw [List.map_map]
      rfl
    · obtain ⟨i, _, rfl⟩ := List.mem_map.mp hq
      exact ((hx i).mul (hy i)).mono (by omega)
    · rw [List.length_map]
      have := List.length_filter_le (nzB x y) (List.range n)
      rw [List.length_range] at this
      exact Nat.le_trans (Nat.add_le_add_right (Nat.mul_le_mul_right _ this) 1) hl
    · rw [sums_dot]
      exact hG
end
end BW

namespace BW
open PySem PySem.Spec PyProof.Rows L2
theorem three_par {X : Cx} {ρ : Rho} {μ : Mu} {a b c : Expr} {x y z : Str} {i j l : Nat} {px py pz pt pos : Pos} {kt k2 pt2} {J : Jm} {rest : List Stmt} (hN : X.N.Nodup) (hi : X.N[i]? = some x) (hj : X.N[j]? = some y) (hl : X.N[l]? = some z) (hij : i ≠ j) (hil : i ≠ l) (hjl : j ≠ l)
    (h : Am X ρ μ [a, b, c] fun μ1 rs => ∃ r1 r2 r3, rs = [r1, r2, r3] ∧ Ds X (((ρ.set i (some r1)).set j (some r2)).set l (some r3)) μ1 rest J) (hli : Nat.blt i ρ.length = true := by rfl) (hlj : Nat.blt j ρ.length = true := by rfl) (hll : Nat.blt l ρ.length = true := by rfl) (hc : X.calm = true := by rfl)
    (hx : X.env.scope.names.lookup x = some .local := by rfl) (hy : X.env.scope.names.lookup y = some .local := by rfl) (hz : X.env.scope.names.lookup z = some .local := by rfl)
    (hw : swappedStores [.Tuple [.Name x px, .Name y py, .Name z pz] kt pt] (.Tuple [a, b, c] k2 pt2) X.env = pure (some [x, y, z]) := by rfl)
    (hs : swapsWithSole [.Tuple [.Name x px, .Name y py, .Name z pz] kt pt] (.Tuple [a, b, c] k2 pt2) pos.line X.env = pure false := by rfl) : Ds X ρ μ (.Assign [.Tuple [.Name x px, .Name y py, .Name z pz] kt pt] (.Tuple [a, b, c] k2 pt2) pos :: rest) J :=
  ds_cons_of (ps_par3 hc hN hi hj hl hij hil hjl hx hy hz (Wa.pa X [a, b, c]) hw hs) fun R F H as σ S D jk => by
    refine h R F H as σ S _ fun vs F1 H1 as1 μ1 rs S1 x1 o1 h1 => ?_
    obtain ⟨r1, r2, r3, rfl, h1⟩ := h1
    cases o1 with
    | cons o1 o2 =>
      cases o2 with
      | cons o2 o3 =>
        cases o3 with
        | cons o3 o4 =>
          cases o4
          refine ⟨_, _, _, rfl, ?_⟩
          exact h1 R F1 H1 as1 _ (((S1.store o1 (Nat.le_of_ble_eq_true hli)).store o2 (by rw [List.length_set]; exact Nat.le_of_ble_eq_true hlj)).store o3 (by rw [List.length_set, List.length_set]; exact Nat.le_of_ble_eq_true hll)) D (jk.ext x1)
/-! ### a member's own rows -/
def tbl (a b c d h : Rat) : List (List Rat) := [[a, 0, 0, -a, 0, 0], [0, b, c, 0, -b, c], [0, c, d, 0, -c, h], [-a, 0, 0, a, 0, 0], [0, -b, -c, 0, b, -c], [0, c, h, 0, -c, d]]
def plainS (k s L : Int) (i j : Nat) : Rat := ((tbl (Rat.divInt s L) (Rat.divInt (12 * k) (L * L * L)) (Rat.divInt (6 * k) (L * L)) (Rat.divInt (4 * k) L) (Rat.divInt (2 * k) L)).getD i []).getD j 0
def matD (S : Nat → Nat → Rat) (m n : Nat) : PyData := .list ((List.range m).map fun i => .list (eD (S i) n))
/-- small whole numbers -/
def sml (i : Int) : Prop := i.natAbs < 2 ^ 20
theorem sml.mul {a b : Nat} {i j : Int} (hi : i.natAbs < 2 ^ a) (hj : j.natAbs < 2 ^ b) : (i * j).natAbs < 2 ^ (a + b) := by
  rw [Int.natAbs_mul]
  exact pow2_mul hi hj
section
variable {P : Program} {w : World} {K : PySem.W.Frag} {mg : Str → Option Value} {base : Heap}
def tf_plain : Tf := fun ds G => ∃ f m M p q, ds = [frD f, .int (m : Nat)] ∧ AtM f m M p q ∧ far p q ≠ 0 ∧ sml M.k ∧ sml M.s ∧ sml (far p q) ∧ G (matD (plainS M.k M.s (far p q)) 6 6)
theorem can_plain (T : Txt K mg) (c_length : Can P w K mg base "length_of" 1 p_length_of (PureSp K tf_length)) (c_ratio : Can P w K mg base "ratio" 41 p_ratio (PureSp K tf_ratio)) (c_negative : Can P w K mg base "negative" 1 p_negative (PureSp K tf_negative)) : Can P w K mg base "plain_rows" 42 p_plain_rows (PureSp K tf_plain) := by
  refine can_pure 38 T sc_plain_rows (fun _ _ _ _ _ _ us hl => match us, hl with | [_, _], _ => rfl) (fun ds G h => by obtain ⟨f, m, M, p, q, rfl, _⟩ := h; rfl) fun fa cdv B outer s H E hr ds G h => ?_
  obtain ⟨f, m, M, p, q, rfl, hA, h0, hk, hs, hL, hG⟩ := h
  have hm : ∀ {k : Nat}, k ≤ 41 → Room k (B.deeper (envOfC "plain_rows" (defScope (top 61)) s.heap.objs.size fa cdv)) := fun h => hr.mono h
  refine three_par sc_plain_rows.nd (i := 2) (j := 3) (l := 4) rfl rfl rfl (by decide) (by decide) (by decide) (am_cons (ixT ?_))
  refine ixE (ixT (nm 0 ⟨_, _, rfl, rfl, nm 1 (im ⟨_, mD M, .inl rfl, atI_map hA.m, _, _, rfl, rfl, am_cons (ixT ?_)⟩)⟩))
  refine ixE (ixT (nm 0 ⟨_, _, rfl, rfl, nm 1 (im ⟨_, mD M, .inl rfl, atI_map hA.m, _, _, rfl, rfl, am_cons (dm_call c_length (hm (by decide)) rfl (ac (nm 0 (dmm (a1 (nm 1 (dmm ⟨f, m, M, p, q, rfl, hA, am_nil ⟨_, _, _, rfl, ?_⟩⟩)))))))⟩)⟩))
  refine ds_asg (dm_call c_ratio (hm (by decide)) rfl (ac (nm 3 (dmm (a1 (nm 4 (dmm ⟨_, _, rfl, h0, gm_name sc_plain_rows.nd (i := 5) rfl ?_⟩)))))))
  have e1 := sml.mul (a := 4) (i := 12) (by decide) hk
  have e2 := sml.mul (a := 3) (i := 6) (by decide) hk
  have hLL := sml.mul hL hL
  have n2 := Int.mul_ne_zero h0 h0
  have n3 := Int.mul_ne_zero n2 h0
  refine two_par sc_plain_rows.nd (i := 6) (j := 7) rfl rfl (by decide) (am_cons (dm_call c_ratio (hm (by decide)) rfl (ac (dm_bin op_mulB (dm_int (nm 2 (opd_I (CMulB.of (a := 4) (by decide) hk (by decide)) (dmm ?_))))))))
  refine a1 (dm_bin op_mulB (dm_bin op_mulB (nm 4 (nm 4 (opd_I (CMulB.of hL hL (by decide)) (nm 4 (opd_I (CMulB.of hLL hL (by decide)) (dmm ⟨_, _, rfl, n3, ?_⟩))))))))
  refine am_cons (dm_call c_ratio (hm (by decide)) rfl (ac (dm_bin op_mulB (dm_int (nm 2 (opd_I (CMulB.of (a := 3) (by decide) hk (by decide)) (dmm ?_)))))))
  refine a1 (dm_bin op_mulB (nm 4 (nm 4 (opd_I (CMulB.of hL hL (by decide)) (dmm ⟨_, _, rfl, n2, am_nil ⟨_, _, rfl, ?_⟩⟩)))))
  refine two_par sc_plain_rows.nd (i := 8) (j := 9) rfl rfl (by decide) (am_cons (dm_call c_ratio (hm (by decide)) rfl (ac (dm_bin op_mulB (dm_int (nm 2 (opd_I (CMulB.of (a := 3) (by decide) hk (by decide)) (dmm ?_))))))))
  refine a1 (nm 4 (dmm ⟨_, _, rfl, h0, ?_⟩))
  refine am_cons (dm_call c_ratio (hm (by decide)) rfl (ac (dm_bin op_mulB (dm_int (nm 2 (opd_I (CMulB.of (a := 2) (by decide) hk (by decide)) (dmm ?_)))))))
  refine a1 (nm 4 (dmm ⟨_, _, rfl, h0, am_nil ⟨_, _, rfl, ?_⟩⟩))
  refine ds_ret (dm_lst (ac (dm_lst (ac (nm 5 (dmm (ac (dmZERO T (dmm (ac (dmZERO T (dmm ?_))))))))))))
  refine ac (dm_call c_negative (hm (by decide)) rfl (a1 (nm 5 (dmm ⟨_, rfl, dmm (ac (dmZERO T (dmm (a1 (dmZERO T (dmm ⟨by simp, dmm ?_⟩))))))⟩))))
  refine ac (dm_lst (ac (dmZERO T (dmm (ac (nm 6 (dmm (ac (nm 7 (dmm (ac (dmZERO T (dmm ?_)))))))))))))
  refine ac (dm_call c_negative (hm (by decide)) rfl (a1 (nm 6 (dmm ⟨_, rfl, dmm (a1 (nm 7 (dmm ⟨by simp, dmm ?_⟩)))⟩))))
  refine ac (dm_lst (ac (dmZERO T (dmm (ac (nm 7 (dmm (ac (nm 8 (dmm (ac (dmZERO T (dmm ?_)))))))))))))
  refine ac (dm_call c_negative (hm (by decide)) rfl (a1 (nm 7 (dmm ⟨_, rfl, dmm (a1 (nm 9 (dmm ⟨by simp, dmm ?_⟩)))⟩))))
  refine ac (dm_lst (ac (dm_call c_negative (hm (by decide)) rfl (a1 (nm 5 (dmm ⟨_, rfl, dmm ?_⟩))))))
  refine ac (dmZERO T (dmm (ac (dmZERO T (dmm (ac (nm 5 (dmm (ac (dmZERO T (dmm (a1 (dmZERO T (dmm ⟨by simp, dmm ?_⟩))))))))))))))
  refine ac (dm_lst (ac (dmZERO T (dmm (ac (dm_call c_negative (hm (by decide)) rfl (a1 (nm 6 (dmm ⟨_, rfl, dmm ?_⟩)))))))))
  refine ac (dm_call c_negative (hm (by decide)) rfl (a1 (nm 7 (dmm ⟨_, rfl, dmm (ac (dmZERO T (dmm (ac (nm 6 (dmm ?_))))))⟩))))
  refine a1 (dm_call c_negative (hm (by decide)) rfl (a1 (nm 7 (dmm ⟨_, rfl, dmm ⟨by simp, dmm ?_⟩⟩))))
  refine a1 (dm_lst (ac (dmZERO T (dmm (ac (nm 7 (dmm (ac (nm 9 (dmm (ac (dmZERO T (dmm ?_)))))))))))))
  refine ac (dm_call c_negative (hm (by decide)) rfl (a1 (nm 7 (dmm ⟨_, rfl, dmm (a1 (nm 8 (dmm ⟨by simp, dmm ⟨by simp, _, rfl, ?_⟩⟩)))⟩))))
  exact hG
end
end BW

namespace BW
open PySem PySem.Spec PyProof.Rows L2
section
variable {P : Program} {w : World} {K : PySem.W.Frag} {mg : Str → Option Value} {base : Heap}
/-! ### fixed ends -/
def pushV (push L : Int) : Nat → Rat := fun i => ([0, Rat.divInt (-push * L) 2, Rat.divInt (-push * L * L) 12, 0, Rat.divInt (-push * L) 2, -Rat.divInt (-push * L * L) 12] : List Rat).getD i 0
def tf_pushed : Tf := fun ds G => ∃ f m M p q push, ds = [frD f, .int (m : Nat), .int push] ∧ AtM f m M p q ∧ sml (far p q) ∧ sml push ∧ G (.list (eD (pushV push (far p q)) 6))
theorem can_pushed (T : Txt K mg) (c_length : Can P w K mg base "length_of" 1 p_length_of (PureSp K tf_length)) (c_ratio : Can P w K mg base "ratio" 41 p_ratio (PureSp K tf_ratio)) (c_negative : Can P w K mg base "negative" 1 p_negative (PureSp K tf_negative)) : Can P w K mg base "pushed" 42 p_pushed (PureSp K tf_pushed) := by
  refine can_pure 39 T sc_pushed (fun _ _ _ _ _ _ us hl => match us, hl with | [_, _, _], _ => rfl) (fun ds G h => by obtain ⟨f, m, M, p, q, push, rfl, _⟩ := h; rfl) fun fa cdv B outer s H E hr ds G h => ?_
  obtain ⟨f, m, M, p, q, push, rfl, hA, hL, hp, hG⟩ := h
  have hp' : (-push).natAbs < 2 ^ 20 := by rw [Int.natAbs_neg]; exact hp
  have hm : ∀ {k : Nat}, k ≤ 41 → Room k (B.deeper (envOfC "pushed" (defScope (top 62)) s.heap.objs.size fa cdv)) := fun h => hr.mono h
  refine ds_asg (dm_call c_length (hm (by decide)) rfl (ac (nm 0 (dmm (a1 (nm 1 (dmm ⟨f, m, M, p, q, rfl, hA, gm_name sc_pushed.nd (i := 3) rfl ?_⟩)))))))
  refine two_par sc_pushed.nd (i := 4) (j := 5) rfl rfl (by decide) (am_cons (dm_call c_ratio (hm (by decide)) rfl (ac (dm_bin op_mulB (dm_neg (nm 2 (im (nm 3 (opd_I (CMulB.of hp' hL (by decide)) (dmm ?_))))))))))
  refine a1 (dm_int (dmm ⟨_, _, rfl, by decide, am_cons (dm_call c_ratio (hm (by decide)) rfl (ac (dm_bin op_mulB (dm_bin op_mulB (dm_neg (nm 2 (im (nm 3 (opd_I (CMulB.of hp' hL (by decide)) (nm 3 (opd_I (CMulB.of (sml.mul hp' hL) hL (by decide)) (dmm ?_))))))))))))⟩))
  refine a1 (dm_int (dmm ⟨_, _, rfl, by decide, am_nil ⟨_, _, rfl, ?_⟩⟩))
  refine ds_ret (dm_lst (ac (dmZERO T (dmm (ac (nm 4 (dmm (ac (nm 5 (dmm (ac (dmZERO T (dmm (ac (nm 4 (dmm ?_))))))))))))))))
  exact a1 (dm_call c_negative (hm (by decide)) rfl (a1 (nm 5 (dmm ⟨_, rfl, dmm ⟨by simp, _, rfl, hG⟩⟩))))
def strainV (k s L : Int) (a b : Rat) : Nat → Rat := fun i => ([(s : Rat) * a / (L : Rat), 0, (k : Rat) * b, -((s : Rat) * a / (L : Rat)), 0, -((k : Rat) * b)] : List Rat).getD i 0
def tf_strained : Tf := fun ds G => ∃ f m M p q a b, ds = [frD f, .int (m : Nat), .tuple [rt a, rt b]] ∧ AtM f m M p q ∧ far p q ≠ 0 ∧ sml (far p q) ∧ sml M.k ∧ sml M.s ∧ Bd 1000 a ∧ Bd 1000 b ∧ G (.list (eD (strainV M.k M.s (far p q) a b) 6))
theorem sml.bd {i : Int} (h : sml i) : Bd 20 (i : Rat) := Bd.int h (by decide)
theorem can_strained (T : Txt K mg) (c_length : Can P w K mg base "length_of" 1 p_length_of (PureSp K tf_length)) (c_whole : Can P w K mg base "whole" 1 p_whole (PureSp K tf_whole)) (c_times : Can P w K mg base "times" 42 p_times (PureSp K tf_times)) (c_over : Can P w K mg base "over" 42 p_over (PureSp K tf_over))
    (c_negative : Can P w K mg base "negative" 1 p_negative (PureSp K tf_negative)) : Can P w K mg base "strained" 43 p_strained (PureSp K tf_strained) := by
  refine can_pure 58 T sc_strained (fun _ _ _ _ _ _ us hl => match us, hl with | [_, _, _], _ => rfl) (fun ds G h => by obtain ⟨f, m, M, p, q, a, b, rfl, _⟩ := h; rfl) fun fa cdv B outer s H E hr ds G h => ?_
  obtain ⟨f, m, M, p, q, a, b, rfl, hA, h0, hL, hk, hs, ha, hb, hG⟩ := h
  have h0' : (far p q : Rat) ≠ 0 := fun z => h0 (by simpa using z)
  have hm : ∀ {k : Nat}, k ≤ 42 → Room k (B.deeper (envOfC "strained" (defScope (top 83)) s.heap.objs.size fa cdv)) := fun h => hr.mono h
  refine three_par sc_strained.nd (i := 3) (j := 4) (l := 5) rfl rfl rfl (by decide) (by decide) (by decide) (am_cons (ixT ?_))
  refine ixE (ixT (nm 0 ⟨_, _, rfl, rfl, nm 1 (im ⟨_, mD M, .inl rfl, atI_map hA.m, _, _, rfl, rfl, am_cons (ixT ?_)⟩)⟩))
  refine ixE (ixT (nm 0 ⟨_, _, rfl, rfl, nm 1 (im ⟨_, mD M, .inl rfl, atI_map hA.m, _, _, rfl, rfl, am_cons (dm_call c_length (hm (by decide)) rfl (ac (nm 0 (dmm (a1 (nm 1 (dmm ⟨f, m, M, p, q, rfl, hA, am_nil ⟨_, _, _, rfl, ?_⟩⟩)))))))⟩)⟩))
  refine ds_asg (dm_call c_over (hm (by decide)) rfl (ac (dm_call c_times (hm (by decide)) rfl (ac (dm_call c_whole (hm (by decide)) rfl (a1 (nm 4 (dmm ⟨_, rfl, dmm ?_⟩))))))))
  refine a1 (ixT (nm 2 ⟨_, _, rfl, rfl, dmm ⟨_, _, rfl, hs.bd.sm (by decide), ha.sm (by decide), dmm ?_⟩⟩))
  refine a1 (dm_call c_whole (hm (by decide)) rfl (a1 (nm 5 (dmm ⟨_, rfl, dmm ⟨_, _, rfl, (hs.bd.mul ha).sm (by decide), hL.bd.sm (by decide), h0', gm_name sc_strained.nd (i := 6) rfl ?_⟩⟩))))
  refine ds_asg (dm_call c_times (hm (by decide)) rfl (ac (dm_call c_whole (hm (by decide)) rfl (a1 (nm 3 (dmm ⟨_, rfl, dmm ?_⟩))))))
  refine a1 (ixT (nm 2 ⟨_, _, rfl, rfl, dmm ⟨_, _, rfl, hk.bd.sm (by decide), hb.sm (by decide), gm_name sc_strained.nd (i := 7) rfl ?_⟩⟩))
  refine ds_ret (dm_lst (ac (nm 6 (dmm (ac (dmZERO T (dmm (ac (nm 7 (dmm ?_))))))))))
  refine ac (dm_call c_negative (hm (by decide)) rfl (a1 (nm 6 (dmm ⟨_, rfl, dmm (ac (dmZERO T (dmm ?_)))⟩))))
  exact a1 (dm_call c_negative (hm (by decide)) rfl (a1 (nm 7 (dmm ⟨_, rfl, dmm ⟨by simp, _, rfl, hG⟩⟩))))
/-! ### rows made lower -/
def tf_lowered : Tf := fun ds G => ∃ (x y : Nat → Rat) (a : Rat) (n b : Nat), ds = [.list (eD x n), .list (eD y n), rt a] ∧ (∀ i, Bd b (x i)) ∧ (∀ i, Bd b (y i)) ∧ Bd b a ∧ n ≤ 1000 ∧ b ≤ 4000000 ∧ G (.list (eD (fun i => x i - a * y i) n))
theorem sub_zero' (x : Rat) : x - 0 = x := by rw [Rat.sub_eq_add_neg, Rat.neg_zero, Rat.add_zero]
theorem can_lowered (T : Txt K mg) (c_times : Can P w K mg base "times" 42 p_times (PureSp K tf_times)) (c_minus : Can P w K mg base "minus" 43 p_minus (PureSp K tf_minus)) : Can P w K mg base "lowered" 44 p_lowered (PureSp K tf_lowered) := by
  refine can_pure 15 T sc_lowered (fun _ _ _ _ _ _ us hl => match us, hl with | [_, _, _], _ => rfl) (fun ds G h => by obtain ⟨x, y, a, n, b, rfl, _⟩ := h; rfl) fun fa cdv B outer s H E hr ds G h => ?_
  obtain ⟨x, y, a, n, bb, rfl, hx, hy, ha, hn, hb, hG⟩ := h
  refine ds_ret (dm_lc (own := [("part", 3), ("more", 4)]) sc_lowered.nd (blkOk_by (by kernel_rfl)) (im_zip rfl T.b_zip (nm 0 (lm (nm 1 (lm ?_))))))
  rw [zip_eD]
  refine lc_mapL (List.range n) _ (fun i => rt (x i - a * y i)) (by rw [List.length_range]; omega) (fun i hi b => ?_) ⟨_, rfl, _, rfl, hG⟩
  refine gj_tup (gjs_cons (gj_name (i := 3) sc_lowered.nd rfl (gjs_cons (gj_name (i := 4) sc_lowered.nd rfl (gjs_nil ?_)))))
  intro b
  refine dm_if (tm_cmp op_ne (nomark _) (ixT (nm 4 ⟨_, _, rfl, rfl, dm_int (opd_neI (bm ⟨fun h1 => ?_, fun h1 => ?_⟩))⟩)))
  · refine dm_call (X := Bk _ _ b) c_minus (hr.mono (by decide)) rfl (ac (nm 3 (dmm ?_)))
    exact a1 (dm_call (X := Bk _ _ b) c_times (hr.mono (by decide)) rfl (ac (nm 2 (dmm (a1 (nm 4 (dmm ⟨_, _, rfl, ha.sm (by omega), (hy i).sm (by omega), dmm ⟨_, _, rfl, (hx i).sm (by omega), (ha.mul (hy i)).sm (by omega), rfl, rfl⟩⟩)))))))
  · have e : y i = 0 := Rat.num_eq_zero.mp (by simpa using h1)
    refine nm 3 ⟨rfl, ?_⟩
    rw [e, Rat.mul_zero, sub_zero']
end
end BW

namespace BW
open PySem PySem.Spec PyProof.Rows L2
section
variable {X : Cx} {ρ : Rho} {μ : Mu} {a b c e tg : Expr} {es : List Expr} {x : Str} {p pos : Pos} {J : Jm} {rest : List Stmt}
/-- targets, one behind the other, for values of any kind -/
def Gjr (X : Cx) (ρ : Rho) (μ : Mu) (ts : List Expr) (js : List Nat) (rs : List Rv) (N : Rho → Mu → Prop) : Prop := ∀ R F H as σ vs, Sta X.K R F H as σ ρ μ → Paired (ROk X.K F as) vs rs → ∀ Q : L2.St → Hp → Prop,
  (∀ σ' F' H' as' ρ' μ', Sta X.K R F' H' as' σ' ρ' μ' → Ext F as F' as' → Agr js σ σ' → N ρ' μ' → Q σ' H') → ∀ (pins : List (Addr × Obj)) (s : Shared) (us : List Value), Inv X pins σ H s → Vals vs us →
    wpAny (model X.prog X.w) X.A (assignInOrder ((assignEach ts X.env).map (·.2)) us) (fun _ s' => ∃ σ' H', Inv X pins σ' H' s' ∧ Q σ' H') X.xe s
theorem gjr_nil {js : List Nat} {N : Rho → Mu → Prop} (h : N ρ μ) : Gjr X ρ μ [] js [] N := fun R F H as σ vs S r Q q pins s us I rv => by
  cases r
  exact pgs_nil.run pins s σ H [] us Q I rv ⟨rfl, q σ F H as ρ μ S (Ext.refl F as) (Agr.refl js σ) h⟩
theorem gjr_cons {t : Expr} {ts : List Expr} {js : List Nat} {r : Rv} {rs : List Rv} {N : Rho → Mu → Prop} (h : Gj X ρ μ t js r fun ρ1 μ1 => Gjr X ρ1 μ1 ts js rs N)
    (hs : (assignEach (t :: ts) X.env).map (·.2) = assign t X.env :: (assignEach ts X.env).map (·.2) := by rfl) : Gjr X ρ μ (t :: ts) js (r :: rs) N := fun R F H as σ vs S r Q q pins s us I rv => by
  cases r with
  | cons r1 r2 =>
    cases rv with
    | cons u1 u2 =>
      rw [hs]
      refine assignInOrder_cons (thn ((Wg.pg X t).run pins s σ H _ _ (fun σ1 H1 => ∃ F1 as1 ρ1 μ1, Sta X.K R F1 H1 as1 σ1 ρ1 μ1 ∧ Ext F as F1 as1 ∧ Agr js σ σ1 ∧ Gjr X ρ1 μ1 ts js rs N) I u1 ?_) fun _ s1 ⟨σ1, H1, I1, F1, as1, ρ1, μ1, S1, x1, a1, h1⟩ => ?_)
      · exact h R F H as σ _ S r1 _ fun σ' F' H' as' ρ' μ' S' x' a' n' => ⟨F', as', ρ', μ', S', x', a', n'⟩
      · exact h1 R F1 H1 as1 σ1 _ S1 (Paired.mapP r2 fun _ _ z => z.ext x1) Q (fun σ' F' H' as' ρ' μ' S' x' a' n' => q σ' F' H' as' ρ' μ' S' (x1.trans x') (a1.trans a') n') pins s1 _ I1 u2
/-- (t1, t2, ..) = (e1, e2, ..), any values -/
theorem ds_tupA {ts : List Expr} {k k2 n : Nat} {pt p2 : Pos} {js : List Nat} (h : Am X ρ μ es fun μ1 rs => rs.length = n ∧ n ≤ 1000 ∧ Gjr X ρ μ1 ts js rs fun ρ2 μ2 => Ds X ρ2 μ2 rest J) (hc : X.calm = true := by rfl) (hn : (assignEach ts X.env).length = n := by rfl)
    (hst : (assignEach ts X.env).findIdx? (·.1) = none := by rfl) (hs : swapsWithSole [.Tuple ts k pt] (.Tuple es k2 p2) pos.line X.env = pure false := by rfl) (hw : swappedStores [.Tuple ts k pt] (.Tuple es k2 p2) X.env = pure none := by rfl)
    (h1 : (assignEach [.Tuple ts k pt] X.env).map (·.2) = [assign (.Tuple ts k pt) X.env] := by rfl) : Ds X ρ μ (.Assign [.Tuple ts k pt] (.Tuple es k2 p2) pos :: rest) J :=
  ds_cons_of (ps_asg (We.pe X _) (Wg.pg X _) hs hw h1) fun R F H as σ S D j => by
    refine We.of (pe_tup (Wa.pa X es)) ?_
    refine h R F H as σ S _ fun vs F1 H1 as1 μ1 rs S1 x1 o1 ⟨hl, hn2, h2⟩ => ?_
    have hl2 : vs.length = n := (paired_len o1).trans hl
    refine ⟨Nat.le_of_lt (small1000 (by omega)), fun q hq => ?_⟩
    have hg : PGs X ts (fun vs σ1 H1 Q1 => ∀ (pins : List (Addr × Obj)) (s : Shared) (us : List Value), Inv X pins σ1 H1 s → Vals vs us → wpAny (model X.prog X.w) X.A (assignInOrder ((assignEach ts X.env).map (·.2)) us) (fun _ s' => ∃ σ' H', Inv X pins σ' H' s' ∧ Q1 σ' H') X.xe s) :=
      ⟨fun pins s σ H vs us Q I r h => h pins s us I r⟩
    refine Wg.of (pg_tup hc hg hn hst) ⟨q, vs, rfl, .inl (.inl upd_same), hl2, ?_⟩
    exact h2 R F1 _ as1 σ vs (S1.lost hq _) o1 _ fun σ' F' H' as' ρ' μ' S' x' _ n' => n' R F' H' as' σ' S' D (j.ext (x1.trans x'))
end
end BW

namespace BW
open PySem PySem.Spec PyProof.Rows L2
theorem zip_maps (f g : Nat → PyData) (n : Nat) : zipD ((List.range n).map f) ((List.range n).map g) = (List.range n).map fun i => .tuple [f i, g i] := by
  unfold zipD
  rw [List.zip_map', List.map_map]
  rfl
theorem eD_get {x : Nat → Rat} {n i : Nat} (h : i < n) : atI (eD x n) (i : Int) = some (rt (x i)) := atI_map (List.getElem?_range h)
theorem row_get {S : Nat → Nat → Rat} {m n i : Nat} (h : i < m) : atI ((List.range m).map fun i => PyData.list (eD (S i) n)) (i : Int) = some (.list (eD (S i) n)) := atI_map (g := fun i => PyData.list (eD (S i) n)) (List.getElem?_range h)
def relS (S : Nat → Nat → Rat) (t i j : Nat) : Rat := S i j - S i t / S t t * S t j
def relF (S : Nat → Nat → Rat) (F : Nat → Rat) (t i : Nat) : Rat := F i - S i t / S t t * F t
section
variable {P : Program} {w : World} {K : PySem.W.Frag} {mg : Str → Option Value} {base : Heap}
def tf_released : Tf := fun ds G => ∃ (S : Nat → Nat → Rat) (F : Nat → Rat) (t b : Nat), ds = [matD S 6 6, .list (eD F 6), .int (t : Nat)] ∧ t < 6 ∧ S t t ≠ 0 ∧ (∀ i j, Bd b (S i j)) ∧ (∀ i, Bd b (F i)) ∧ b ≤ 1000000 ∧ G (.tuple [matD (relS S t) 6 6, .list (eD (relF S F t) 6)])
theorem can_released (T : Txt K mg) (c_times : Can P w K mg base "times" 42 p_times (PureSp K tf_times)) (c_over : Can P w K mg base "over" 42 p_over (PureSp K tf_over)) (c_minus : Can P w K mg base "minus" 43 p_minus (PureSp K tf_minus)) : Can P w K mg base "released" 44 p_released (PureSp K tf_released) := by
  refine can_pure 40 T sc_released (fun _ _ _ _ _ _ us hl => match us, hl with | [_, _, _], _ => rfl) (fun ds G h => by obtain ⟨S, F, t, b, rfl, _⟩ := h; rfl) fun fa cdv B outer s H E hr ds G h => ?_
  obtain ⟨S, F, t, bb, rfl, ht, h0, hS, hF, hb, hG⟩ := h
  refine ds_tupA (js := [3, 4]) (n := 2) (am_cons (ixE (ixE (nm 0 (nm 2 (im ⟨_, _, .inr rfl, row_get ht, nm 2 (im ⟨_, _, .inr rfl, eD_get ht, am_cons (dm_lstO (am_nil ⟨by simp, am_nil ⟨rfl, by decide, gjr_cons (gj_name (i := 3) sc_released.nd rfl (gjr_cons (gj_name (i := 4) sc_released.nd rfl (gjr_nil ?_))))⟩⟩))⟩)⟩))))))
  refine ds_for PassesOwn.never (im_enum rfl T.b_enumerate (nm 0 (lm ⟨fun i ρ μ => (∃ o1 o2 o3 o4 o5 o6 o7, ρ = [some (.dat (matD S 6 6)), some (.dat (.list (eD F 6))), some (.dat (.int (t : Nat))), some (.dat (rt (S t t))), some (.own 0), o1, o2, o3, o4, o5, o6, o7]) ∧ μ = [.L ((List.range i).map fun r => Rv.dat (.list (eD (relS S t r) 6)))], ⟨⟨_, _, _, _, _, _, _, rfl⟩, rfl⟩, ?_, ?_⟩)))
  · rintro i d ρ μ hd ⟨⟨o1, o2, o3, o4, o5, o6, o7, rfl⟩, rfl⟩
    have hi : i < 6 := by
      have := (List.getElem?_eq_some_iff.mp hd).1
      rw [enumD_len] at this
      simpa using this
    rw [enumD_get (d := .list (eD (S i) 6)) (by rw [List.getElem?_map, List.getElem?_range hi]; rfl)] at hd
    obtain rfl := Option.some.inj hd
    refine gm_of_j (js := [5, 6]) (gj_tup (gjs_cons (gj_name (i := 5) sc_released.nd rfl (gjs_cons (gj_name (i := 6) sc_released.nd rfl (gjs_nil ?_))))))
    refine ds_asg (dm_call c_over (hr.mono (by decide)) rfl (ac (ixE (nm 6 (nm 2 (im ⟨_, _, .inr rfl, eD_get ht, dmm (a1 (nm 3 (dmm ⟨_, _, rfl, (hS i t).sm (by omega), (hS t t).sm (by omega), h0, gm_name sc_released.nd (i := 7) rfl ?_⟩)))⟩))))))
    refine ds_expr (dm_append (nm 4 ⟨0, _, rfl, rfl, dm_lc (own := [("part", 9), ("more", 10)]) sc_released.nd (blkOk_by (by kernel_rfl)) (im_zip rfl T.b_zip (nm 6 (lm (ixE (nm 0 (nm 2 (im ⟨_, _, .inr rfl, row_get ht, lm ?_⟩)))))))⟩))
    rw [zip_eD]
    refine lc_mapL (List.range 6) _ (fun j => rt (relS S t i j)) (by decide) (fun j hj b => ?_) ⟨_, rfl, _, rfl, by simp; omega, ?_⟩
    · refine gj_tup (gjs_cons (gj_name (i := 9) sc_released.nd rfl (gjs_cons (gj_name (i := 10) sc_released.nd rfl (gjs_nil ?_)))))
      intro b
      refine dm_call (X := Bk _ _ b) c_minus (hr.mono (by decide)) rfl (ac (nm 9 (dmm ?_)))
      exact a1 (dm_call (X := Bk _ _ b) c_times (hr.mono (by decide)) rfl (ac (nm 7 (dmm (a1 (nm 10 (dmm ⟨_, _, rfl, ((hS i t).dvd h0 (hS t t)).sm (by omega), (hS t j).sm (by omega), dmm ⟨_, _, rfl, (hS i j).sm (by omega), (((hS i t).dvd h0 (hS t t)).mul (hS t j)).sm (by omega), rfl, rfl⟩⟩)))))))
    · refine ds_nil ⟨⟨_, _, _, _, _, _, _, rfl⟩, ?_⟩
      rw [List.range_succ (n := i), List.map_append (l₁ := List.range i)]
      rfl
  · rintro ρ μ ⟨⟨o1, o2, o3, o4, o5, o6, o7, rfl⟩, rfl⟩
    refine ds_frzL (n := 0) ((List.range 6).map fun r => .list (eD (relS S t r) 6)) rfl rfl ?_
    refine ds_setLc (own := [("force", 11), ("row", 6)]) sc_released.nd (blkOk_by (by kernel_rfl)) (i := 8) rfl (im_zip rfl T.b_zip (nm 1 (lm (nm 0 (lm ?_)))))
    rw [show zipD (eD F 6) ((List.range 6).map fun i => PyData.list (eD (S i) 6)) = _ from zip_maps _ _ 6]
    refine lc_mapL (List.range 6) _ (fun i => rt (relF S F t i)) (by decide) (fun i hj b => ?_) (.inl ⟨_, rfl, ?_⟩)
    · have hi : i < 6 := List.mem_range.mp hj
      refine gj_tup (gjs_cons (gj_name (i := 11) sc_released.nd rfl (gjs_cons (gj_name (i := 6) sc_released.nd rfl (gjs_nil ?_)))))
      intro b
      refine dm_call (X := Bk _ _ b) c_minus (hr.mono (by decide)) rfl (ac (nm 11 (dmm ?_)))
      refine a1 (dm_call (X := Bk _ _ b) c_times (hr.mono (by decide)) rfl (ac (dm_call (X := Bk _ _ b) c_over (hr.mono (by decide)) rfl (ac (ixE (nm 6 (nm 2 (im ⟨_, _, .inr rfl, eD_get ht, dmm (a1 (nm 3 (dmm ⟨_, _, rfl, (hS i t).sm (by omega), (hS t t).sm (by omega), h0, dmm ?_⟩)))⟩))))))))
      exact a1 (ixE (nm 1 (nm 2 (im ⟨_, _, .inr rfl, eD_get ht, dmm ⟨_, _, rfl, ((hS i t).dvd h0 (hS t t)).sm (by omega), (hF t).sm (by omega), dmm ⟨_, _, rfl, (hF i).sm (by omega), (((hS i t).dvd h0 (hS t t)).mul (hF t)).sm (by omega), rfl, rfl⟩⟩⟩))))
    · exact ds_ret (dm_tup (ac (nz 4 (dmm (a1 (nm 8 (dmm ⟨by simp, _, rfl, hG⟩)))))))
end
end BW

namespace BW
open PySem PySem.Spec PyProof.Rows L2
/-! ### hinges -/
abbrev Hg := Option (Nat × Nat)
def hgL : Hg → List PyData
  | none => []
  | some h => [.tuple [.int h.1, .int h.2]]
def atHg (h : Hg) (m e : Nat) : Bool := match h with
  | none => false
  | some x => decide (x.1 = m) && decide (x.2 = e)
theorem hg_shp (h : Hg) : shp (.tuple (hgL h)) = true := by
  cases h <;> rfl
theorem hg_any (h : Hg) (m e : Nat) : ((hgL h).any fun z => PyData.eqv z (.tuple [.int (m : Nat), .int (e : Nat)])) = atHg h m e := by
  cases h with
  | none => rfl
  | some x =>
    have e1 : ∀ a b : Nat, decide ((a : Int) = (b : Int)) = decide (a = b) := fun a b => decide_eq_decide.mpr (by omega)
    simp [hgL, atHg, PyData.eqv, PyData.eqvAll, Bool.beq_eq_decide_eq]
    rw [e1, e1]
def memS (h : Hg) (m : Nat) (S : Nat → Nat → Rat) : Nat → Nat → Rat := if atHg h m 0 then relS S 2 else if atHg h m 1 then relS S 5 else S
def memF (h : Hg) (m : Nat) (S : Nat → Nat → Rat) (F : Nat → Rat) : Nat → Rat := if atHg h m 0 then relF S F 2 else if atHg h m 1 then relF S F 5 else F
theorem hg_one {h : Hg} {m : Nat} (h0 : atHg h m 0 = true) : atHg h m 1 = false := by
  cases h with
  | none => cases h0
  | some x =>
    simp [atHg] at h0 ⊢
    omega
/-- behind i ends -/
def stS (h : Hg) (m : Nat) (S : Nat → Nat → Rat) (i : Nat) : Nat → Nat → Rat := if 0 < i ∧ atHg h m 0 = true then relS S 2 else if 1 < i ∧ atHg h m 1 = true then relS S 5 else S
def stF (h : Hg) (m : Nat) (S : Nat → Nat → Rat) (F : Nat → Rat) (i : Nat) : Nat → Rat := if 0 < i ∧ atHg h m 0 = true then relF S F 2 else if 1 < i ∧ atHg h m 1 = true then relF S F 5 else F
theorem st_zero (h : Hg) (m : Nat) (S : Nat → Nat → Rat) (F : Nat → Rat) : stS h m S 0 = S ∧ stF h m S F 0 = F := by simp [stS, stF]
theorem st_two (h : Hg) (m : Nat) (S : Nat → Nat → Rat) (F : Nat → Rat) : stS h m S 2 = memS h m S ∧ stF h m S F 2 = memF h m S F := by simp [stS, stF, memS, memF]
theorem st_yes {h : Hg} {m i : Nat} (S : Nat → Nat → Rat) (F : Nat → Rat) (hi : i < 2) (hk : atHg h m i = true) : stS h m S i = S ∧ stF h m S F i = F ∧ stS h m S (i + 1) = relS S (3 * i + 2) ∧ stF h m S F (i + 1) = relF S F (3 * i + 2) := by
  match i, hi, hk with
  | 0, _, hk => simp [stS, stF, hk]
  | 1, _, hk =>
    have : atHg h m 0 = false := by
      cases q : atHg h m 0 with
      | false => rfl
      | true =>
        rw [hg_one q] at hk
        cases hk
    simp [stS, stF, hk, this]
theorem st_no {h : Hg} {m i : Nat} (S : Nat → Nat → Rat) (F : Nat → Rat) (hi : i < 2) (hk : atHg h m i = false) : stS h m S (i + 1) = stS h m S i ∧ stF h m S F (i + 1) = stF h m S F i := by
  match i, hi, hk with
  | 0, _, hk => simp [stS, stF, hk]
  | 1, _, hk => simp [stS, stF, hk]
theorem getD_bd {b : Nat} {l : List Rat} (h : ∀ x ∈ l, Bd b x) (hb : 1 ≤ b) (j : Nat) : Bd b (l.getD j 0) := by
  rw [List.getD_eq_getElem?_getD]
  cases e : l[j]? with
  | none => exact Bd.zero.mono hb
  | some x => exact h x (List.mem_of_getElem? e)
theorem plainS_bd {k s L : Int} (hk : sml k) (hs : sml s) (hL : sml L) (h0 : L ≠ 0) (i j : Nat) : Bd 70 (plainS k s L i j) := by
  have e1 := sml.mul (a := 4) (i := 12) (by decide) hk
  have e2 := sml.mul (a := 3) (i := 6) (by decide) hk
  have e3 := sml.mul (a := 3) (i := 4) (by decide) hk
  have e4 := sml.mul (a := 2) (i := 2) (by decide) hk
  have hLL := sml.mul hL hL
  have hLLL := sml.mul hLL hL
  have n2 := Int.mul_ne_zero h0 h0
  have n3 := Int.mul_ne_zero n2 h0
  have up : ∀ {a : Nat} {x : Int}, x.natAbs < 2 ^ a → a ≤ 70 → x.natAbs < 2 ^ 70 := fun h l => Nat.lt_of_lt_of_le h (Nat.pow_le_pow_right (by decide) l)
  have b1 : Bd 70 (Rat.divInt s L) := Bd.div h0 (up hs (by decide)) (up hL (by decide))
  have b2 : Bd 70 (Rat.divInt (12 * k) (L * L * L)) := Bd.div n3 (up e1 (by decide)) (up hLLL (by decide))
  have b3 : Bd 70 (Rat.divInt (6 * k) (L * L)) := Bd.div n2 (up e2 (by decide)) (up hLL (by decide))
  have b4 : Bd 70 (Rat.divInt (4 * k) L) := Bd.div h0 (up e3 (by decide)) (up hL (by decide))
  have b5 : Bd 70 (Rat.divInt (2 * k) L) := Bd.div h0 (up e4 (by decide)) (up hL (by decide))
  have b0 : Bd 70 0 := Bd.zero.mono (by decide)
  unfold plainS
  refine getD_bd (fun x hx => ?_) (by decide) j
  rw [List.getD_eq_getElem?_getD] at hx
  cases e : (tbl (Rat.divInt s L) (Rat.divInt (12 * k) (L * L * L)) (Rat.divInt (6 * k) (L * L)) (Rat.divInt (4 * k) L) (Rat.divInt (2 * k) L))[i]? with
  | none =>
    rw [e] at hx
    cases hx
  | some row =>
    rw [e] at hx
    have hr := List.mem_of_getElem? e
    generalize Rat.divInt s L = r1 at *
    generalize Rat.divInt (12 * k) (L * L * L) = r2 at *
    generalize Rat.divInt (6 * k) (L * L) = r3 at *
    generalize Rat.divInt (4 * k) L = r4 at *
    generalize Rat.divInt (2 * k) L = r5 at *
    have hx' : x ∈ row := hx
    simp only [tbl, List.mem_cons, List.not_mem_nil, or_false] at hr
    rcases hr with rfl | rfl | rfl | rfl | rfl | rfl <;> simp only [List.mem_cons, List.not_mem_nil, or_false] at hx' <;> rcases hx' with rfl | rfl | rfl | rfl | rfl | rfl <;> first | assumption | exact b1.neg | exact b2.neg | exact b3.neg
section
variable {P : Program} {w : World} {K : PySem.W.Frag} {mg : Str → Option Value} {base : Heap}
def tf_member : Tf := fun ds G => ∃ f h m M p q F b, ds = [frD f, .tuple (hgL h), .int (m : Nat), .list (eD F 6)] ∧ AtM f m M p q ∧ far p q ≠ 0 ∧ sml M.k ∧ sml M.s ∧ sml (far p q) ∧ plainS M.k M.s (far p q) 2 2 ≠ 0 ∧ plainS M.k M.s (far p q) 5 5 ≠ 0 ∧ (∀ i, Bd b (F i)) ∧ 70 ≤ b ∧ b ≤ 1000000 ∧
  G (.tuple [matD (memS h m (plainS M.k M.s (far p q))) 6 6, .list (eD (memF h m (plainS M.k M.s (far p q)) F) 6)])
theorem can_member (T : Txt K mg) (c_plain : Can P w K mg base "plain_rows" 42 p_plain_rows (PureSp K tf_plain)) (c_released : Can P w K mg base "released" 44 p_released (PureSp K tf_released)) : Can P w K mg base "member_rows" 45 p_member_rows (PureSp K tf_member) := by
  refine can_pure 41 T sc_member_rows (fun _ _ _ _ _ _ us hl => match us, hl with | [_, _, _, _], _ => rfl) (fun ds G h => by obtain ⟨f, h, m, M, p, q, F, b, rfl, _⟩ := h; rfl) fun fa cdv B outer s H E hr ds G h => ?_
  obtain ⟨f, h, m, M, p, q, F, bb, rfl, hA, h0, hk, hs, hL, n2, n5, hF, hb1, hb, hG⟩ := h
  have hS : ∀ i j, Bd bb (plainS M.k M.s (far p q) i j) := fun i j => (plainS_bd hk hs hL h0 i j).mono hb1
  refine ds_asg (dm_call c_plain (hr.mono (by decide)) rfl (ac (nm 0 (dmm (a1 (nm 2 (dmm ⟨f, m, M, p, q, rfl, hA, h0, hk, hs, hL, gm_name sc_member_rows.nd (i := 4) rfl ?_⟩)))))))
  generalize plainS M.k M.s (far p q) = S at hS n2 n5 hG ⊢
  -- what stands behind the i-th end
  refine ds_for PassesOwn.never (im_tup (dm_tup (ac (dm_int (dmm (a1 (dm_int (dmm ⟨by simp, tmm ⟨fun i ρ μ => (∃ o, ρ = [some (.dat (frD f)), some (.dat (.tuple (hgL h))), some (.dat (.int (m : Nat))), some (.dat (.list (eD (stF h m S F i) 6))), some (.dat (matD (stS h m S i) 6 6)), o]) ∧ μ = [], ⟨⟨none, by rw [(st_zero h m S F).1, (st_zero h m S F).2]; rfl⟩, rfl⟩, ?_, ?_⟩⟩))))))))
  · rintro i d ρ μ hd ⟨⟨o, rfl⟩, rfl⟩
    have hi : i < 2 := (List.getElem?_eq_some_iff.mp hd).1
    have hd2 : d = .int (i : Int) := match i, hi, hd with
      | 0, _, hd => (Option.some.inj hd).symm
      | 1, _, hd => (Option.some.inj hd).symm
    subst hd2
    refine gm_name sc_member_rows.nd (i := 5) rfl ?_
    refine ds_if (tm_cmp (op_inT (u65 hr)) rfl (dm_tup (ac (nm 2 (dmm (a1 (nm 5 (dmm ⟨by simp, nm 1 (opd_inT rfl (hg_shp h) ?_)⟩))))))))
    rw [hg_any]
    refine bm ⟨fun hk => ?_, fun hk => ?_⟩
    · obtain ⟨q1, q2, q3, q4⟩ := st_yes S F hi hk
      rw [q1, q2]
      have nz : S (3 * i + 2) (3 * i + 2) ≠ 0 := match i, hi with
        | 0, _ => n2
        | 1, _ => n5
      refine ds_asg (dm_call c_released (hr.mono (by decide)) rfl (ac (nm 4 (dmm (ac (nm 3 (dmm ?_)))))))
      refine a1 (dm_bin op_add (dm_bin op_mulB (dm_int (nm 5 (opd_I ?_ (dm_int (opd_I0 (dmm ⟨S, F, 3 * i + 2, bb, ?_, by omega, nz, hS, hF, hb, ?_⟩))))))))
      · exact CMulB.of (a := 2) (b := 2) (by decide) (by omega) (by decide)
      · simp
      refine gm_of_j (js := [3, 4]) (gj_tup (gjs_cons (gj_name (i := 4) sc_member_rows.nd rfl (gjs_cons (gj_name (i := 3) sc_member_rows.nd rfl (gjs_nil ?_))))))
      refine ds_nil (ds_nil ⟨⟨some (.dat (.int (i : Int))), ?_⟩, rfl⟩)
      rw [q3, q4]
      rfl
    · obtain ⟨q3, q4⟩ := st_no S F hi hk
      refine ds_nil (ds_nil ⟨⟨some (.dat (.int (i : Int))), ?_⟩, rfl⟩)
      rw [q3, q4]
      rfl
  · rintro ρ μ ⟨⟨o, rfl⟩, rfl⟩
    rw [← (st_two h m S F).1, ← (st_two h m S F).2] at hG
    exact ds_ret (dm_tup (ac (nm 4 (dmm (a1 (nm 3 (dmm ⟨by simp, _, rfl, hG⟩)))))))
end
end BW

namespace BW
open PySem PySem.Spec PyProof.Rows L2
/-! ### unit moves of a member's ends -/
def wyM (M : Mb) : List Way := [(M.i, 0), (M.i, 1), (M.i, 2), (M.j, 0), (M.j, 1), (M.j, 2)]
def unit (w : Way) : Way → Rat := fun v => if wK v = wK w then 1 else 0
theorem eqv_wD (a b : Way) : PyData.eqv (wD a) (wD b) = decide (wK a = wK b) := by
  have e1 : ∀ x y : Int, (x == y) = decide (x = y) := fun _ _ => Bool.beq_eq_decide_eq ..
  have e2 : ∀ x y : Str, (x == y) = decide (x = y) := fun x y => by
    by_cases h : x = y
    · subst h
      simp
    · simp [h]
  simp only [wD, keyD, wK, kD, List.map, PyData.eqv, PyData.eqvAll, e1, e2, Bool.and_true]
  by_cases h1 : (a.1 : Int) = b.1 <;> by_cases h2 : lt a.2 = lt b.2 <;> simp [h1, h2]
theorem lt_ok (l : Nat) : SeqAt.shaped (.str (lt l)) = true := by
  by_cases h0 : l = 0
  · subst h0
    decide +kernel
  · by_cases h1 : l = 1
    · subst h1
      decide +kernel
    · have e : lt l = ⟨#[114]⟩ := by simp [lt, lcode, h0, h1]
      rw [e]
      decide +kernel
theorem wD_shp (w : Way) : shp (wD w) = true := by
  have h := (Bool.and_eq_true_iff.mp (lt_ok w.2)).1
  have h' : PyData.canLay0 (.str (lt w.2)) = true := h
  simp [shp, SeqAt.shaped, wD, keyD, wK, kD, PyData.canLay0, PyData.canLayAll0, PyData.depth, PyData.depthAll, noD, noDA] at h' ⊢
  exact h'
theorem rt_unit (w v : Way) : PyData.tuple [.int (if decide (wK v = wK w) = true then 1 else 0), .int 1] = rt (unit w v) := by
  unfold unit
  by_cases h : wK v = wK w
  · rw [if_pos h, if_pos (by simpa using h)]
    rfl
  · rw [if_neg h, if_neg (by simpa using h)]
    rfl
theorem unit_bd (w v : Way) : Bd 1 (unit w v) := by
  unfold unit
  split
  · exact Bd.one
  · exact Bd.zero
theorem wy_nd {M : Mb} (h : M.i ≠ M.j) : ((wyM M).map wK).Nodup := by
  have e : ∀ a b i j, a ≠ b → wK (a, i) ≠ wK (b, j) := fun a b i j h => wK_ne h
  have e2 : ∀ a b i j, lt i ≠ lt j → wK (a, i) ≠ wK (b, j) := fun a b i j h z => by
    simp [wK] at z
    exact h z.2
  have l01 : lt 0 ≠ lt 1 := by decide
  have l02 : lt 0 ≠ lt 2 := by decide
  have l12 : lt 1 ≠ lt 2 := by decide
  simp only [wyM, List.map, List.nodup_cons, List.mem_cons, List.not_mem_nil, or_false, not_or, not_false_eq_true, List.nodup_nil, and_true]
  refine ⟨⟨?_, ?_, ?_, ?_, ?_⟩, ⟨?_, ?_, ?_, ?_⟩, ⟨?_, ?_, ?_⟩, ⟨?_, ?_⟩, ?_⟩ <;> first | exact e _ _ _ _ h | exact e2 _ _ _ _ l01 | exact e2 _ _ _ _ l02 | exact e2 _ _ _ _ l12
section
variable {P : Program} {w : World} {K : PySem.W.Frag} {mg : Str → Option Value} {base : Heap}
def unitD (M : Mb) (c s : Int) : PyData := .list ((wyM M).map fun w => .tuple [wD w, .list (eD (tE M c s (unit w)) 6)])
def tf_unit : Tf := fun ds G => ∃ f m M p q, ds = [frD f, .int (m : Nat)] ∧ AtM f m M p q ∧ far p q ≠ 0 ∧ sgnOk (cc p q) ∧ sgnOk (ss p q) ∧ M.i ≠ M.j ∧ G (unitD M (cc p q) (ss p q))
theorem lk_of {β : Type} {L : List Way} {g : Way → β} {x : Way} (hx : x ∈ L) : lk (L.map fun w => (wK w, g w)) (wK x) = some (g x) ∨ ∃ y ∈ L, wK y = wK x ∧ lk (L.map fun w => (wK w, g w)) (wK x) = some (g y) := by
  unfold lk
  induction L with
  | nil => cases hx
  | cons y L ih =>
    rw [List.map_cons]
    by_cases h : wK y = wK x
    · rw [List.find?_cons_of_pos (by simpa using h)]
      exact .inr ⟨y, List.mem_cons_self .., h, rfl⟩
    · rw [List.find?_cons_of_neg (by simpa using h)]
      have hx2 : x ∈ L := (List.mem_cons.mp hx).resolve_left fun z => h (by rw [z])
      rcases ih hx2 with z | ⟨y2, z1, z2⟩
      · exact .inl z
      · exact .inr ⟨y2, List.mem_cons_of_mem _ z1, z2⟩
theorem can_unit (T : Txt K mg) (c_turned : Can P w K mg base "turned" 43 p_turned (PureSp K tf_turned)) : Can P w K mg base "unit_columns" 44 p_unit_columns (PureSp K tf_unit) := by
  refine can_pure 43 T sc_unit_columns (fun _ _ _ _ _ _ us hl => match us, hl with | [_, _], _ => rfl) (fun ds G h => by obtain ⟨f, m, M, p, q, rfl, _⟩ := h; rfl) fun fa cdv B outer s H E hr ds G h => ?_
  obtain ⟨f, m, M, p, q, rfl, hA, h0, hc, hs, hij, hG⟩ := h
  refine ds_setLc2 (own := [("end", 5), ("letter", 6)]) (vs1 := [6]) sc_unit_columns.nd (blkOk_by (by kernel_rfl)) (by decide) (i := 2) rfl (im_tup (dm_tup (ac (dm_int (dmm (a1 (dm_int (dmm ⟨by simp, tmm ⟨fun i μ acc => μ = [] ∧ acc = wDs ((wyM M).take (3 * i)), ⟨rfl, rfl⟩, ?_, ?_⟩⟩))))))))
  · rintro i d μ acc hd ⟨rfl, rfl⟩ b
    have hi : i < 2 := (List.getElem?_eq_some_iff.mp hd).1
    obtain ⟨nn, rfl, hnn, htk⟩ : ∃ nn : Nat, d = .int (i : Int) ∧ atI [PyData.int M.i, .int M.j, .int M.k, .int M.s] (i : Int) = some (.int (nn : Nat)) ∧ (wyM M).take (3 * (i + 1)) = (wyM M).take (3 * i) ++ [0, 1, 2].map fun l => (nn, l) := by
      match i, hi, hd with
      | 0, _, hd => exact ⟨M.i, (Option.some.inj hd).symm, rfl, rfl⟩
      | 1, _, hd => exact ⟨M.j, (Option.some.inj hd).symm, rfl, rfl⟩
    refine gj_name (i := 5) sc_unit_columns.nd rfl ?_
    intro b
    refine im_LET T ⟨fun j μ acc => μ = [] ∧ acc = wDs ((wyM M).take (3 * i) ++ ([0, 1, 2].take j).map fun l => (nn, l)), ⟨rfl, by simp⟩, ?_, ?_⟩
    · rintro j d1 μ acc hd1 ⟨rfl, rfl⟩ b
      rw [List.getElem?_map] at hd1
      obtain ⟨l, hl, rfl⟩ := Option.map_eq_some_iff.mp hd1
      obtain ⟨hj, hl2⟩ := List.getElem?_eq_some_iff.mp hl
      refine gj_name (i := 6) sc_unit_columns.nd rfl ?_
      intro b
      refine dm_tup (ac (ixE (ixE (ixT ?_))))
      refine nm 0 ⟨_, _, rfl, rfl, nm 1 (im ⟨_, _, .inl rfl, atI_map hA.m, nm 5 (im ⟨_, _, .inl rfl, hnn, dmm ?_⟩)⟩)⟩
      refine a1 (nm 6 (dmm ⟨by simp, ?_, rfl, ?_⟩))
      · unfold wDs
        rw [List.length_map, List.length_append, List.length_take, List.length_map, List.length_take]
        have : min j ([0, 1, 2] : List Nat).length ≤ 3 := Nat.min_le_right _ _
        have : min (3 * i) (wyM M).length ≤ 6 := Nat.min_le_right _ _
        omega
      · rw [List.take_succ_eq_append_getElem hj, hl2]
        simp [wDs, wD, keyD, wK, kD]
    · rintro μ acc ⟨rfl, rfl⟩
      refine ⟨rfl, ?_⟩
      rw [htk]
      rfl
  · rintro μ acc ⟨rfl, rfl⟩
    refine ⟨(wyM M).map wD, by simp [wDs]; rfl, ?_⟩
    refine ds_asg (dm_lstO (am_nil ⟨by simp, gm_name sc_unit_columns.nd (i := 3) rfl ?_⟩))
    refine ds_for PassesOwn.never (im_list (nm 2 (lm ⟨fun i ρ μ => (∃ o4 o5 o6 o7, ρ = [some (.dat (frD f)), some (.dat (.int (m : Nat))), some (.dat (.list ((wyM M).map wD))), some (.own 0), o4, o5, o6, o7]) ∧ μ = [.L (((wyM M).take i).map fun w => Rv.dat (.tuple [wD w, .list (eD (tE M (cc p q) (ss p q) (unit w)) 6)]))], ⟨⟨_, _, _, _, rfl⟩, rfl⟩, ?_, ?_⟩)))
    · rintro i d ρ μ hd ⟨⟨o4, o5, o6, o7, rfl⟩, rfl⟩
      rw [List.getElem?_map] at hd
      obtain ⟨w, hw, rfl⟩ := Option.map_eq_some_iff.mp hd
      obtain ⟨hi, hw2⟩ := List.getElem?_eq_some_iff.mp hw
      refine gm_name sc_unit_columns.nd (i := 4) rfl ?_
      refine ds_expr (dm_append (nm 3 ⟨0, _, rfl, rfl, dm_tup (ac (nm 4 (dmm (a1 (dm_call c_turned hr rfl (ac (nm 0 (dmm (ac (nm 1 (dmm ?_)))))))))))⟩))
      refine a1 (dm_dc (own := [("other", 7)]) sc_unit_columns.nd (u1 hr) (blkOk_by (by kernel_rfl)) (im_list (nm 2 (lm ?_))))
      refine dc_mapL (wyM M) wD wK (fun v => rt (unit w v)) (by simp [wyM]) (wy_nd hij) (fun x _ => rfl) (fun v hv b => gj_name (i := 7) sc_unit_columns.nd rfl ?_) ⟨_, rfl, dmm ?_⟩
      · intro b
        refine nm 7 ⟨rfl, fun b => ?_⟩
        refine dm_tup (ac (dm_int1 rfl T.b_int (dm_cmp (op_eqD (Nat.lt_of_succ_lt (u65 hr))) (nomark _) (nm 7 (nm 4 (opd_eqD (wD_shp v) (wD_shp w) ?_))))))
        rw [eqv_wD]
        exact dmm (dmm (a1 (dm_int (dmm ⟨by simp, rfl, congrArg Rv.dat (rt_unit w v)⟩))))
      · have key : ∀ x ∈ wyM M, lk ((wyM M).map fun x => (wK x, rt (unit w x))) (wK x) = some (rt (unit w x)) := fun x hx => by
          rcases lk_of (g := fun x => rt (unit w x)) hx with z | ⟨y, _, e, z⟩
          · exact z
          · rw [z]
            unfold unit
            rw [e]
        refine ⟨f, m, M, p, q, _, unit w, 1, rfl, hA, h0, hc, hs, fun l hl => ?_, unit_bd w, by decide, ?_⟩
        · match l, hl with
          | 0, _ => exact ⟨key _ (by simp [wyM]), key _ (by simp [wyM])⟩
          | 1, _ => exact ⟨key _ (by simp [wyM]), key _ (by simp [wyM])⟩
          | 2, _ => exact ⟨key _ (by simp [wyM]), key _ (by simp [wyM])⟩
        · have hlen : (wyM M).length = 6 := rfl
          refine dmm ⟨by simp, _, rfl, by rw [List.length_map, List.length_take]; omega, ds_nil ⟨⟨some (.dat (wD w)), o5, o6, o7, rfl⟩, ?_⟩⟩
          rw [List.take_succ_eq_append_getElem hi, hw2]
          simp
    · rintro ρ μ ⟨⟨o4, o5, o6, o7, rfl⟩, rfl⟩
      exact ds_frzL (n := 0) ((wyM M).map fun w => .tuple [wD w, .list (eD (tE M (cc p q) (ss p q) (unit w)) 6)]) rfl (by rw [List.map_map]; rfl) (ds_ret (nz 3 ⟨_, rfl, hG⟩))
end
end BW

namespace BW
open PySem PySem.Spec PyProof.Rows L2
/-! ### the free parts of the members' forces -/
def partD (z : Nat × Nat) : PyData := .tuple [.int z.1, .int z.2]
def partsOf (h : Hg) (m : Nat) : List (Nat × Nat) := (m, 0) :: ([0, 1].filter fun e => !atHg h m e).map fun e => (m, e + 1)
def parts (h : Hg) (n : Nat) : List (Nat × Nat) := (List.range n).flatMap (partsOf h)
theorem parts_succ (h : Hg) (n : Nat) : parts h (n + 1) = parts h n ++ partsOf h n := by
  unfold parts
  rw [List.range_succ, List.flatMap_append]
  simp
theorem partsOf_len (h : Hg) (m : Nat) : (partsOf h m).length ≤ 3 := by
  unfold partsOf
  rw [List.length_cons, List.length_map]
  have := List.length_filter_le (fun e => !atHg h m e) [0, 1]
  simp at this
  simp
  omega
theorem parts_len (h : Hg) (n : Nat) : (parts h n).length ≤ 3 * n := by
  induction n with
  | zero => exact Nat.le_refl _
  | succ n ih =>
    rw [parts_succ, List.length_append]
    have := partsOf_len h n
    omega
section
variable {P : Program} {w : World} {K : PySem.W.Frag} {mg : Str → Option Value} {base : Heap}
def tf_parts : Tf := fun ds G => ∃ f h, ds = [frD f, .tuple (hgL h)] ∧ f.mb.length ≤ 100 ∧ G (.list ((parts h f.mb.length).map partD))
theorem can_parts (T : Txt K mg) : Can P w K mg base "parts_in" 1 p_parts_in (PureSp K tf_parts) := by
  refine can_pure 33 T sc_parts_in (fun _ _ _ _ _ _ us hl => match us, hl with | [_, _], _ => rfl) (fun ds G h => by obtain ⟨f, h, rfl, _⟩ := h; rfl) fun fa cdv B outer s H E hr ds G h => ?_
  obtain ⟨f, h, rfl, hn, hG⟩ := h
  refine ds_asg (dm_lstO (am_nil ⟨by simp, gm_name sc_parts_in.nd (i := 2) rfl ?_⟩))
  refine ds_for PassesOwn.never (im_range1 rfl T.b_range (dm_len rfl T.b_len (ixT (nm 0 ⟨_, _, rfl, rfl, _, .dat rfl, im ⟨by omega, ?_, fun i ρ μ => (∃ o3 o4, ρ = [some (.dat (frD f)), some (.dat (.tuple (hgL h))), some (.own 0), o3, o4]) ∧ μ[0]? = some (.L ((parts h i).map fun z => Rv.dat (partD z))), ⟨⟨_, _, rfl⟩, rfl⟩, ?_, ?_⟩⟩))))
  · simp
    omega
  · rintro i d ρ μ hd ⟨⟨o3, o4, rfl⟩, hμ⟩
    have hi : i < f.mb.length := by
      have := (List.getElem?_eq_some_iff.mp hd).1
      rw [rangeD_len] at this
      simpa using this
    rw [rangeD_get (by simpa using hi)] at hd
    obtain rfl := Option.some.inj hd
    have hpl := parts_len h i
    have h0 : 0 < μ.length := (List.getElem?_eq_some_iff.mp hμ).1
    rw [Int.zero_add]
    refine gm_name sc_parts_in.nd (i := 3) rfl ?_
    refine ds_expr (dm_append (nm 2 ⟨0, _, rfl, hμ, dm_tup (ac (nm 3 (dmm (a1 (dm_int (dmm ⟨by simp, _, hμ, by rw [List.length_map]; omega, ?_⟩))))))⟩))
    have h1 : (μ.set 0 (.L ((parts h i).map (fun z => Rv.dat (partD z)) ++ [Rv.dat (.tuple [.int (i : Nat), .int 0])])))[0]? = some (.L ((parts h i).map (fun z => Rv.dat (partD z)) ++ [Rv.dat (.tuple [.int (i : Nat), .int 0])])) := List.getElem?_set_self h0
    generalize μ.set 0 (.L ((parts h i).map (fun z => Rv.dat (partD z)) ++ [Rv.dat (.tuple [.int (i : Nat), .int 0])])) = μ1 at h1 ⊢
    have h01 : 0 < μ1.length := (List.getElem?_eq_some_iff.mp h1).1
    refine ds_expr (dm_extend (nm 2 ⟨0, _, rfl, h1, dm_lcO (own := [("end", 4)]) sc_parts_in.nd (blkOk_by (by kernel_rfl)) (im_tup (dm_tup (ac (dm_int (dmm (a1 (dm_int (dmm ⟨by simp, tmm ?_⟩))))))))⟩))
    refine lc_filt [0, 1] (fun e => .int (e : Nat)) (fun e => partD (i, e + 1)) (fun e => !atHg h i e) (by decide) (fun e he b => gj_name (i := 4) sc_parts_in.nd rfl ?_) ?_
    · intro b
      refine tm_cmp (op_niT (X := Bk _ _ b) (u65 hr)) rfl (dm_tup (ac (nm 3 (dmm (a1 (nm 4 (dmm ⟨by simp, nm 1 (opd_niT rfl (hg_shp h) ?_)⟩)))))))
      rw [hg_any]
      refine bm ⟨rfl, fun _ b => ?_, fun _ => rfl⟩
      refine dm_tup (ac (nm 3 (dmm (a1 (dm_bin op_add (nm 4 (dm_int (opd_I0 (dmm ⟨by simp, rfl, ?_⟩)))))))))
      simp [partD]
    · have h2 : (μ1 ++ [Cell.L ((([0, 1].filter fun e => !atHg h i e).map fun e => partD (i, e + 1)).map Rv.dat)])[0]? = some (.L ((parts h i).map (fun z => Rv.dat (partD z)) ++ [Rv.dat (.tuple [.int (i : Nat), .int 0])])) := by
        rw [List.getElem?_append_left h01]
        exact h1
      refine ⟨_, _, _, rfl, h2, (by rw [List.getElem?_append_right (Nat.le_refl _), Nat.sub_self]; rfl), ?_, ds_nil ⟨⟨_, _, rfl⟩, ?_⟩⟩
      · have := partsOf_len h i
        unfold partsOf at this
        simp at this ⊢
        omega
      · rw [List.getElem?_set_self (by rw [List.length_append]; omega), parts_succ]
        unfold partsOf
        simp [partD]
  · rintro ρ μ ⟨⟨o3, o4, rfl⟩, hμ⟩
    rw [rangeD_len] at hμ
    simp only [List.length_map, Int.toNat_natCast] at hμ
    have h0 : 0 < μ.length := (List.getElem?_eq_some_iff.mp hμ).1
    refine ds_frzL (n := 0) ((parts h f.mb.length).map partD) hμ (by rw [List.map_map]; rfl) (ds_ret (dm_nameZ (i := 2) rfl rfl (List.getElem?_set_self h0) ⟨_, rfl, hG⟩))
end
end BW

namespace BW
open PySem PySem.Spec PyProof.Rows L2
/-! ### the rows of balance -/
def ndA (f : Fr) (i : Nat) : Int × Int := f.nd.getD i (0, 0)
structure MemOk (f : Fr) (M : Mb) : Prop where
  i : M.i < f.nd.length
  j : M.j < f.nd.length
  ne : M.i ≠ M.j
  far0 : far (ndA f M.i) (ndA f M.j) ≠ 0
  farS : sml (far (ndA f M.i) (ndA f M.j))
  c : sgnOk (cc (ndA f M.i) (ndA f M.j))
  s : sgnOk (ss (ndA f M.i) (ndA f M.j))
  k : sml M.k
  st : sml M.s
theorem MemOk.at {f : Fr} {m : Nat} {M : Mb} (h : MemOk f M) (hm : f.mb[m]? = some M) : AtM f m M (ndA f M.i) (ndA f M.j) := by
  refine ⟨hm, ?_, ?_⟩
  · rw [List.getElem?_eq_getElem h.i, ndA, List.getD_eq_getElem?_getD, List.getElem?_eq_getElem h.i]
    rfl
  · rw [List.getElem?_eq_getElem h.j, ndA, List.getD_eq_getElem?_getD, List.getElem?_eq_getElem h.j]
    rfl
def del (a b : Nat) : Rat := if b = a then 1 else 0
def colL (f : Fr) (z : Nat × Nat) : List (Way × Rat) := match f.mb[z.1]? with
  | none => []
  | some M => atE M (cc (ndA f M.i) (ndA f M.j)) (ss (ndA f M.i) (ndA f M.j)) (ef (far (ndA f M.i) (ndA f M.j)) (del z.2 0) (del z.2 1) (del z.2 2))
def getR (L : List (Way × Rat)) (w : Way) : Rat := ((L.find? fun z => decide (wK z.1 = wK w)).map (·.2)).getD 0
theorem lk_tR (L : List (Way × Rat)) (w : Way) : (lk ((tD L).map fun p => (p.1, Rv.dat p.2)) (wK w)).getD (.dat (rt 0)) = .dat (rt (getR L w)) := by
  unfold lk getR tD
  induction L with
  | nil => rfl
  | cons x L ih =>
    simp only [List.map_cons]
    by_cases h : wK x.1 = wK w
    · rw [List.find?_cons_of_pos (by simpa using h), List.find?_cons_of_pos (by simpa using h)]
      rfl
    · rw [List.find?_cons_of_neg (by simpa using h), List.find?_cons_of_neg (by simpa using h)]
      exact ih
theorem del_bd (a b : Nat) : Bd 1 (del a b) := by
  unfold del
  split
  · exact Bd.one
  · exact Bd.zero
theorem parts_mem {h : Hg} {n : Nat} {z : Nat × Nat} (hz : z ∈ parts h n) : z.1 < n := by
  unfold parts at hz
  obtain ⟨m, hm, hz⟩ := List.mem_flatMap.mp hz
  have hm := List.mem_range.mp hm
  unfold partsOf at hz
  rcases List.mem_cons.mp hz with rfl | hz
  · exact hm
  · obtain ⟨e, _, rfl⟩ := List.mem_map.mp hz
    exact hm
theorem rt_del (a k : Nat) : PyData.tuple [.int (if decide ((0 + (k : Int)) = (a : Int)) = true then 1 else 0), .int 1] = rt (del a k) := by
  unfold del
  by_cases h : k = a
  · rw [if_pos h, if_pos (by simp; omega)]
    rfl
  · rw [if_neg h, if_neg (by simp; omega)]
    rfl
theorem far_bd {i : Int} (h : sml i) : Bd 30 (i : Rat) := h.bd.mono (by decide)
theorem ef_bd {L : Int} {a b c : Rat} (h0 : L ≠ 0) (hL : sml L) (ha : Bd 1 a) (hb : Bd 1 b) (hc : Bd 1 c) : ∀ i, Bd 30 (ef L a b c i) := fun i => by
  have h0' : (L : Rat) ≠ 0 := fun z => h0 (by simpa using z)
  have q : Bd 30 ((b + c) / (L : Rat)) := ((hb.add hc).dvd h0' hL.bd).mono (by decide)
  unfold ef
  split
  · exact ha.neg.mono (by decide)
  · exact q
  · exact hb.mono (by decide)
  · exact ha.mono (by decide)
  · exact q.neg
  · exact hc.mono (by decide)
section
variable {P : Program} {w : World} {K : PySem.W.Frag} {mg : Str → Option Value} {base : Heap}
def balD (f : Fr) (h : Hg) : PyData := .list ((free f).map fun w => .list ((parts h f.mb.length).map fun z => rt (getR (colL f z) w)))
def tf_bal : Tf := fun ds G => ∃ f h, ds = [frD f, .tuple (hgL h)] ∧ HeldOk f ∧ f.nd.length ≤ 300 ∧ f.mb.length ≤ 100 ∧ (∀ M ∈ f.mb, MemOk f M) ∧ G (balD f h)
theorem can_bal (T : Txt K mg) (c_parts : Can P w K mg base "parts_in" 1 p_parts_in (PureSp K tf_parts)) (c_free : Can P w K mg base "free_in" 2 p_free_in (PureSp K tf_free)) (c_at : Can P w K mg base "at_nodes" 43 p_at_nodes (PureSp K tf_at)) (c_ebf : Can P w K mg base "ends_by_forces" 43 p_ends_by_forces (PureSp K tf_ebf)) : Can P w K mg base "balance_rows" 44 p_balance_rows (PureSp K tf_bal) := by
  refine can_pure 34 T sc_balance_rows (fun _ _ _ _ _ _ us hl => match us, hl with | [_, _], _ => rfl) (fun ds G h => by obtain ⟨f, h, rfl, _⟩ := h; rfl) fun fa cdv B outer s H E hr ds G h => ?_
  obtain ⟨f, h, rfl, hh, hn, hm, hM, hG⟩ := h
  refine ds_asg (dm_lstO (am_nil ⟨by simp, gm_name sc_balance_rows.nd (i := 2) rfl ?_⟩))
  refine ds_for PassesOwn.never (im_list (dm_call c_parts (hr.mono (by decide)) rfl (ac (nm 0 (dmm (a1 (nm 1 (dmm ⟨f, h, rfl, hm, lm ⟨fun i ρ μ => (∃ o3 o4 o5 o6 o7 o8, ρ = [some (.dat (frD f)), some (.dat (.tuple (hgL h))), some (.own 0), o3, o4, o5, o6, o7, o8]) ∧ μ = [.L (((parts h f.mb.length).take i).map fun z => Rv.dat (dD (tD (colL f z))))], ⟨⟨_, _, _, _, _, _, rfl⟩, rfl⟩, ?_, ?_⟩⟩))))))))
  · rintro i d ρ μ hd ⟨⟨o3, o4, o5, o6, o7, o8, rfl⟩, rfl⟩
    rw [List.getElem?_map] at hd
    obtain ⟨z, hz, rfl⟩ := Option.map_eq_some_iff.mp hd
    obtain ⟨hi, hz2⟩ := List.getElem?_eq_some_iff.mp hz
    refine gm_of_j (js := [3, 4]) (gj_tup (gjs_cons (gj_name (i := 3) sc_balance_rows.nd rfl (gjs_cons (gj_name (i := 4) sc_balance_rows.nd rfl (gjs_nil ?_))))))
    have hz1 : z.1 < f.mb.length := parts_mem (List.mem_of_getElem? hz)
    have hMb := List.getElem?_eq_getElem hz1
    have ok := hM _ (List.getElem_mem hz1)
    have hcol : colL f z = atE f.mb[z.1] (cc (ndA f f.mb[z.1].i) (ndA f f.mb[z.1].j)) (ss (ndA f f.mb[z.1].i) (ndA f f.mb[z.1].j)) (ef (far (ndA f f.mb[z.1].i) (ndA f f.mb[z.1].j)) (del z.2 0) (del z.2 1) (del z.2 2)) := by
      unfold colL
      rw [hMb]
    refine ds_setLc (own := [("place", 6)]) sc_balance_rows.nd (blkOk_by (by kernel_rfl)) (i := 5) rfl (im_range1 rfl T.b_range (dm_int (im ⟨by decide, by decide, ?_⟩)))
    refine lc_mapL (List.range 3) (fun k => .int (0 + (k : Nat))) (fun k => rt (del z.2 k)) (by decide) (fun k hk b => gj_name (i := 6) sc_balance_rows.nd rfl ?_) (.inl ⟨_, rfl, ?_⟩)
    · intro b
      refine dm_tup (ac (dm_int1 rfl T.b_int (dm_cmp op_eq (nomark _) (nm 6 (nm 4 (opd_eqI (dmm (dmm (a1 (dm_int (dmm ⟨by simp, rfl, congrArg Rv.dat (rt_del z.2 k)⟩)))))))))))
    · refine ds_expr (dm_append (nm 2 ⟨0, _, rfl, rfl, dm_call c_at hr rfl (ac (nm 0 (dmm (ac (nm 3 (dmm ?_))))))⟩))
      refine a1 (dm_call c_ebf hr rfl (ac (nm 0 (dmm (ac (nm 3 (dmm ?_)))))))
      refine a1 (nm 5 (dmm ⟨f, z.1, _, _, _, del z.2 0, del z.2 1, del z.2 2, 1, rfl, ok.at hMb, ok.far0, far_bd ok.farS, del_bd _ _, del_bd _ _, by decide, dmm ?_⟩))
      refine ⟨f, z.1, _, _, _, _, 30, rfl, ok.at hMb, ok.far0, ok.c, ok.s, ok.ne, ef_bd ok.far0 ok.farS (del_bd _ _) (del_bd _ _) (del_bd _ _), by decide, ?_⟩
      have hp := parts_len h f.mb.length
      refine ⟨_, rfl, by rw [List.length_map, List.length_take]; omega, ds_nil ⟨⟨_, _, _, _, _, _, rfl⟩, ?_⟩⟩
      rw [List.take_succ_eq_append_getElem hi, hz2, ← hcol]
      simp
  · rintro ρ μ ⟨⟨o3, o4, o5, o6, o7, o8, rfl⟩, rfl⟩
    have hp := parts_len h f.mb.length
    have hfl : (free f).length ≤ 900 := by
      have := List.length_filter_le (fun w => !isH f w) (waysW f.nd.length)
      rw [waysW_len] at this
      unfold free
      omega
    refine ds_frzL (n := 0) ((parts h f.mb.length).map fun z => dD (tD (colL f z))) rfl (by rw [List.length_map, List.take_length, List.map_map]; rfl) ?_
    refine ds_ret (dm_lc (own := [("way", 7)]) sc_balance_rows.nd (blkOk_by (by kernel_rfl)) (im_list (dm_call c_free (hr.mono (by decide)) rfl (a1 (nm 0 (dmm ⟨f, rfl, hh, hn, lm ?_⟩))))))
    refine lc_mapL (free f) wD (fun w => .list ((parts h f.mb.length).map fun z => rt (getR (colL f z) w))) (by omega) (fun w hw b => gj_name (i := 7) sc_balance_rows.nd rfl ?_) ⟨_, rfl, _, rfl, hG⟩
    intro b
    refine dm_lc (X := Bk _ _ b) (own := [("column", 8)]) sc_balance_rows.nd (blkOk_by (by kernel_rfl)) (im_list (nz 2 (lm ?_)))
    refine lc_mapL (X := Bk _ _ b) (parts h f.mb.length) (fun z => dD (tD (colL f z))) (fun z => rt (getR (colL f z) w)) (by omega) (fun z hz b2 => gj_name (i := 8) sc_balance_rows.nd rfl ?_) ⟨_, rfl, rfl, rfl⟩
    intro b3
    refine dm_dget2 (u1 hr) (nm 8 ⟨_, .dat, nm 7 (dmZERO T ⟨wK w, _, rfl, rfl, .dat, rfl, ?_⟩)⟩)
    exact lk_tR (colL f z) w
end
end BW

namespace BW
/-! ### Gauss-Jordan by functions: M i j, N rows -/
abbrev Mat := Nat → Nat → Rat
def swapM (M : Mat) (a b : Nat) : Mat := fun i => if i = a then M b else if i = b then M a else M i
def scaleM (M : Mat) (a c : Nat) : Mat := fun i j => if i = a then M a j / M a c else M i j
def lowM (M : Mat) (a c k : Nat) : Mat := fun i j => if i = a ∨ k ≤ i then M i j else M i j - M i c * M a j
def elim (N : Nat) (M : Mat) (a b c : Nat) : Mat := lowM (scaleM (swapM M a b) a c) a c N
def cand (M : Mat) (N a c : Nat) : List Nat := ((List.range (N - a)).map fun i => a + i).filter fun i => !decide ((M i c).num = 0)
def redStep (N : Nat) (st : Mat × List Nat) (c : Nat) : Mat × List Nat := match cand st.1 N st.2.length c with
  | [] => st
  | b :: _ => (elim N st.1 st.2.length b c, st.2 ++ [c])
def red (N : Nat) (M : Mat) (W : Nat) : Mat × List Nat := (List.range W).foldl (redStep N) (M, [])
theorem red_succ (N : Nat) (M : Mat) (W : Nat) : red N M (W + 1) = redStep N (red N M W) W := by
  unfold red
  rw [List.range_succ, List.foldl_append]
  rfl
theorem dot_congr : ∀ {n : Nat} {x y x' y' : Nat → Rat}, (∀ i < n, x i = x' i) → (∀ i < n, y i = y' i) → dot n x y = dot n x' y'
  | 0, _, _, _, _, _, _ => rfl
  | n + 1, x, y, x', y', h, h' => by
    unfold dot
    rw [dot_congr (fun i hi => h i (Nat.lt_succ_of_lt hi)) (fun i hi => h' i (Nat.lt_succ_of_lt hi)), h n (Nat.lt_succ_self n), h' n (Nat.lt_succ_self n)]
theorem dot_zeroL : ∀ {n : Nat} {x y : Nat → Rat}, (∀ i < n, x i = 0) → dot n x y = 0
  | 0, _, _, _ => rfl
  | n + 1, x, y, h => by
    unfold dot
    rw [dot_zeroL fun i hi => h i (Nat.lt_succ_of_lt hi), h n (Nat.lt_succ_self n)]
    grind
theorem dot_zeroR {n : Nat} {x y : Nat → Rat} (h : ∀ i < n, y i = 0) : dot n x y = 0 := by
  induction n with
  | zero => rfl
  | succ n ih =>
    unfold dot
    rw [ih fun i hi => h i (Nat.lt_succ_of_lt hi), h n (Nat.lt_succ_self n)]
    grind
/-- a row less a multiple of another, times a column -/
theorem dot_low (n : Nat) (x z y : Nat → Rat) (a : Rat) : dot n (fun j => x j - a * z j) y = dot n x y - a * dot n z y := by
  induction n with
  | zero => unfold dot; grind
  | succ n ih =>
    unfold dot
    rw [ih]
    grind
theorem dot_div (n : Nat) (x y : Nat → Rat) (a : Rat) : dot n (fun j => x j / a) y = dot n x y / a := by
  induction n with
  | zero => unfold dot; grind
  | succ n ih =>
    unfold dot
    rw [ih]
    grind
/-- a unit row -/
theorem dot_unit {i : Nat} : ∀ {n : Nat} {x y : Nat → Rat}, (∀ j < n, x j = if i = j then 1 else 0) → dot n x y = if i < n then y i else 0
  | 0, _, _, _ => by simp [dot]
  | n + 1, x, y, h => by
    unfold dot
    rw [dot_unit fun j hj => h j (Nat.lt_succ_of_lt hj), h n (Nat.lt_succ_self n)]
    by_cases e : i = n
    · subst e
      rw [if_neg (Nat.lt_irrefl _), if_pos rfl, if_pos (Nat.lt_succ_self _)]
      grind
    · rw [if_neg e]
      by_cases l : i < n
      · rw [if_pos l, if_pos (by omega)]
        grind
      · rw [if_neg l, if_neg (by omega)]
        grind
theorem dot_longer {m n : Nat} {x y : Nat → Rat} (h : m ≤ n) (z : ∀ j, m ≤ j → j < n → y j = 0) : dot n x y = dot m x y := by
  induction n with
  | zero =>
    have : m = 0 := by omega
    rw [this]
  | succ n ih =>
    by_cases e : m = n + 1
    · rw [e]
    · show dot n x y + x n * y n = _
      rw [ih (by omega) (fun j h1 h2 => z j h1 (by omega)), z n (by omega) (by omega)]
      grind
theorem cand_mem {M : Mat} {N a c b : Nat} (h : b ∈ cand M N a c) : a ≤ b ∧ b < N ∧ M b c ≠ 0 := by
  unfold cand at h
  obtain ⟨h1, h2⟩ := List.mem_filter.mp h
  obtain ⟨i, hi, rfl⟩ := List.mem_map.mp h1
  have := List.mem_range.mp hi
  refine ⟨by omega, by omega, fun z => ?_⟩
  rw [z] at h2
  simp at h2
theorem cand_nil {M : Mat} {N a c : Nat} (h : cand M N a c = []) : ∀ i, a ≤ i → i < N → M i c = 0 := by
  intro i h1 h2
  unfold cand at h
  have h3 := List.filter_eq_nil_iff.mp h i (List.mem_map.mpr ⟨i - a, List.mem_range.mpr (by omega), by omega⟩)
  simpa using h3
/-- what stands behind a step, at an entry -/
theorem elim_row {N : Nat} {M : Mat} {a b c : Nat} (j : Nat) : elim N M a b c a j = M b j / M b c := by
  simp [elim, lowM, scaleM, swapM]
theorem elim_other {N : Nat} {M : Mat} {a b c i : Nat} (hi : i ≠ a) (hN : i < N) (j : Nat) : elim N M a b c i j = swapM M a b i j - swapM M a b i c * (M b j / M b c) := by
  have : ¬ N ≤ i := by omega
  simp [elim, lowM, scaleM, hi, this]
  simp [swapM]
/-- sums backwards -/
theorem elim_back {N W : Nat} {M : Mat} {a b c : Nat} (ha : a ≤ b) (hb : b < N) (h0 : M b c ≠ 0) (z : Nat → Rat) : ∃ z' : Nat → Rat, ((∀ i, z i = 0) → ∀ i, z' i = 0) ∧ ∀ t : Nat → Rat, (∀ i < N, dot W (elim N M a b c i) t = z' i) → ∀ i < N, dot W (M i) t = z i := by
  let z1 : Nat → Rat := fun i => if i = a then z b else if i = b then z a else z i
  refine ⟨fun i => if i = a then z1 a / M b c else z1 i - swapM M a b i c * (z1 a / M b c), fun h i => ?_, fun t h => ?_⟩
  · have e : ∀ i, z1 i = 0 := fun i => by
      show (if i = a then z b else if i = b then z a else z i) = 0
      rw [h, h, h]
      simp
    show (if i = a then z1 a / M b c else z1 i - swapM M a b i c * (z1 a / M b c)) = 0
    rw [e, e]
    split <;> grind
  · have hA : dot W (M b) t = z1 a := by
      have := h a (by omega)
      simp only [if_pos] at this
      rw [show elim N M a b c a = fun j => M b j / M b c from funext fun j => elim_row j, dot_div] at this
      grind
    have hB : ∀ i < N, dot W (swapM M a b i) t = z1 i := fun i hi => by
      by_cases e : i = a
      · subst e
        have : swapM M i b i = M b := by simp [swapM]
        rw [this]
        exact hA
      · have h1 : dot W (elim N M a b c i) t = if i = a then z1 a / M b c else z1 i - swapM M a b i c * (z1 a / M b c) := h i hi
        rw [if_neg e, show elim N M a b c i = fun j => swapM M a b i j - swapM M a b i c * (M b j / M b c) from funext fun j => elim_other e hi j, dot_low, dot_div, hA] at h1
        grind
    intro i hi
    by_cases e : i = b
    · subst e
      have := hA
      simp only [z1, if_pos] at this
      exact this
    · by_cases e2 : i = a
      · subst e2
        have h3 := hB b hb
        have e3 : ¬ b = i := fun q => e q.symm
        have e4 : swapM M i b b = M i := by
          unfold swapM
          rw [if_neg e3, if_pos rfl]
        have e5 : z1 b = z i := by
          show (if b = i then z b else if b = b then z i else z b) = z i
          rw [if_neg e3, if_pos rfl]
        rw [e4, e5] at h3
        exact h3
      · have := hB i hi
        simp only [z1, swapM, if_neg e2, if_neg e] at this
        exact this
def Back (N W : Nat) (M M' : Mat) : Prop := ∀ z : Nat → Rat, ∃ z' : Nat → Rat, ((∀ i, z i = 0) → ∀ i, z' i = 0) ∧ ∀ t : Nat → Rat, (∀ i < N, dot W (M' i) t = z' i) → ∀ i < N, dot W (M i) t = z i
theorem Back.refl (N W : Nat) (M : Mat) : Back N W M M := fun z => ⟨z, fun h => h, fun _ h => h⟩
theorem Back.trans {N W : Nat} {M M1 M2 : Mat} (a : Back N W M M1) (b : Back N W M1 M2) : Back N W M M2 := fun z => by
  obtain ⟨z1, h1, h2⟩ := a z
  obtain ⟨z2, h3, h4⟩ := b z1
  exact ⟨z2, fun h => h3 (h1 h), fun t h => h2 t (h4 t h)⟩
theorem Back.zero {N W : Nat} {M M' : Mat} (a : Back N W M M') {t : Nat → Rat} (h : ∀ i < N, dot W (M' i) t = 0) : ∀ i < N, dot W (M i) t = 0 := by
  obtain ⟨z', h1, h2⟩ := a fun _ => 0
  exact h2 t fun i hi => by rw [h i hi, h1 (fun _ => rfl) i]
/-- what holds behind c columns -/
structure Rf (N c : Nat) (st : Mat × List Nat) : Prop where
  len : st.2.length ≤ N
  lt : ∀ p ∈ st.2, p < c
  un : ∀ t p, st.2[t]? = some p → ∀ i < N, st.1 i p = if i = t then 1 else 0
  zr : ∀ i, st.2.length ≤ i → i < N → ∀ j < c, st.1 i j = 0
theorem Rf.step {N c : Nat} {st : Mat × List Nat} (h : Rf N c st) : Rf N (c + 1) (redStep N st c) := by
  unfold redStep
  split
  · rename_i e
    refine ⟨h.len, fun p hp => Nat.lt_succ_of_lt (h.lt p hp), h.un, fun i h1 h2 j hj => ?_⟩
    by_cases e2 : j = c
    · subst e2
      exact cand_nil e i h1 h2
    · exact h.zr i h1 h2 j (by omega)
  · rename_i b l e
    obtain ⟨h1, h2, h3⟩ := cand_mem (M := st.1) (N := N) (a := st.2.length) (c := c) (b := b) (by rw [e]; exact List.mem_cons_self ..)
    have hz : ∀ j < c, st.1 b j = 0 := fun j hj => h.zr b h1 h2 j hj
    have sw : ∀ i < N, ∀ j < c, i ≠ st.2.length → swapM st.1 st.2.length b i j = st.1 i j := fun i hi j hj hne => by
      simp only [swapM, if_neg hne]
      by_cases e3 : i = b
      · subst e3
        rw [if_pos rfl, h.zr _ (Nat.le_refl _) (by omega) j hj, hz j hj]
      · rw [if_neg e3]
    refine ⟨?_, ?_, ?_, ?_⟩
    · rw [List.length_append]
      simp
      omega
    · intro p hp
      rcases List.mem_append.mp hp with hp | hp
      · exact Nat.lt_succ_of_lt (h.lt p hp)
      · simp at hp
        omega
    · intro t p hp i hi
      show elim N st.1 st.2.length b c i p = _
      by_cases ht : t < st.2.length
      · rw [List.getElem?_append_left ht] at hp
        have hpc := h.lt p (List.mem_of_getElem? hp)
        by_cases ei : i = st.2.length
        · subst ei
          rw [elim_row, hz p hpc, if_neg (by omega)]
          grind
        · rw [elim_other ei hi, sw i hi p hpc ei, hz p hpc, h.un t p hp i hi]
          grind
      · have ht2 : t = st.2.length := by
          have := (List.getElem?_eq_some_iff.mp hp).1
          rw [List.length_append] at this
          simp at this
          omega
        subst ht2
        rw [List.getElem?_append_right (Nat.le_refl _)] at hp
        simp at hp
        subst hp
        by_cases ei : i = st.2.length
        · subst ei
          rw [elim_row, if_pos rfl]
          grind
        · rw [elim_other ei hi, if_neg ei]
          grind
    · intro i hi1 hi2 j hj
      rw [List.length_append] at hi1
      simp at hi1
      show elim N st.1 st.2.length b c i j = 0
      have ei : i ≠ st.2.length := by omega
      rw [elim_other ei hi2]
      by_cases e2 : j = c
      · subst e2
        grind
      · rw [sw i hi2 j (by omega) ei, h.zr i (by omega) hi2 j (by omega), hz j (by omega)]
        grind
theorem red_rf (N : Nat) (M : Mat) : ∀ W, Rf N W (red N M W)
  | 0 => ⟨Nat.zero_le _, fun p hp => (by cases hp), fun t p h => (by cases h), fun i _ _ j hj => absurd hj (Nat.not_lt_zero j)⟩
  | W + 1 => by
    rw [red_succ]
    exact (red_rf N M W).step
theorem step_back {N W c : Nat} {st : Mat × List Nat} : Back N W st.1 (redStep N st c).1 := by
  unfold redStep
  split
  · exact Back.refl _ _ _
  · rename_i b l e
    obtain ⟨h1, h2, h3⟩ := cand_mem (M := st.1) (N := N) (a := st.2.length) (c := c) (b := b) (by rw [e]; exact List.mem_cons_self ..)
    exact fun z => elim_back h1 h2 h3 z
theorem red_back (N W : Nat) (M : Mat) : ∀ c, Back N W M (red N M c).1
  | 0 => Back.refl _ _ _
  | c + 1 => by
    rw [red_succ]
    exact (red_back N W M c).trans step_back
/-- full rank: every goal is met -/
theorem red_onto {N W : Nat} {M : Mat} (h : (red N M W).2.length = N) (z : Nat → Rat) : ∃ t, ∀ i < N, dot W (M i) t = z i := by
  have hR := red_rf N M W
  obtain ⟨z', _, h2⟩ := red_back N W M W z
  -- the columns' numbers, met
  have key : ∀ k, k ≤ N → ∃ t : Nat → Rat, ∀ i < N, dot W ((red N M W).1 i) t = if i < k then z' i else 0 := by
    intro k
    induction k with
    | zero => exact fun _ => ⟨fun _ => 0, fun i _ => by rw [dot_zeroR fun _ _ => rfl]; simp⟩
    | succ k ih =>
      intro hk
      obtain ⟨t, ht⟩ := ih (by omega)
      have hp := List.getElem?_eq_getElem (l := (red N M W).2) (i := k) (by omega)
      have hpW := hR.lt _ (List.mem_of_getElem? hp)
      have hun := hR.un k _ hp
      generalize (red N M W).2[k] = p at hp hpW hun
      refine ⟨fun j => t j + if j = p then z' k else 0, fun i hi => ?_⟩
      have e : ∀ n (x : Nat → Rat), dot n x (fun j => t j + if j = p then z' k else 0) = dot n x t + if p < n then x p * z' k else 0 := fun n x => by
        induction n with
        | zero =>
          unfold dot
          rw [if_neg (Nat.not_lt_zero p)]
          grind
        | succ n ih =>
          unfold dot
          rw [ih]
          by_cases e1 : n = p
          · subst e1
            rw [if_neg (Nat.lt_irrefl _), if_pos rfl, if_pos (Nat.lt_succ_self _)]
            grind
          · rw [if_neg e1]
            by_cases e2 : p < n
            · rw [if_pos e2, if_pos (by omega)]
              grind
            · rw [if_neg e2, if_neg (by omega)]
              grind
      rw [e, ht i hi, if_pos hpW, hun i hi]
      by_cases e1 : i = k
      · subst e1
        rw [if_neg (Nat.lt_irrefl _), if_pos rfl, if_pos (Nat.lt_succ_self _)]
        grind
      · rw [if_neg e1]
        by_cases e2 : i < k
        · rw [if_pos e2, if_pos (by omega)]
          grind
        · rw [if_neg e2, if_neg (by omega)]
          grind
  obtain ⟨t, ht⟩ := key N (Nat.le_refl _)
  exact ⟨t, h2 t fun i hi => by rw [ht i hi, if_pos hi]⟩
def Inj (N n : Nat) (M : Mat) : Prop := ∀ d : Nat → Rat, (∀ i < N, dot n (M i) d = 0) → ∀ j < n, d j = 0
theorem inj_piv {N n : Nat} {M : Mat} (h : Inj N n M) : ∀ c, c ≤ n → (red N M c).2 = List.range c
  | 0, _ => rfl
  | c + 1, hc => by
    have ih := inj_piv h c (by omega)
    have hR := red_rf N M c
    rw [red_succ]
    unfold redStep
    split
    · rename_i e
      exfalso
      have hlen : (red N M c).2.length = c := by rw [ih, List.length_range]
      let d : Nat → Rat := fun j => if j = c then 1 else if j < c then -(red N M c).1 j c else 0
      have hk : ∀ i < N, dot n ((red N M c).1 i) d = 0 := fun i hi => by
        rw [dot_longer (m := c + 1) hc (fun j h1 h2 => by show (if j = c then (1 : Rat) else if j < c then -(red N M c).1 j c else 0) = 0; rw [if_neg (by omega), if_neg (by omega)])]
        unfold dot
        have hd : d c = 1 := by show (if c = c then (1 : Rat) else _) = 1; rw [if_pos rfl]
        rw [hd]
        by_cases hic : i < c
        · rw [dot_unit (i := i) (fun j hj => hR.un j j (by rw [ih, List.getElem?_range hj]) i hi), if_pos hic]
          have : d i = -(red N M c).1 i c := by show (if i = c then (1 : Rat) else if i < c then -(red N M c).1 i c else 0) = _; rw [if_neg (by omega), if_pos hic]
          rw [this]
          grind
        · rw [dot_zeroL (fun j hj => hR.zr i (by omega) hi j hj), cand_nil e i (by omega) hi]
          grind
      have := h d ((red_back N n M c).zero hk) c (by omega)
      have hd : d c = 1 := by show (if c = c then (1 : Rat) else _) = 1; rw [if_pos rfl]
      rw [hd] at this
      exact absurd this (by decide)
    · show (red N M c).2 ++ [c] = _
      rw [ih, List.range_succ]
/-- the table with a goal as its last column -/
theorem inj_solve {n : Nat} {M : Mat} (h : Inj n n M) : (red n M (n + 1)).2 = List.range n ∧ ∀ i < n, dot n (M i) (fun j => (red n M (n + 1)).1 j n) = M i n := by
  have ih := inj_piv h n (Nat.le_refl _)
  have hR := red_rf n M n
  have e : red n M (n + 1) = red n M n := by
    rw [red_succ]
    unfold redStep
    have : cand (red n M n).1 n (red n M n).2.length n = [] := by
      rw [ih, List.length_range]
      simp [cand]
    rw [this]
  rw [e]
  refine ⟨ih, ?_⟩
  have hB := (red_back n (n + 1) M n).zero (t := fun j => if j < n then (red n M n).1 j n else -1) fun i hi => by
    unfold dot
    rw [dot_unit (i := i) (fun j hj => hR.un j j (by rw [ih, List.getElem?_range hj]) i hi), if_pos hi, if_pos hi, if_neg (Nat.lt_irrefl _)]
    grind
  intro i hi
  have h1 := hB i hi
  unfold dot at h1
  rw [if_neg (Nat.lt_irrefl _)] at h1
  rw [dot_congr (x' := M i) (y' := fun j => (red n M n).1 j n) (fun _ _ => rfl) (fun j hj => if_pos hj)] at h1
  grind
def CmE (b : Nat) (D : Int) (q : Rat) : Prop := ∃ n : Int, q * (D : Rat) = (n : Rat) ∧ n.natAbs < 2 ^ b
def Cm (b : Nat) (M : Mat) : Prop := ∃ D : Int, D ≠ 0 ∧ D.natAbs < 2 ^ b ∧ ∀ i j, CmE b D (M i j)
theorem two_mul_pow {x y b : Nat} (h : x < 2 ^ b) (h' : y < 2 ^ b) : x * y < 2 ^ (2 * b) := by
  rw [Nat.two_mul, Nat.pow_add]
  exact Nat.mul_lt_mul'' h h'
theorem pow_up {x a b : Nat} (h : x < 2 ^ a) (l : a ≤ b) : x < 2 ^ b := Nat.lt_of_lt_of_le h (Nat.pow_le_pow_right (by decide) l)
theorem Cm.mono {b c : Nat} {M : Mat} (h : Cm b M) (l : b ≤ c) : Cm c M := by
  obtain ⟨D, h1, h2, h3⟩ := h
  refine ⟨D, h1, pow_up h2 l, fun i j => ?_⟩
  obtain ⟨n, h4, h5⟩ := h3 i j
  exact ⟨n, h4, pow_up h5 l⟩
theorem Cm.low {b : Nat} {M : Mat} {a r c : Nat} (h : Cm b M) (h0 : M r c ≠ 0) (k : Nat) : Cm (2 * b + 1) (lowM (scaleM (swapM M a r) a c) a c k) := by
  obtain ⟨D, h1, h2, h3⟩ := h
  obtain ⟨n0, e0, l0⟩ := h3 r c
  have hD : (D : Rat) ≠ 0 := fun z => h1 (by simpa using z)
  have hn : (n0 : Rat) ≠ 0 := fun z => by
    rw [z] at e0
    grind
  have hn0 : n0 ≠ 0 := fun z => hn (by rw [z]; rfl)
  have mul : ∀ {x y : Int}, x.natAbs < 2 ^ b → y.natAbs < 2 ^ b → (x * y).natAbs < 2 ^ (2 * b) := fun hx hy => by
    rw [Int.natAbs_mul]
    exact two_mul_pow hx hy
  have sw : ∀ i j, CmE b D (swapM M a r i j) := fun i j => by
    unfold swapM
    split
    · exact h3 r j
    · split
      · exact h3 a j
      · exact h3 i j
  have swr : swapM M a r a = M r := by simp [swapM]
  refine ⟨D * n0, Int.mul_ne_zero h1 hn0, pow_up (mul h2 l0) (by omega), fun i j => ?_⟩
  have eD : ((D * n0 : Int) : Rat) = (D : Rat) * (n0 : Rat) := Rat.intCast_mul D n0
  unfold CmE
  rw [eD]
  obtain ⟨p, e1, l1⟩ := sw i j
  obtain ⟨q, e2, l2⟩ := sw i c
  obtain ⟨t, e3, l3⟩ := h3 r j
  by_cases hi : i = a
  · refine ⟨t * D, ?_, pow_up (mul l3 h2) (by omega)⟩
    have : lowM (scaleM (swapM M a r) a c) a c k i j = M r j / M r c := by
      subst hi
      simp [lowM, scaleM, swr]
    rw [this, Rat.intCast_mul]
    grind
  · by_cases hk : k ≤ i
    · refine ⟨p * n0, ?_, pow_up (mul l1 l0) (by omega)⟩
      have : lowM (scaleM (swapM M a r) a c) a c k i j = swapM M a r i j := by
        simp [lowM, scaleM, hi, hk]
      rw [this, Rat.intCast_mul]
      grind
    · refine ⟨p * n0 - q * t, ?_, ?_⟩
      · have : lowM (scaleM (swapM M a r) a c) a c k i j = swapM M a r i j - swapM M a r i c * (M r j / M r c) := by
          simp [lowM, scaleM, hi, hk, swr]
        rw [this, Rat.intCast_sub, Rat.intCast_mul, Rat.intCast_mul]
        grind
      · have m1 := mul l1 l0
        have m2 := mul l2 l3
        have := Int.natAbs_sub_le (p * n0) (q * t)
        rw [Nat.pow_succ]
        omega
theorem red_cm {N b : Nat} {M : Mat} (h : Cm b M) : ∀ c, ∃ b', b' + 1 = (b + 1) * 2 ^ (red N M c).2.length ∧ Cm b' (red N M c).1
  | 0 => ⟨b, by simp [red], h⟩
  | c + 1 => by
    obtain ⟨b', h1, h2⟩ := red_cm h c
    rw [red_succ]
    unfold redStep
    split
    · exact ⟨b', h1, h2⟩
    · rename_i r l e
      obtain ⟨_, _, h3⟩ := cand_mem (M := (red N M c).1) (N := N) (a := (red N M c).2.length) (c := c) (b := r) (by rw [e]; exact List.mem_cons_self ..)
      refine ⟨2 * b' + 1, ?_, h2.low h3 N⟩
      rw [List.length_append]
      show _ = (b + 1) * 2 ^ ((red N M c).2.length + 1)
      rw [Nat.pow_succ, ← Nat.mul_assoc, ← h1]
      omega
theorem red_cmN {N b : Nat} {M : Mat} (h : Cm b M) (c : Nat) : Cm ((b + 1) * 2 ^ N) (red N M c).1 := by
  obtain ⟨b', h1, h2⟩ := red_cm (N := N) h c
  refine h2.mono ?_
  have := Nat.mul_le_mul_left (b + 1) (Nat.pow_le_pow_right (n := 2) (by decide) (red_rf N M c).len)
  omega
/-- .. and within a step -/
theorem red_cmL {N b : Nat} {M : Mat} (h : Cm b M) (c : Nat) {r : Nat} {l : List Nat} (e : cand (red N M c).1 N (red N M c).2.length c = r :: l) (k : Nat) : Cm ((b + 1) * 2 ^ N) (lowM (scaleM (swapM (red N M c).1 (red N M c).2.length r) (red N M c).2.length c) (red N M c).2.length c k) := by
  obtain ⟨b', h1, h2⟩ := red_cm (N := N) h c
  obtain ⟨g1, g2, h3⟩ := cand_mem (M := (red N M c).1) (N := N) (a := (red N M c).2.length) (c := c) (b := r) (by rw [e]; exact List.mem_cons_self ..)
  refine (h2.low h3 k).mono ?_
  have hp : 2 ^ ((red N M c).2.length + 1) ≤ 2 ^ N := Nat.pow_le_pow_right (by decide) (by omega)
  have := Nat.mul_le_mul_left (b + 1) hp
  rw [Nat.pow_succ, ← Nat.mul_assoc, ← h1] at this
  omega
end BW

namespace BW
open PySem PySem.Spec PyProof.Rows L2
/-! ### shapes of data by depth -/
def shk (k : Nat) (d : PyData) : Bool := d.canLay0 && (noD d && decide (d.depth ≤ k))
theorem shk_e {k : Nat} {d : PyData} : shk k d = true ↔ d.canLay0 = true ∧ noD d = true ∧ d.depth ≤ k := by
  unfold shk
  rw [Bool.and_eq_true, Bool.and_eq_true, decide_eq_true_eq]
theorem shk_all {k : Nat} : ∀ {xs : List PyData}, (∀ x ∈ xs, shk k x = true) → PyData.canLayAll0 xs = true ∧ noDA xs = true ∧ PyData.depthAll xs ≤ k
  | [], _ => ⟨by simp [PyData.canLayAll0], by simp [noDA], by simp [PyData.depthAll]⟩
  | x :: xs, h => by
    obtain ⟨a, b, c⟩ := shk_e.mp (h x (List.mem_cons_self ..))
    obtain ⟨a', b', c'⟩ := shk_all fun y hy => h y (List.mem_cons_of_mem _ hy)
    refine ⟨by simp [PyData.canLayAll0, a, a'], by simp [noDA, b, b'], ?_⟩
    simp only [PyData.depthAll]
    omega
theorem shk_lst {k : Nat} {xs : List PyData} (h : ∀ x ∈ xs, shk k x = true) : shk (k + 1) (.list xs) = true := by
  obtain ⟨a, b, c⟩ := shk_all h
  exact shk_e.mpr ⟨by simpa [PyData.canLay0] using a, by simpa [noD] using b, by simp only [PyData.depth]; omega⟩
theorem shk_tup {k : Nat} {xs : List PyData} (h : ∀ x ∈ xs, shk k x = true) : shk (k + 1) (.tuple xs) = true := by
  obtain ⟨a, b, c⟩ := shk_all h
  exact shk_e.mpr ⟨by simpa [PyData.canLay0] using a, by simpa [noD] using b, by simp only [PyData.depth]; omega⟩
theorem shk_int {k : Nat} (i : Int) : shk k (.int i) = true := shk_e.mpr ⟨by simp [PyData.canLay0], by simp [noD], by simp [PyData.depth]⟩
theorem shk_rt {k : Nat} (q : Rat) : shk (k + 1) (rt q) = true := shk_tup fun x hx => by
  simp only [List.mem_cons, List.not_mem_nil, or_false] at hx
  rcases hx with rfl | rfl <;> exact shk_int _
theorem shk_up {k : Nat} {d : PyData} (h : shk k d = true) (l : k ≤ 64) : shp d = true := by
  obtain ⟨a, b, c⟩ := shk_e.mp h
  unfold shp SeqAt.shaped
  rw [a, b, decide_eq_true (by omega : d.depth ≤ 64)]
  rfl
theorem shk_map {α : Type} {k : Nat} {xs : List α} {g : α → PyData} (h : ∀ x, shk k (g x) = true) : shk (k + 1) (.list (xs.map g)) = true := shk_lst fun y hy => by
  obtain ⟨x, _, rfl⟩ := List.mem_map.mp hy
  exact h x
section
variable {X : Cx} {ρ : Rho} {μ : Mu} {P : PR}
/-- a list of our own, compared -/
theorem own_dp {R F H : Hp} {as : List Addr} {σ : L2.St} {n : Nat} {ds : List PyData} {v : V} (S : Sta X.K R F H as σ ρ μ) (hn : μ[n]? = some (.L (ds.map Rv.dat))) (o : ROk X.K F as v (.own n)) : Rp X.K H v (.list ds) := by
  obtain ⟨a, ha, rfl⟩ := o
  obtain ⟨vs, e1, e2, e3, e4⟩ := S.cel n a _ ha hn
  exact .lst (.inl (.inl e1)) ((rpA_of e4).mono (Gw.of S.fh))
theorem opd_neO {n : Nat} {ds : List PyData} {e : PyData} (hn : μ[n]? = some (.L (ds.map Rv.dat))) (hd : shp (.list ds) = true) (he : shp e = true) (h : P μ (.dat (.bool (!PyData.eqv (.list ds) e)))) : OpD X ρ (rNeD X.K) μ (.own n) (.dat e) P := fun R F H as σ y z S o1 o2 Q q =>
  ⟨.list ds, e, (own_dp S hn o1).dp (shp1 hd).2, (S.rp o2).dp (shp1 he).2, (shp1 hd).1, (shp1 he).1, q _ F H as μ (.dat (.bool _)) S (Ext.refl F as) (okD (.bl _)) h⟩
theorem opd_eqO {n : Nat} {ds : List PyData} {e : PyData} (hn : μ[n]? = some (.L (ds.map Rv.dat))) (hd : shp (.list ds) = true) (he : shp e = true) (h : P μ (.dat (.bool (PyData.eqv (.list ds) e)))) : OpD X ρ (rEqD X.K) μ (.own n) (.dat e) P := fun R F H as σ y z S o1 o2 Q q =>
  ⟨.list ds, e, (own_dp S hn o1).dp (shp1 hd).2, (S.rp o2).dp (shp1 he).2, (shp1 hd).1, (shp1 he).1, q _ F H as μ (.dat (.bool _)) S (Ext.refl F as) (okD (.bl _)) h⟩
end
theorem eqv_nil (ds : List PyData) : PyData.eqv (.list ds) (.list []) = decide (ds = []) := by
  cases ds with
  | nil => rfl
  | cons x xs => simp [PyData.eqv, PyData.eqvAll]
theorem map_set {α : Type} {N k : Nat} {g g' : Nat → α} (hk : k < N) (h : ∀ i < N, i ≠ k → g' i = g i) : ((List.range N).map g).set k (g' k) = (List.range N).map g' := by
  apply List.ext_getElem
  · simp
  · intro i h1 h2
    have hi : i < N := by simpa using h2
    by_cases e : k = i
    · subst e
      simp
    · rw [List.getElem_set_ne e]
      simp
      exact (h i hi fun q => e q.symm).symm
theorem rangeD_map (a n : Nat) : rangeD (a : Int) n = ((List.range n).map fun i => a + i).map fun i => .int (i : Nat) := by
  unfold rangeD
  rw [List.map_map]
  apply List.map_congr_left
  intro i _
  simp
theorem CmE.bd {b : Nat} {D : Int} {q : Rat} (hD : D ≠ 0) (l : D.natAbs < 2 ^ b) (h : CmE b D q) : Bd b q := by
  obtain ⟨n, e, hn⟩ := h
  have hD' : (D : Rat) ≠ 0 := fun z => hD (by simpa using z)
  have : q = Rat.divInt n D := by
    rw [Rat.divInt_eq_div, ← e]
    grind
  rw [this]
  exact Bd.div hD hn l
theorem Cm.bd {b : Nat} {M : Mat} (h : Cm b M) (i j : Nat) : Bd b (M i j) := by
  obtain ⟨D, h1, h2, h3⟩ := h
  exact (h3 i j).bd h1 h2
end BW

namespace BW
open PySem PySem.Spec PyProof.Rows L2
section
variable {P : Program} {w : World} {K : PySem.W.Frag} {mg : Str → Option Value} {base : Heap}
abbrev rowD (M : Mat) (W i : Nat) : PyData := .list (eD (M i) W)
def rowsL (M : Mat) (N W : Nat) : List PyData := (List.range N).map fun i => rowD M W i
abbrev rowsR (M : Mat) (N W : Nat) : List Rv := (rowsL M N W).map Rv.dat
abbrev pvL (ps : List Nat) : List PyData := ps.map fun p => .int (p : Nat)
theorem rowsL_len (M : Mat) (N W : Nat) : (rowsL M N W).length = N := by simp [rowsL]
theorem rowsR_at {M : Mat} {N W i : Nat} (h : i < N) : atI (rowsR M N W) (i : Int) = some (.dat (rowD M W i)) := by
  apply atI_nat
  rw [List.getElem?_map, rowsL, List.getElem?_map, List.getElem?_range h]
  rfl
theorem rowsR_ix {M : Mat} {N W i : Nat} (h : i < N) : ixN (rowsR M N W).length (i : Int) = some i := by
  have e : (rowsR M N W).length = N := by simp [rowsL]
  rw [e]
  unfold ixN
  rw [if_pos (by omega), if_pos (by omega)]
  rfl
theorem rows_set {M M' : Mat} {N W k : Nat} (hk : k < N) (h : ∀ i < N, i ≠ k → M' i = M i) : (rowsR M N W).set k (.dat (rowD M' W k)) = rowsR M' N W := by
  unfold rowsR rowsL
  rw [List.map_map, List.map_map]
  exact map_set (g' := Rv.dat ∘ fun i => rowD M' W i) hk fun i hi hne => by
    show Rv.dat (rowD M' W i) = Rv.dat (rowD M W i)
    unfold rowD
    rw [h i hi hne]
theorem rows_shp (M : Mat) (N W : Nat) : shp (.list (rowsL M N W)) = true := shk_up (k := 3) (shk_map fun i => shk_map fun j => shk_rt _) (by decide)
def redD (N : Nat) (M : Mat) (W : Nat) : PyData := .tuple [.list (rowsL (red N M W).1 (red N M W).2.length W), .list (pvL (red N M W).2)]
def tf_reduced : Tf := fun ds G => ∃ (M : Mat) (N W b : Nat), ds = [matD M N W] ∧ Cm b M ∧ N ≤ 100 ∧ W ≤ 100 ∧ (b + 1) * 2 ^ N ≤ 1000000 ∧ G (redD N M W)
theorem take_rows {M : Mat} {k N W : Nat} (h : k ≤ N) : cutD (rowsL M N W) none (some (k : Int)) = rowsL M k W := by
  unfold cutD
  rw [HT.sIx_none, HT.sIx_nat, rowsL_len, List.drop_zero, Nat.sub_zero, Nat.min_eq_left h]
  unfold rowsL
  rw [← List.map_take, List.take_range, Nat.min_eq_left h]
theorem ixp_o {X : Cx} {ρ : Rho} {μ : Mu} {Q : PR} {n : Nat} {rs : List Rv} {r : Rv} {i : Int} (hm : μ[n]? = some (.L rs)) (h : atI rs i = some r) (q : Q μ r) : IxP X ρ μ (.own n) i Q := Or.inl ⟨rs, r, hm, h, q⟩
theorem at0 {α : Type} (x : α) (xs : List α) : atI (x :: xs) 0 = some x := atI_nat (i := 0) rfl
theorem im_imp {X : Cx} {ρ : Rho} {μ : Mu} {tg it : Expr} {P Q : Mu → List PyData → Prop} (h : Im X ρ μ tg it P) (i : ∀ μ ds, P μ ds → Q μ ds) : Im X ρ μ tg it Q := fun R F H as σ S Rk q => h R F H as σ S Rk fun J F' H' as' μ' ds S' x y p => q J F' H' as' μ' ds S' x y (i μ' ds p)
theorem eD_len (x : Nat → Rat) (n : Nat) : (eD x n).length = n := by simp [eD]
theorem rows_swap {M : Mat} {N W a b : Nat} (ha : a < N) (hb : b < N) : ((rowsR M N W).set a (.dat (rowD M W b))).set b (.dat (rowD M W a)) = rowsR (swapM M a b) N W := by
  unfold rowsR rowsL
  rw [List.map_map, List.map_map]
  apply List.ext_getElem
  · simp
  · intro i h1 h2
    have hi : i < N := by simpa using h2
    simp only [List.getElem_set, List.getElem_map, List.getElem_range, Function.comp]
    by_cases e1 : b = i
    · subst e1
      rw [if_pos rfl]
      by_cases e2 : b = a
      · subst e2
        simp [swapM, rowD]
      · simp [swapM, rowD, e2]
    · rw [if_neg e1]
      by_cases e2 : a = i
      · subst e2
        simp [swapM, rowD]
      · have e3 : ¬ i = a := fun q => e2 q.symm
        have e4 : ¬ i = b := fun q => e1 q.symm
        simp [swapM, rowD, e2, e3, e4]
theorem low_zero (M : Mat) (a c : Nat) : lowM M a c 0 = M := by
  funext i j
  simp [lowM]
theorem low_at {M : Mat} {a c k : Nat} (j : Nat) : lowM M a c k k j = M k j := by simp [lowM]
theorem low_a {M : Mat} {a c k : Nat} (j : Nat) : lowM M a c k a j = M a j := by simp [lowM]
theorem low_next {M : Mat} {a c k : Nat} {N W : Nat} (hk : k < N) (h : k ≠ a) : (rowsR (lowM M a c k) N W).set k (.dat (.list (eD (fun j => lowM M a c k k j - lowM M a c k k c * lowM M a c k a j) W))) = rowsR (lowM M a c (k + 1)) N W := by
  rw [← rows_set (M := lowM M a c k) (M' := lowM M a c (k + 1)) hk]
  · have : ∀ j, lowM M a c (k + 1) k j = lowM M a c k k j - lowM M a c k k c * lowM M a c k a j := fun j => by
      rw [low_at, low_at, low_a]
      have h1 : ¬ k + 1 ≤ k := by omega
      simp [lowM, h, h1]
    unfold rowD
    rw [show lowM M a c (k + 1) k = _ from funext this]
  · intro i _ hne
    funext j
    simp only [lowM]
    have : (k + 1 ≤ i) ↔ (k ≤ i) := by omega
    simp only [this]
theorem low_skip {M : Mat} {a c k : Nat} {N W : Nat} (hk : k < N) (h : k = a ∨ M k c = 0) : rowsR (lowM M a c k) N W = rowsR (lowM M a c (k + 1)) N W := by
  have : lowM M a c (k + 1) = lowM M a c k := by
    funext i j
    simp only [lowM]
    by_cases e : i = k
    · subst e
      rcases h with h | h
      · simp [h]
      · rw [h]
        by_cases e2 : i = a
        · simp [e2]
        · simp [e2]
          grind
    · have : (k + 1 ≤ i) ↔ (k ≤ i) := by omega
      simp only [this]
  rw [this]
theorem can_reduced (T : Txt K mg) (c_over : Can P w K mg base "over" 42 p_over (PureSp K tf_over)) (c_lowered : Can P w K mg base "lowered" 44 p_lowered (PureSp K tf_lowered)) : Can P w K mg base "reduced" 45 p_reduced (PureSp K tf_reduced) := by
  refine can_pure 14 T sc_reduced (fun _ _ _ _ _ _ us hl => match us, hl with | [_], _ => rfl) (fun ds G h => by obtain ⟨M, N, W, b, rfl, _⟩ := h; rfl) fun fa cdv B outer s H E hr ds G h => ?_
  obtain ⟨M, N, W, bb, rfl, hM, hN, hW, hb, hG⟩ := h
  refine ds_tupA (js := [1, 2]) (n := 2) (am_cons (dm_lcO (own := [("row", 9)]) sc_reduced.nd (blkOk_by (by kernel_rfl)) (im_list (nm 0 (lm ?_)))))
  refine lc_mapL (List.range N) (fun i => rowD M W i) (fun i => rowD M W i) (by rw [List.length_range]; omega) (fun i hi b => gj_name (i := 9) sc_reduced.nd rfl (fun b => dm_list rfl T.b_list (nm 9 ⟨_, .lst, rfl, rfl⟩))) ?_
  refine am_cons (dm_lstO (am_nil ⟨by simp, am_nil ⟨rfl, by decide, gjr_cons (gj_name (i := 1) sc_reduced.nd rfl (gjr_cons (gj_name (i := 2) sc_reduced.nd rfl (gjr_nil ?_))))⟩⟩))
  refine ds_for PassesOwn.never (im_imp (P := fun μ' ds => μ' = [.L (rowsR M N W), .L []] ∧ ds = rangeD 0 (if N = 0 then 0 else W)) (im_range1 rfl T.b_range (dm_if (tm_cmp (op_neD (Nat.lt_of_succ_lt (u65 hr))) (nomark _) (nm 1 (dm_lst (an ⟨by simp, opd_neO (ds := rowsL M N W) rfl (rows_shp M N W) (by rfl) (bm ⟨fun hk => ?_, fun hk => ?_⟩)⟩)))))) ?_)
  · have hN0 : N ≠ 0 := fun z => by
      subst z
      rw [eqv_nil] at hk
      simp [rowsL] at hk
    refine dm_len rfl T.b_len (dm_ix (nm 1 (dm_int (im (ixp_o (n := 0) rfl (rowsR_at (i := 0) (by omega)) ⟨_, .dat rfl, ?_⟩)))))
    rw [List.length_map, eD_len, if_neg hN0]
    exact im ⟨by omega, by omega, rfl, by rw [Int.toNat_natCast]⟩
  · have hN0 : N = 0 := by
      rw [eqv_nil] at hk
      simpa [rowsL] using hk
    rw [if_pos hN0]
    exact dm_int (im ⟨by decide, by decide, rfl, rfl⟩)
  rintro μ' ds ⟨rfl, rfl⟩
  refine ⟨fun i ρ μ => (∃ o3 o4 o5 o6 o7 o8 o9 o10, ρ = [some (.dat (matD M N W)), some (.own 0), some (.own 1), o3, o4, o5, o6, o7, o8, o9, o10]) ∧ μ = [.L (rowsR (red N M i).1 N W), .L ((pvL (red N M i).2).map Rv.dat)], ⟨⟨_, _, _, _, _, _, _, _, rfl⟩, rfl⟩, ?_, ?_⟩
  · rintro c d ρ μ hd ⟨⟨o3, o4, o5, o6, o7, o8, o9, o10, rfl⟩, rfl⟩
    have hcl := (List.getElem?_eq_some_iff.mp hd).1
    rw [rangeD_len] at hcl
    have hc : c < W := by
      split at hcl <;> omega
    rw [rangeD_get hcl, Int.zero_add] at hd
    obtain rfl := Option.some.inj hd
    have hR := red_rf N M c
    have hCm := red_cmN (N := N) hM c
    have hCmL := fun {r l} e k => red_cmL (N := N) hM c (r := r) (l := l) e k
    have hred := red_succ N M c
    generalize hst : red N M c = st at hR hCm hCmL hred ⊢
    have hkN := hR.len
    refine gm_name sc_reduced.nd (i := 3) rfl ?_
    refine ds_asg (dm_len rfl T.b_len (nm 2 ⟨_, .own rfl, ?_⟩))
    rw [List.length_map, List.length_map]
    refine gm_name sc_reduced.nd (i := 4) rfl ?_
    refine ds_setLc (own := [("place", 7)]) sc_reduced.nd (blkOk_by (by kernel_rfl)) (i := 5) rfl (im_range2 rfl T.b_range (nm 4 (im (dm_len rfl T.b_len (nm 1 ⟨_, .own rfl, ?_⟩)))))
    rw [List.length_map, rowsL_len]
    refine im ⟨by omega, by omega, by omega, by omega, ?_⟩
    rw [show ((N : Int) - (st.2.length : Int)).toNat = N - st.2.length from by omega, rangeD_map]
    refine lc_filt ((List.range (N - st.2.length)).map fun i => st.2.length + i) (fun i => .int (i : Nat)) (fun i => .int (i : Nat)) (fun i => !decide ((st.1 i c).num = 0)) (by simp; omega) (fun i hi b => gj_name (i := 7) sc_reduced.nd rfl (fun b => ?_)) (.inl ⟨_, rfl, ?_⟩)
    · have hiN : i < N := by
        obtain ⟨j, hj, rfl⟩ := List.mem_map.mp hi
        have := List.mem_range.mp hj
        omega
      refine tm_cmp op_ne (nomark _) (ixT (dm_ix (dm_ix (nm 1 (nm 7 (im (ixp_o (n := 0) rfl (rowsR_at hiN) (nm 3 (im ⟨rt _, eD_get hc, _, _, rfl, rfl, ?_⟩)))))))))
      exact dm_int (opd_neI (bm ⟨rfl, fun _ b => nm 7 ⟨rfl, rfl⟩, fun _ => rfl⟩))
    have hcand : ∀ i, i ∈ cand st.1 N st.2.length c → st.2.length ≤ i ∧ i < N ∧ st.1 i c ≠ 0 := fun i h => cand_mem h
    have hstep : redStep N st c = match cand st.1 N st.2.length c with
      | [] => st
      | b :: _ => (elim N st.1 st.2.length b c, st.2 ++ [c]) := rfl
    show Ds _ (List.set _ 5 (some (.dat (.list ((cand st.1 N st.2.length c).map fun i => .int (i : Nat)))))) _ _ _
    have hCmL' := fun r l e k => @hCmL r l e k
    clear hCmL
    generalize cand st.1 N st.2.length c = cs at hcand hstep hCmL' ⊢
    refine ds_if (tm_cmp (op_eqD (Nat.lt_of_succ_lt (u65 hr))) (nomark _) (nm 5 (dm_lst (an ⟨by simp, opd_eqD (shk_up (k := 1) (shk_map fun i => shk_int _) (by decide)) (by rfl) (bm ⟨fun hk => ?_, fun hk => ?_⟩)⟩))))
    · rw [eqv_nil] at hk
      have hk : cs = [] := by simpa using hk
      subst hk
      refine ds_cont ⟨⟨_, _, _, _, _, _, _, _, rfl⟩, ?_⟩
      rw [hred, hstep]
    · rw [eqv_nil] at hk
      have hk : cs ≠ [] := by simpa using hk
      obtain ⟨b, l, rfl⟩ := List.exists_cons_of_ne_nil hk
      obtain ⟨hb1, hb2, hb3⟩ := hcand b (List.mem_cons_self ..)
      have hkN' : st.2.length < N := by omega
      refine ds_nil ?_
      refine ds_tupA (js := []) (n := 2) (am_cons (dm_ix (nm 1 (dm_ix (nm 5 (dm_int (im (ixp_l (ds := (b :: l).map fun i => .int (i : Nat)) (d := .int (b : Nat)) (at0 _ _) (im (ixp_o (n := 0) rfl (rowsR_at hb2) ?_))))))))))
      refine am_cons (dm_ix (nm 1 (nm 4 (im (ixp_o (n := 0) rfl (rowsR_at hkN') (am_nil ⟨rfl, by decide, ?_⟩))))))
      refine gjr_cons (gj_sub (nm 1 (nm 4 (im ⟨0, _, _, rfl, rfl, rowsR_ix hkN', ?_⟩))))
      refine gjr_cons (gj_sub (nm 1 (dm_ix (nm 5 (dm_int (im (ixp_l (ds := (b :: l).map fun i => .int (i : Nat)) (d := .int (b : Nat)) (at0 _ _) (im ⟨0, _, b, rfl, rfl, ?_, gjr_nil ?_⟩))))))))
      · rw [List.length_set]
        exact rowsR_ix hb2
      show Ds _ _ [.L (((rowsR st.1 N W).set st.2.length (.dat (rowD st.1 W b))).set b (.dat (rowD st.1 W st.2.length))), _] _ _
      rw [rows_swap hkN' hb2]
      have hC1 : ∀ i j, Bd ((bb + 1) * 2 ^ N) (swapM st.1 st.2.length b i j) := fun i j => by
        unfold swapM
        split
        · exact hCm.bd b j
        · split
          · exact hCm.bd _ j
          · exact hCm.bd i j
      have hC2 : ∀ k i j, Bd ((bb + 1) * 2 ^ N) (lowM (scaleM (swapM st.1 st.2.length b) st.2.length c) st.2.length c k i j) := fun k i j => (hCmL' b l rfl k).bd i j
      have hlead : swapM st.1 st.2.length b st.2.length c ≠ 0 := by
        simp only [swapM, if_pos]
        exact hb3
      replace hstep : redStep N st c = (elim N st.1 st.2.length b c, st.2 ++ [c]) := hstep
      have hM3 : elim N st.1 st.2.length b c = lowM (scaleM (swapM st.1 st.2.length b) st.2.length c) st.2.length c N := rfl
      rw [hM3] at hstep
      generalize swapM st.1 st.2.length b = M1 at hC1 hC2 hlead hstep ⊢
      refine ds_asg (dm_ix (dm_ix (nm 1 (nm 4 (im (ixp_o (n := 0) rfl (rowsR_at hkN') (nm 3 (im ⟨_, eD_get hc, gm_name sc_reduced.nd (i := 6) rfl ?_⟩))))))))
      refine ds_asg (dm_lc (own := [("part", 10)]) sc_reduced.nd (blkOk_by (by kernel_rfl)) (im_list (dm_ix (nm 1 (nm 4 (im (ixp_o (n := 0) rfl (rowsR_at hkN') (lm ?_))))))))
      refine lc_mapL (List.range W) (fun j => rt (M1 st.2.length j)) (fun j => rt (M1 st.2.length j / M1 st.2.length c)) (by simp; omega) (fun j hj b => gj_name (i := 10) sc_reduced.nd rfl (fun b => ?_)) ⟨_, rfl, ?_⟩
      · refine dm_if (tm_cmp op_ne (nomark _) (ixT (nm 10 ⟨_, _, rfl, rfl, dm_int (opd_neI (bm ⟨fun h1 => ?_, fun h1 => ?_⟩))⟩)))
        · exact dm_call (X := Bk _ _ b) c_over (hr.mono (by decide)) rfl (ac (nm 10 (dmm (a1 (nm 6 (dmm ⟨_, _, rfl, (hC1 _ _).sm (by omega), (hC1 _ _).sm (by omega), hlead, rfl, rfl⟩))))))
        · have e : M1 st.2.length j = 0 := Rat.num_eq_zero.mp (by simpa using h1)
          refine nm 10 ⟨rfl, ?_⟩
          have e0 : (0 : Rat) / M1 st.2.length c = 0 := by rw [Rat.div_def, Rat.zero_mul]
          rw [e, e0]
      refine gm_of_j (js := []) (gj_sub (nm 1 (nm 4 (im ⟨0, _, _, rfl, rfl, rowsR_ix hkN', ?_⟩))))
      have hsc : (rowsR M1 N W).set st.2.length (.dat (.list ((List.range W).map fun j => rt (M1 st.2.length j / M1 st.2.length c)))) = rowsR (lowM (scaleM M1 st.2.length c) st.2.length c 0) N W := by
        rw [low_zero, ← rows_set (M := M1) (M' := scaleM M1 st.2.length c) hkN']
        · simp [rowD, eD, scaleM]
        · intro i _ hne
          funext j
          simp [scaleM, hne]
      show Ds _ _ [.L ((rowsR M1 N W).set st.2.length (.dat (.list ((List.range W).map fun j => rt (M1 st.2.length j / M1 st.2.length c))))), _] _ _
      rw [hsc]
      generalize scaleM M1 st.2.length c = M2 at hC2 hstep ⊢
      refine ds_for PassesOwn.never (im_range1 rfl T.b_range (dm_len rfl T.b_len (nm 1 ⟨_, .own rfl, ?_⟩)))
      rw [List.length_map, rowsL_len]
      refine im ⟨by omega, by omega, fun i ρ μ => (∃ o5 o6 o7 o8 o9 o10, ρ = [some (.dat (matD M N W)), some (.own 0), some (.own 1), some (.dat (.int (c : Nat))), some (.dat (.int (st.2.length : Nat))), o5, o6, o7, o8, o9, o10]) ∧ μ = [.L (rowsR (lowM M2 st.2.length c i) N W), .L ((pvL st.2).map Rv.dat)], ⟨⟨_, _, _, _, _, _, rfl⟩, rfl⟩, ?_, ?_⟩
      · rintro i d ρ μ hd ⟨⟨o5, o6, o7, o8, o9, o10, rfl⟩, rfl⟩
        have hi := (List.getElem?_eq_some_iff.mp hd).1
        rw [rangeD_len, Int.toNat_natCast] at hi
        rw [rangeD_get (by rw [Int.toNat_natCast]; exact hi), Int.zero_add] at hd
        obtain rfl := Option.some.inj hd
        refine gm_name sc_reduced.nd (i := 7) rfl ?_
        refine ds_asg (dm_ix (dm_ix (nm 1 (nm 7 (im (ixp_o (n := 0) rfl (rowsR_at hi) (nm 3 (im ⟨_, eD_get hc, gm_name sc_reduced.nd (i := 8) rfl ?_⟩))))))))
        refine ds_if (tm_w (wm_and2 (tm_cmp op_ne (nomark _) (nm 7 (nm 4 (opd_neI (bm ⟨fun h1 => ?_, fun h1 => ⟨fun z => (by cases z), fun _ => ?_⟩⟩)))))))
        · have h1 : i ≠ st.2.length := by
            have : ¬ ((i : Int) = (st.2.length : Int)) := by simpa using h1
            omega
          refine tm_cmp op_ne (nomark _) (ixT (nm 8 ⟨_, _, rfl, rfl, dm_int (opd_neI (bm ⟨fun h2 => ?_, fun h2 => ?_⟩))⟩))
          · refine ds_asg (dm_call c_lowered hr rfl (ac (dm_ix (nm 1 (nm 7 (im (ixp_o (n := 0) rfl (rowsR_at hi) (dmm ?_))))))))
            refine ac (dm_ix (nm 1 (nm 4 (im (ixp_o (n := 0) rfl (rowsR_at hkN') (dmm (a1 (nm 8 (dmm ⟨_, _, _, W, (bb + 1) * 2 ^ N, rfl, fun j => hC2 i i j, fun j => hC2 i _ j, hC2 i i c, by omega, by omega, ?_⟩)))))))))
            refine gm_of_j (js := []) (gj_sub (nm 1 (nm 7 (im ⟨0, _, _, rfl, rfl, rowsR_ix hi, ds_nil (ds_nil ⟨⟨_, _, _, _, _, _, rfl⟩, ?_⟩)⟩))))
            rw [← low_next hi h1]
            rfl
          · have e : lowM M2 st.2.length c i i c = 0 := Rat.num_eq_zero.mp (by simpa using h2)
            rw [low_at] at e
            refine ds_nil (ds_nil ⟨⟨_, _, _, _, _, _, rfl⟩, ?_⟩)
            rw [low_skip hi (.inr e)]
        · have h1 : i = st.2.length := by
            have : ((i : Int) = (st.2.length : Int)) := by simpa using h1
            omega
          refine ds_nil (ds_nil ⟨⟨_, _, _, _, _, _, rfl⟩, ?_⟩)
          rw [low_skip hi (.inl h1)]
      · rintro ρ μ ⟨⟨o5, o6, o7, o8, o9, o10, rfl⟩, rfl⟩
        rw [rangeD_len, Int.toNat_natCast]
        refine ds_expr (dm_append (nm 2 ⟨1, _, rfl, rfl, nm 3 ⟨_, rfl, by simp; omega, ds_nil ⟨⟨_, _, _, _, _, _, _, _, rfl⟩, ?_⟩⟩⟩))
        rw [hred, hstep]
        simp
  · rintro ρ μ ⟨⟨o3, o4, o5, o6, o7, o8, o9, o10, rfl⟩, rfl⟩
    rw [rangeD_len]
    have hk := (red_rf N M (if N = 0 then 0 else W)).len
    refine ds_frzL (n := 1) (pvL (red N M (if N = 0 then 0 else W)).2) rfl rfl ?_
    refine ds_ret (dm_tup (ac (dm_slL (nm 1 (pmN (pmE (dm_len rfl T.b_len (nm 2 ⟨_, .ownZ rfl, ?_⟩))))))))
    rw [List.length_map, List.length_map]
    refine im ⟨rowsL (red N M (if N = 0 then 0 else W)).1 N W, .own rfl, dmm (a1 (nz 2 (dmm ⟨by simp, _, rfl, ?_⟩)))⟩
    rw [take_rows hk]
    by_cases h0 : N = 0
    · subst h0
      have e1 : (red 0 M W).2 = [] := List.eq_nil_of_length_eq_zero (Nat.le_zero.mp (red_rf 0 M W).len)
      have e2 : (red 0 M (if 0 = 0 then 0 else W)).2 = [] := List.eq_nil_of_length_eq_zero (Nat.le_zero.mp (red_rf 0 M _).len)
      unfold redD at hG
      rw [e1] at hG
      rw [e2]
      exact hG
    · rw [if_neg h0]
      exact hG
end
end BW

namespace BW
open PySem PySem.Spec PyProof.Rows L2
section
variable {P : Program} {w : World} {K : PySem.W.Frag} {mg : Str → Option Value} {base : Heap}
def tf_rank : Tf := fun ds G => ∃ (M : Mat) (N W b : Nat), ds = [matD M N W] ∧ Cm b M ∧ N ≤ 100 ∧ W ≤ 100 ∧ (b + 1) * 2 ^ N ≤ 1000000 ∧ G (.int (red N M W).2.length)
theorem can_rank (T : Txt K mg) (c_reduced : Can P w K mg base "reduced" 45 p_reduced (PureSp K tf_reduced)) : Can P w K mg base "rank" 46 p_rank (PureSp K tf_rank) := by
  refine can_pure 16 T sc_rank (fun _ _ _ _ _ _ us hl => match us, hl with | [_], _ => rfl) (fun ds G h => by obtain ⟨M, N, W, b, rfl, _⟩ := h; rfl) fun fa cdv B outer s H E hr ds G h => ?_
  obtain ⟨M, N, W, bb, rfl, hM, hN, hW, hb, hG⟩ := h
  refine ds_ret (dm_len rfl T.b_len (ixT (dm_call c_reduced hr rfl (a1 (nm 0 (dmm ⟨M, N, W, bb, rfl, hM, hN, hW, hb, _, _, rfl, rfl, _, .dat rfl, _, rfl, ?_⟩))))))
  rw [List.length_map, List.length_map]
  exact hG
/-! ### a table that nothing moves -/
theorem pv_any (n c : Nat) : ((pvL (List.range n)).any fun z => PyData.eqv z (.int (c : Nat))) = decide (c < n) := by
  rw [List.any_map]
  by_cases h : c < n
  · rw [decide_eq_true h, List.any_eq_true]
    exact ⟨c, List.mem_range.mpr h, by simp [PyData.eqv]⟩
  · rw [decide_eq_false h, List.any_eq_false]
    intro x hx
    have := List.mem_range.mp hx
    simp [PyData.eqv]
    omega
theorem pv_shp (ps : List Nat) : shp (.list (pvL ps)) = true := shk_up (k := 1) (shk_map fun i => shk_int _) (by decide)
theorem int_shp (i : Int) : shp (.int i) = true := shk_up (k := 0) (shk_int i) (by decide)
def tf_kernel : Tf := fun ds G => ∃ (M : Mat) (n b : Nat), ds = [matD M n n, .int (n : Nat)] ∧ Inj n n M ∧ Cm b M ∧ n ≤ 100 ∧ (b + 1) * 2 ^ n ≤ 1000000 ∧ G (.list [])
theorem can_kernel (T : Txt K mg) (c_reduced : Can P w K mg base "reduced" 45 p_reduced (PureSp K tf_reduced)) : Can P w K mg base "kernel" 46 p_kernel (PureSp K tf_kernel) := by
  refine can_pure 17 T sc_kernel (fun _ _ _ _ _ _ us hl => match us, hl with | [_, _], _ => rfl) (fun ds G h => by obtain ⟨M, N, b, rfl, _⟩ := h; rfl) fun fa cdv B outer s H E hr ds G h => ?_
  obtain ⟨M, n, bb, rfl, hI, hM, hN, hb, hG⟩ := h
  refine ds_asg (dm_call c_reduced hr rfl (a1 (nm 0 (dmm ⟨M, n, n, bb, rfl, hM, hN, hN, hb, gm_of_j (js := [2, 3]) (gj_tup (gjs_cons (gj_name (i := 2) sc_kernel.nd rfl (gjs_cons (gj_name (i := 3) sc_kernel.nd rfl (gjs_nil ?_))))))⟩))))
  rw [inj_piv hI n (Nat.le_refl _)]
  refine ds_asg (dm_lstO (am_nil ⟨by simp, gm_name sc_kernel.nd (i := 4) rfl ?_⟩))
  refine ds_for PassesOwn.never (im_list (dm_lc (own := [("column", 9)]) sc_kernel.nd (blkOk_by (by kernel_rfl)) (im_range1 rfl T.b_range (nm 1 (im ⟨?_, ?_, ?_⟩)))))
  · omega
  · omega
  rw [Int.toNat_natCast]
  have e0 : ∀ i : Nat, (PyData.int (0 + (i : Nat))) = .int (i : Nat) := fun i => by rw [Int.zero_add]
  refine lc_filt (List.range n) (fun i => .int (0 + (i : Nat))) (fun i => .int (0 + (i : Nat))) (fun c => !decide (c < n)) (by simp; omega) (fun i hi b => gj_name (i := 9) sc_kernel.nd rfl (fun b => ?_)) ⟨_, rfl, lm ⟨fun _ ρ μ => (∃ o5 o6 o7 o8 o9, ρ = [some (.dat (matD M n n)), some (.dat (.int (n : Nat))), some (.dat (.list (rowsL (red n M n).1 (List.range n).length n))), some (.dat (.list (pvL (List.range n)))), some (.own 0), o5, o6, o7, o8, o9]) ∧ μ = [.L []], ⟨⟨_, _, _, _, _, rfl⟩, rfl⟩, ?_, ?_⟩⟩
  · refine tm_cmp (op_notInD (u65 hr)) rfl (nm 9 (nm 3 (opd_niD (int_shp _) (pv_shp _) (bm ⟨?_, fun _ b => nm 9 ⟨rfl, rfl⟩, fun _ => rfl⟩))))
    rw [Int.zero_add, pv_any]
  · intro i d ρ μ hd _
    exfalso
    have : ((List.range n).filter fun c => !decide (c < n)) = [] := List.filter_eq_nil_iff.mpr fun x hx => by
      have := List.mem_range.mp hx
      simp [this]
    rw [this] at hd
    simp at hd
  · rintro ρ μ ⟨⟨o5, o6, o7, o8, o9, rfl⟩, rfl⟩
    exact ds_frzL (n := 0) [] rfl rfl (ds_ret (nz 4 ⟨_, rfl, hG⟩))
/-! ### a table's answer to a goal -/
def aug (M : Mat) (r : Nat → Rat) (n : Nat) : Mat := fun i j => if j < n then M i j else r i
def solv (M : Mat) (r : Nat → Rat) (n : Nat) : Nat → Rat := fun i => (red n (aug M r n) (n + 1)).1 i n
theorem aug_inj {M : Mat} {r : Nat → Rat} {n : Nat} (h : Inj n n M) : Inj n n (aug M r n) := fun d hd => h d fun i hi => by
  rw [← hd i hi]
  exact dot_congr (fun j hj => by simp [aug, hj]) fun _ _ => rfl
theorem solv_ok {M : Mat} {r : Nat → Rat} {n : Nat} (h : Inj n n M) : (red n (aug M r n) (n + 1)).2 = List.range n ∧ ∀ i < n, dot n (M i) (solv M r n) = r i := by
  obtain ⟨h1, h2⟩ := inj_solve (aug_inj (r := r) h)
  refine ⟨h1, fun i hi => ?_⟩
  have := h2 i hi
  rw [show aug M r n i n = r i by simp [aug]] at this
  rw [← this]
  exact dot_congr (fun j hj => by simp [aug, hj]) fun _ _ => rfl
theorem aug_row (M : Mat) (r : Nat → Rat) (n i : Nat) : eD (M i) n ++ [rt (r i)] = eD (aug M r n i) (n + 1) := by
  unfold eD
  rw [List.range_succ, List.map_append]
  congr 1
  · apply List.map_congr_left
    intro j hj
    have := List.mem_range.mp hj
    simp [aug, this]
  · simp [aug]
def tf_solved : Tf := fun ds G => ∃ (M : Mat) (r : Nat → Rat) (n b : Nat), ds = [matD M n n, .list (eD r n)] ∧ 0 < n ∧ Inj n n M ∧ Cm b (aug M r n) ∧ n ≤ 99 ∧ (b + 1) * 2 ^ n ≤ 1000000 ∧ G (.list (eD (solv M r n) n))
theorem can_solved (T : Txt K mg) (c_reduced : Can P w K mg base "reduced" 45 p_reduced (PureSp K tf_reduced)) : Can P w K mg base "solved" 46 p_solved (PureSp K tf_solved) := by
  refine can_pure 18 T sc_solved (fun _ _ _ _ _ _ us hl => match us, hl with | [_, _], _ => rfl) (fun ds G h => by obtain ⟨M, r, N, b, rfl, _⟩ := h; rfl) fun fa cdv B outer s H E hr ds G h => ?_
  obtain ⟨M, r, n, bb, rfl, h0, hI, hM, hN, hb, hG⟩ := h
  refine ds_asg (dm_len rfl T.b_len (dm_ix (nm 0 (dm_int (im (ixp_l (row_get (i := 0) h0) ⟨_, .dat rfl, ?_⟩))))))
  rw [List.length_map, eD_len]
  refine gm_name sc_solved.nd (i := 2) rfl ?_
  refine ds_asg (dm_call c_reduced hr rfl (a1 (dm_lc (own := [("row", 6), ("part", 8)]) sc_solved.nd (blkOk_by (by kernel_rfl)) (im_zip rfl T.b_zip (nm 0 (lm (nm 1 (lm ?_))))))))
  rw [show zipD ((List.range n).map fun i => PyData.list (eD (M i) n)) (eD r n) = _ from zip_maps _ _ n]
  refine lc_mapL (List.range n) _ (fun i => .list (eD (aug M r n i) (n + 1))) (by simp; omega) (fun i hi b => ?_) ?_
  · refine gj_tup (gjs_cons (gj_name (i := 6) sc_solved.nd rfl (gjs_cons (gj_name (i := 8) sc_solved.nd rfl (gjs_nil ?_)))))
    intro b
    refine dm_lst (am_star (nm 6 ⟨_, .lst, a1 (nm 8 (dmm ⟨?_, ?_⟩))⟩))
    · rw [List.length_append, eD_len]
      simp
      omega
    · rw [aug_row]
      exact ⟨rfl, rfl⟩
  obtain ⟨hp, _⟩ := solv_ok (r := r) hI
  refine ⟨_, rfl, dmm ⟨aug M r n, n, n + 1, bb, rfl, hM, by omega, by omega, hb, ?_⟩⟩
  refine gm_of_j (js := [3, 4]) (gj_tup (gjs_cons (gj_name (i := 3) sc_solved.nd rfl (gjs_cons (gj_name (i := 4) sc_solved.nd rfl (gjs_nil ?_))))))
  rw [hp, List.length_range]
  refine ds_if (tm_cmp (op_inD (u65 hr)) rfl (nm 2 (nm 4 (opd_inD (int_shp _) (pv_shp _) ?_))))
  rw [pv_any, decide_eq_false (Nat.lt_irrefl n)]
  refine bm ⟨fun z => (by cases z), fun _ => ds_nil ?_⟩
  refine ds_asg (dm_bin op_rep (dm_lstO (am_cons (dmZERO T (am_nil ⟨by simp, nm 2 (opd_repL (n := 0) (k := (n : Int)) rfl (by omega) (by omega) (by simp) ?_)⟩)))))
  refine gm_name sc_solved.nd (i := 5) rfl ?_
  have hfl : (List.replicate ((n : Int)).toNat [Rv.dat (rt 0)]).flatten = (List.range n).map fun i => Rv.dat (rt (if i < 0 then solv M r n i else 0)) := by
    rw [Int.toNat_natCast, List.flatten_replicate_singleton]
    simp [List.map_const']
  show Ds _ _ [.L [Rv.dat (rt 0)], .L (List.replicate ((n : Int)).toNat [Rv.dat (rt 0)]).flatten] _ _
  rw [hfl]
  refine ds_for PassesOwn.never (im_zip rfl T.b_zip (nm 3 (lm (nm 4 (lm ?_)))))
  rw [show zipD (rowsL (red n (aug M r n) (n + 1)).1 n (n + 1)) (pvL (List.range n)) = (List.range n).map fun i => .tuple [rowD (red n (aug M r n) (n + 1)).1 (n + 1) i, .int (i : Nat)] from zip_maps _ _ n]
  refine ⟨fun i ρ μ => (∃ o6 o7 o8, ρ = [some (.dat (matD M n n)), some (.dat (.list (eD r n))), some (.dat (.int (n : Nat))), some (.dat (.list (rowsL (red n (aug M r n) (n + 1)).1 n (n + 1)))), some (.dat (.list (pvL (List.range n)))), some (.own 1), o6, o7, o8]) ∧ μ = [.L [Rv.dat (rt 0)], .L ((List.range n).map fun j => Rv.dat (rt (if j < i then solv M r n j else 0)))], ⟨⟨_, _, _, rfl⟩, rfl⟩, ?_, ?_⟩
  · rintro i d ρ μ hd ⟨⟨o6, o7, o8, rfl⟩, rfl⟩
    have hi : i < n := by
      have := (List.getElem?_eq_some_iff.mp hd).1
      simpa using this
    rw [List.getElem?_map, List.getElem?_range hi] at hd
    obtain rfl := Option.some.inj hd
    refine gm_of_j (js := [6, 7]) (gj_tup (gjs_cons (gj_name (i := 6) sc_solved.nd rfl (gjs_cons (gj_name (i := 7) sc_solved.nd rfl (gjs_nil ?_))))))
    refine ds_asg (ixE (nm 6 (nm 2 (im ⟨_, _, .inr rfl, eD_get (i := n) (n := n + 1) (by omega), ?_⟩))))
    refine gm_of_j (js := []) (gj_sub (nm 5 (nm 7 (im ⟨1, _, i, rfl, rfl, ?_, ds_nil ⟨⟨_, _, _, rfl⟩, ?_⟩⟩))))
    · rw [List.length_map, List.length_range]
      unfold ixN
      rw [if_pos (by omega), if_pos (by omega)]
      rfl
    · have := map_set (g := fun j => Rv.dat (rt (if j < i then solv M r n j else 0))) (g' := fun j => Rv.dat (rt (if j < i + 1 then solv M r n j else 0))) hi fun j _ hne => by
        have : (j < i + 1) ↔ (j < i) := by omega
        simp only [this]
      rw [← this]
      simp only [if_pos (Nat.lt_succ_self i)]
      rfl
  · rintro ρ μ ⟨⟨o6, o7, o8, rfl⟩, rfl⟩
    refine ds_frzL (n := 1) (eD (solv M r n) n) rfl ?_ (ds_ret (nz 5 ⟨_, rfl, hG⟩))
    unfold eD
    rw [List.map_map]
    apply List.map_congr_left
    intro j hj
    have := List.mem_range.mp hj
    rw [if_pos (by simpa using this)]
    rfl
end
end BW

namespace BW
open PySem PySem.Spec PyProof.Rows L2
/-! ### d.update(d2) -/
def mgK (kvs more : List (List Key × V)) : List (List Key × V) := more.foldl (fun acc p => putK acc p.1 p.2) kvs
def pkA {α : Type} (kvs more : List (List Key × α)) : List (List Key × α) := more.foldl (fun acc p => pk acc p.1 p.2) kvs
theorem mgK_pair {α : Type} {G : V → α → Prop} {ms : List (List Key × V)} {more : List (List Key × α)} (m : KP G ms more) : ∀ {ws : List (List Key × V)} {kvs : List (List Key × α)}, KP G ws kvs → KP G (mgK ws ms) (pkA kvs more) := by
  induction m with
  | nil => exact fun p => p
  | @cons a b as bs h t ih =>
    intro ws kvs p
    show KP G (mgK (putK ws a.1 a.2) as) (pkA (pk kvs b.1 b.2) bs)
    rw [h.1]
    exact ih (pk_pair p h.2)
theorem kt_all {H : Hp} {more : List (List Key × V)} {ys : List (List Key × Addr × Value)} (m : KT H more ys) : ∀ {kvs : List (List Key × V)} {xs : List (List Key × Addr × Value)}, KT H kvs xs → KT H (mgK kvs more) (storedAllH xs ys) := by
  induction m with
  | nil => exact fun p => p
  | @cons a b as bs h t ih =>
    intro kvs xs p
    show KT H (mgK (putK kvs a.1 a.2) as) (storedAllH (storedH xs b.1 b.2.1 b.2.2) bs)
    rw [← h.1]
    exact ih (p.put a.1 h.2.1 h.2.2)
theorem putK_le (kvs : List (List Key × V)) (k : List Key) (v : V) : (putK kvs k v).length ≤ kvs.length + 1 := by
  unfold putK
  split
  · rw [List.length_map]
    omega
  · rw [List.length_append]
    simp
theorem mgK_le : ∀ (more kvs : List (List Key × V)), (mgK kvs more).length ≤ kvs.length + more.length
  | [], kvs => Nat.le_refl _
  | p :: more, kvs => by
    have h1 := mgK_le more (putK kvs p.1 p.2)
    have h2 := putK_le kvs p.1 p.2
    show (mgK (putK kvs p.1 p.2) more).length ≤ _
    rw [List.length_cons]
    omega
section
variable {X : Cx} {ρ : Rho} {μ : Mu} {P : PR} {o e : Expr} {pos : Pos}
theorem mt_updT (hu : X.A.units + 1 < cLine) : MtR X "dict.update" (fun x xs H Q => ∃ (d o : Addr) (kvs more : List (List Key × V)), x = .ref d ∧ xs = [.ref o] ∧ d ≠ o ∧ H d = some (.dT kvs) ∧ Rd H o (.dT more) ∧ kvs ≠ [] ∧ kvs.length + more.length ≤ sizeLine ∧ Q .non (upd H d (.dT (mgK kvs more)))) := by
  intro pins s σ H x xs v us Q I rx rxs h
  obtain ⟨d, o, kvs, more, rfl, rfl, hne, hd, ho, hk, hz, q⟩ := h
  cases rx
  obtain ⟨u1, rfl, r1⟩ := Vals.one rxs
  cases r1
  obtain ⟨z, hds, xs1, rel, dd⟩ := dt_of I.hok hd
  obtain ⟨z2, hds2, ys, rel2, dd2⟩ := dt_rd I.hok ho
  refine call_update_dictH (tupleKind_room_in1 hu) hne hds2 dd dd2 (.inl fun e => ?_) ?_ fun h' dd' _ hs => ?_
  · subst e
    cases rel
    exact hk rfl
  · rw [← Paired.length rel, ← Paired.length rel2]
    exact hz
  · obtain ⟨ob, es, ep, hq, h2, h3, h4, _, h5⟩ := dd'
    have hle := mgK_le more kvs
    have I2 : Inv X pins σ (upd H d (.dT (mgK kvs more))) { s with heap := h', toks := s.toks } :=
      d_write I (by rw [hd]; exact True.intro) hs ⟨ob, hq⟩ ⟨by omega, hds, _, (kt_all rel2 rel).keeps (fun c ys ec => (by rw [upd_ne (ne_of ec hd (fun z => nomatch z))]; exact ec)), ob, es, ep, hq, h2, h3, h4, h5⟩
    exact ⟨.non, _, I2, rfl, q⟩
theorem dm_update {apos : Pos} (hu : X.A.units + 1 < cLine) (h : Dm X ρ μ o fun μ1 r1 => ∃ n kvs0, r1 = .own n ∧ μ1[n]? = some (.M kvs0) ∧ Dm X ρ μ1 e fun μ2 r2 => ∃ kvs kds, μ2[n]? = some (.M kvs) ∧ r2 = .dat (dD kds) ∧ kvs ≠ [] ∧ kvs.length + kds.length ≤ 1000 ∧ P (μ2.set n (.M (pkA kvs (kds.map fun p => (p.1, Rv.dat p.2))))) (.dat .none))
    (hbase : attributeBase o "update" X.env (eval o X.env) = eval o X.env := by rfl) (hfew : ((backTo pos (starEach [e] X.env)).all (fun x => !x.1) && (backToKw pos (keywordEach [] X.env)).all (fun x => x.1.isSome)
      && decide ([e].length + ([] : List Keyword).length + (if ([] : List Keyword).isEmpty then 0 else 1) < 30)) = true := by rfl)
    (hline : (apos.endLine == pos.line) = true := by rfl) (hs : starEach [e] X.env = (false, eval e X.env) :: starEach [] X.env := by rfl) : Dm X ρ μ (.Call (.Attribute o "update" apos) [e] [] pos) P := fun R F H as σ S Q q => by
  refine We.of (pe_bm PySem.F.plainAttrs_dict PySem.F.slot_dict_update PySem.F.type_dict_update (mt_updT hu) (We.pe X o) (pa_cons (We.pe X e) pa_nil hs) hbase hfew hline hs rfl) ?_
  refine h R F H as σ S _ fun v F1 H1 as1 μ1 r1 S1 x1 o1 ⟨n, kvs0, er, hm, h1⟩ => ?_
  subst er
  obtain ⟨a, ha, rfl⟩ := o1
  obtain ⟨vs0, g1, _⟩ := S1.cel n a _ ha hm
  refine ⟨.inr (.inr (.inl ⟨rfl, .inr ⟨vs0, g1⟩⟩)), ?_⟩
  refine h1 R F1 H1 as1 σ S1 _ fun w F2 H2 as2 μ2 r2 S2 x2 o2 ⟨kvs, kds, hm2, er, hne, hl, h2⟩ => ?_
  subst er
  have ha2 := pre_get x2.p ha
  obtain ⟨ws, e1, e2, e3, e4⟩ := S2.cel n a _ ha2 hm2
  obtain ⟨b, od, ms, rfl, f1, f2⟩ := Rp.dctE o2
  have f3 := kp_dat (as := as2) (rpK_kp f2)
  have hb : a ≠ b := fun z => by
    subst z
    rw [e2] at f1
    cases f1
  refine ⟨a, b, ws, ms, rfl, rfl, hb, e1, .inr ⟨od, S2.fh b _ f1⟩, fun z => ?_, ?_, ?_⟩
  · subst z
    cases e4
    exact hne rfl
  · have l1 := kp_len e4
    have l2 := kp_len f3
    rw [List.length_map] at l2
    rw [l1, l2, sizeLine_eq]
    omega
  · exact q .non F2 _ as2 _ (.dat .none) (S2.set (c := .M _) ha2 e2 e3 ⟨_, upd_same, e2, e3, mgK_pair f3 e4⟩) (x1.trans x2) (okD .non) h2
/-- x.index(y) of texts -/
theorem dm_sindex {apos : Pos} (h : Dm X ρ μ o (StrP fun μ1 a => Dm X ρ μ1 e (StrP fun μ2 b => ∃ i rest, Builtin.Str.occurrences a b 0 a.length 1 = i :: rest ∧ P μ2 (.dat (.int (i : Nat))))))
    (hbase : attributeBase o "index" X.env (eval o X.env) = eval o X.env := by rfl) (hfew : ((backTo pos (starEach [e] X.env)).all (fun x => !x.1) && (backToKw pos (keywordEach [] X.env)).all (fun x => x.1.isSome)
      && decide ([e].length + ([] : List Keyword).length + (if ([] : List Keyword).isEmpty then 0 else 1) < 30)) = true := by rfl)
    (hline : (apos.endLine == pos.line) = true := by rfl) (hs : starEach [e] X.env = (false, eval e X.env) :: starEach [] X.env := by rfl) : Dm X ρ μ (.Call (.Attribute o "index" apos) [e] [] pos) P := fun R F H as σ S Q q => by
  refine We.of (pe_bm PySem.F.plainAttrs_str PySem.F.slot_str_index PySem.F.type_str_index mt_sindex (We.pe X o) (pa_cons (We.pe X e) pa_nil hs) hbase hfew hline hs rfl) ?_
  refine h R F H as σ S _ fun v F1 H1 as1 μ1 r1 S1 x1 o1 ⟨a, er, h1⟩ => ?_
  subst er
  obtain rfl := Rp.strE o1
  refine ⟨rfl, ?_⟩
  refine h1 R F1 H1 as1 σ S1 _ fun w F2 H2 as2 μ2 r2 S2 x2 o2 ⟨b, er, i, rest, ho, h2⟩ => ?_
  subst er
  obtain rfl := Rp.strE o2
  exact ⟨a, b, i, rest, rfl, rfl, ho, q _ F2 H2 as2 μ2 (.dat (.int _)) S2 (x1.trans x2) (okD (.int _)) h2⟩
end
end BW

namespace BW
open PySem PySem.Spec PyProof.Rows L2
/-! ### ways by their numbers -/
def wyIx (w : Way) : Nat := 3 * w.1 + w.2
theorem waysW_get {n i : Nat} (h : i < 3 * n) : (waysW n)[i]? = some (i / 3, i % 3) := by
  induction n with
  | zero => omega
  | succ n ih =>
    rw [waysW_succ]
    by_cases e : i < 3 * n
    · rw [List.getElem?_append_left (by rw [waysW_len]; exact e)]
      exact ih e
    · rw [List.getElem?_append_right (by rw [waysW_len]; omega), waysW_len]
      obtain ⟨j, hj⟩ : ∃ j, j = i - 3 * n := ⟨_, rfl⟩
      have hj3 : j < 3 := by omega
      rw [← hj]
      have e1 : i / 3 = n := by omega
      have e2 : i % 3 = j := by omega
      rw [e1, e2]
      match j, hj3 with
      | 0, _ => rfl
      | 1, _ => rfl
      | 2, _ => rfl
theorem waysW_mem {n : Nat} {w : Way} : w ∈ waysW n ↔ w.1 < n ∧ w.2 < 3 := by
  induction n with
  | zero => simp [waysW]
  | succ n ih =>
    rw [waysW_succ, List.mem_append, ih]
    obtain ⟨a, b⟩ := w
    simp only [List.mem_cons, List.not_mem_nil, or_false, Prod.mk.injEq]
    omega
theorem waysW_ix {n : Nat} {w : Way} (h : w ∈ waysW n) : (waysW n)[wyIx w]? = some w := by
  obtain ⟨h1, h2⟩ := waysW_mem.mp h
  obtain ⟨a, b⟩ := w
  have h1 : a < n := h1
  have h2 : b < 3 := h2
  rw [waysW_get (by unfold wyIx; omega)]
  unfold wyIx
  have e1 : (3 * a + b) / 3 = a := by omega
  have e2 : (3 * a + b) % 3 = b := by omega
  rw [e1, e2]
theorem wyIx_lt {n : Nat} {w : Way} (h : w ∈ waysW n) : wyIx w < 3 * n := by
  obtain ⟨h1, h2⟩ := waysW_mem.mp h
  unfold wyIx
  omega
theorem lt_inj {a b : Nat} (ha : a < 3) (hb : b < 3) (h : lt a = lt b) : a = b := by
  match a, ha, b, hb with
  | 0, _, 0, _ => rfl
  | 1, _, 1, _ => rfl
  | 2, _, 2, _ => rfl
  | 0, _, 1, _ => exact absurd h (by decide)
  | 0, _, 2, _ => exact absurd h (by decide)
  | 1, _, 0, _ => exact absurd h (by decide)
  | 1, _, 2, _ => exact absurd h (by decide)
  | 2, _, 0, _ => exact absurd h (by decide)
  | 2, _, 1, _ => exact absurd h (by decide)
theorem wK_inj {a b : Way} (ha : a.2 < 3) (hb : b.2 < 3) (h : wK a = wK b) : a = b := by
  simp only [wK, List.cons.injEq, Sum.inl.injEq, Sum.inr.injEq, and_true] at h
  have h1 : a.1 = b.1 := by omega
  have h2 := lt_inj ha hb h.2
  exact Prod.ext h1 h2
theorem wK_iff {a b : Way} (ha : a.2 < 3) (hb : b.2 < 3) : wK a = wK b ↔ a = b := ⟨wK_inj ha hb, fun h => by rw [h]⟩
theorem nd_wK {L : List Way} (h : ∀ w ∈ L, w.2 < 3) (n : L.Nodup) : (L.map wK).Nodup := by
  induction L with
  | nil => exact List.nodup_nil
  | cons x L ih =>
    rw [List.nodup_cons] at n
    rw [List.map_cons, List.nodup_cons]
    refine ⟨fun z => ?_, ih (fun w hw => h w (List.mem_cons_of_mem _ hw)) n.2⟩
    obtain ⟨y, hy, e⟩ := List.mem_map.mp z
    have := wK_inj (h y (List.mem_cons_of_mem _ hy)) (h x (List.mem_cons_self ..)) e
    exact n.1 (by rw [← this]; exact hy)
theorem waysW_nd (n : Nat) : (waysW n).Nodup := by
  induction n with
  | zero => exact List.nodup_nil
  | succ n ih =>
    rw [waysW_succ, List.nodup_append]
    refine ⟨ih, by simp, fun a ha b hb e => ?_⟩
    subst e
    have h1 := (waysW_mem.mp ha).1
    simp only [List.mem_cons, List.not_mem_nil, or_false] at hb
    rcases hb with rfl | rfl | rfl <;> exact absurd h1 (Nat.lt_irrefl n)
theorem nd_of_map {α β : Type} {g : α → β} {L : List α} (h : (L.map g).Nodup) : L.Nodup := by
  induction L with
  | nil => exact List.nodup_nil
  | cons x L ih =>
    rw [List.map_cons, List.nodup_cons] at h
    exact List.nodup_cons.mpr ⟨fun z => h.1 (List.mem_map_of_mem z), ih h.2⟩
theorem lk_in {β : Type} {L : List Way} {g : Way → β} {x : Way} (h : ∀ w ∈ L, w.2 < 3) (hx : x ∈ L) : lk (L.map fun w => (wK w, g w)) (wK x) = some (g x) := by
  rcases lk_of (g := g) hx with z | ⟨y, hy, e, z⟩
  · exact z
  · rw [z, wK_inj (h y hy) (h x hx) e]
theorem lk_out {β : Type} {L : List Way} {g : Way → β} {x : Way} (h : ∀ w ∈ L, w.2 < 3) (h2 : x.2 < 3) (hx : x ∉ L) : lk (L.map fun w => (wK w, g w)) (wK x) = none := by
  unfold lk
  rw [List.find?_eq_none.mpr]
  · rfl
  · intro p hp
    obtain ⟨y, hy, rfl⟩ := List.mem_map.mp hp
    have : wK y ≠ wK x := fun e => hx (by rw [← wK_inj (h y hy) h2 e]; exact hy)
    simpa using this
/-! ### an entry of a dict of ratios -/
def pkW (L : List (Way × Rat)) (w : Way) (v : Rat) : List (Way × Rat) := if (L.any fun z => decide (wK z.1 = wK w)) = true then L.map (fun z => if wK z.1 = wK w then (z.1, v) else z) else L ++ [(w, v)]
theorem pk_tR (L : List (Way × Rat)) (w : Way) (v : Rat) : pk (tR L) (wK w) (.dat (rt v)) = tR (pkW L w v) := by
  unfold pk pkW tR
  rw [List.any_map]
  show (if (L.any fun z => decide (wK z.1 = wK w)) = true then _ else _) = _
  by_cases h : (L.any fun z => decide (wK z.1 = wK w)) = true
  · rw [if_pos h, if_pos h, List.map_map, List.map_map]
    apply List.map_congr_left
    intro z _
    simp only [Function.comp]
    by_cases e : wK z.1 = wK w
    · rw [if_pos e, if_pos e]
    · rw [if_neg e, if_neg e]
  · rw [if_neg h, if_neg h, List.map_append]
    rfl
theorem getR_nil (w : Way) : getR [] w = 0 := rfl
theorem getR_cons (z : Way × Rat) (L : List (Way × Rat)) (w : Way) : getR (z :: L) w = if wK z.1 = wK w then z.2 else getR L w := by
  unfold getR
  by_cases h : wK z.1 = wK w
  · rw [List.find?_cons_of_pos (by simpa using h), if_pos h]
    rfl
  · rw [List.find?_cons_of_neg (by simpa using h), if_neg h]
theorem getR_app (L R : List (Way × Rat)) (w : Way) : getR (L ++ R) w = if (L.any fun z => decide (wK z.1 = wK w)) = true then getR L w else getR R w := by
  induction L with
  | nil => rfl
  | cons z L ih =>
    rw [List.cons_append, getR_cons, getR_cons, ih, List.any_cons]
    by_cases h : wK z.1 = wK w
    · simp [h]
    · rw [if_neg h, if_neg h, decide_eq_false h, Bool.false_or]
theorem getR_pkW (L : List (Way × Rat)) (w : Way) (v : Rat) (w' : Way) : getR (pkW L w v) w' = if wK w = wK w' then v else getR L w' := by
  unfold pkW
  by_cases h : (L.any fun z => decide (wK z.1 = wK w)) = true
  · rw [if_pos h]
    induction L with
    | nil => simp at h
    | cons z L ih =>
      rw [List.map_cons, getR_cons, getR_cons]
      by_cases e : wK z.1 = wK w
      · rw [if_pos e]
        show (if wK z.1 = wK w' then v else _) = _
        by_cases e2 : wK w = wK w'
        · rw [if_pos (e.trans e2), if_pos e2]
        · rw [if_neg (fun q => e2 (e.symm.trans q)), if_neg e2, if_neg (fun q => e2 (e.symm.trans q))]
          by_cases h2 : (L.any fun z => decide (wK z.1 = wK w)) = true
          · rw [ih h2, if_neg e2]
          · have : L.map (fun z => if wK z.1 = wK w then (z.1, v) else z) = L := by
              conv => rhs; rw [← List.map_id L]
              apply List.map_congr_left
              intro z hz
              have : ¬ wK z.1 = wK w := fun q => h2 (List.any_eq_true.mpr ⟨z, hz, by simpa using q⟩)
              rw [if_neg this]
              rfl
            rw [this]
      · rw [if_neg e]
        have h2 : (L.any fun z => decide (wK z.1 = wK w)) = true := by
          rw [List.any_cons] at h
          simpa [e] using h
        rw [ih h2]
        by_cases e2 : wK z.1 = wK w'
        · rw [if_pos e2, if_neg (fun q => e (e2.trans q.symm)), if_pos e2]
        · rw [if_neg e2, if_neg e2]
  · rw [if_neg h, getR_app]
    by_cases e2 : wK w = wK w'
    · have h' : ¬ (L.any fun z => decide (wK z.1 = wK w')) = true := by
        rw [← e2]
        exact h
      rw [if_pos e2, if_neg h', getR_cons, if_pos e2]
    · rw [if_neg e2, getR_cons, if_neg e2, getR_nil]
      split
      · rfl
      · rename_i h3
        unfold getR
        rw [List.find?_eq_none.mpr]
        · rfl
        · intro z hz
          have : ¬ wK z.1 = wK w' := fun q => h3 (List.any_eq_true.mpr ⟨z, hz, by simpa using q⟩)
          simpa using this
theorem pkW_len (L : List (Way × Rat)) (w : Way) (v : Rat) : (pkW L w v).length ≤ L.length + 1 := by
  unfold pkW
  split
  · rw [List.length_map]
    omega
  · rw [List.length_append]
    simp
theorem tR_len (L : List (Way × Rat)) : (tR L).length = L.length := by
  unfold tR
  rw [List.length_map]
/-! ### a dict whose keys stand -/
def stK (L : List Way) (g : Way → Rat) : List (List Key × Rv) := L.map fun w => (wK w, .dat (rt (g w)))
theorem pk_st {L : List Way} {g : Way → Rat} {x : Way} {v : Rat} (h : ∀ w ∈ L, w.2 < 3) (hx : x ∈ L) : pk (stK L g) (wK x) (.dat (rt v)) = stK L fun w => if w = x then v else g w := by
  have h1 : ((stK L g).any fun kv => decide (kv.1 = wK x)) = true := List.any_eq_true.mpr ⟨(wK x, .dat (rt (g x))), List.mem_map.mpr ⟨x, hx, rfl⟩, by simp⟩
  unfold pk
  rw [if_pos h1]
  unfold stK
  rw [List.map_map]
  apply List.map_congr_left
  intro w hw
  simp only [Function.comp]
  by_cases e : w = x
  · subst e
    rw [if_pos rfl, if_pos rfl]
  · rw [if_neg (fun q => e (wK_inj (h w hw) (h x hx) q)), if_neg e]
theorem lk_st {L : List Way} {g : Way → Rat} {x : Way} (h : ∀ w ∈ L, w.2 < 3) (hx : x ∈ L) : lk (stK L g) (wK x) = some (.dat (rt (g x))) := lk_in (g := fun w => Rv.dat (rt (g w))) h hx
theorem stK_congr {L : List Way} {g g' : Way → Rat} (h : ∀ w ∈ L, g w = g' w) : stK L g = stK L g' := by
  unfold stK
  apply List.map_congr_left
  intro w hw
  rw [h w hw]
/-! ### what a member gives to the system -/
def cM (f : Fr) (M : Mb) : Int := cc (ndA f M.i) (ndA f M.j)
def sM (f : Fr) (M : Mb) : Int := ss (ndA f M.i) (ndA f M.j)
def lM (f : Fr) (M : Mb) : Int := far (ndA f M.i) (ndA f M.j)
def SM (f : Fr) (h : Hg) (m : Nat) (M : Mb) : Nat → Nat → Rat := memS h m (plainS M.k M.s (lM f M))
def FM (f : Fr) (h : Hg) (m : Nat) (M : Mb) (F : Nat → Rat) : Nat → Rat := memF h m (plainS M.k M.s (lM f M)) F
/-- forces at the nodes under moves of the ends -/
def atM (f : Fr) (M : Mb) (e : Nat → Rat) : List (Way × Rat) := atE M (cM f M) (sM f M) e
def tM (f : Fr) (M : Mb) (u : Way → Rat) : Nat → Rat := tE M (cM f M) (sM f M) u
def SuM (f : Fr) (h : Hg) (m : Nat) (M : Mb) (u : Way → Rat) : Nat → Rat := fun i => dot 6 (SM f h m M i) (tM f M u)
def kM (f : Fr) (h : Hg) (m : Nat) (M : Mb) (o w : Way) : Rat := if w ∈ wyM M then getR (atM f M (SuM f h m M (unit w))) o else 0
def gM (f : Fr) (h : Hg) (m : Nat) (M : Mb) (F : Nat → Rat) (o : Way) : Rat := getR (atM f M (FM f h m M F)) o
def mbS (f : Fr) (g : Nat → Mb → Rat) : Nat → Rat
  | 0 => 0
  | k + 1 => mbS f g k + match f.mb[k]? with
    | none => 0
    | some M => g k M
theorem mbS_succ {f : Fr} {g : Nat → Mb → Rat} {k : Nat} {M : Mb} (h : f.mb[k]? = some M) : mbS f g (k + 1) = mbS f g k + g k M := by
  show mbS f g k + (match f.mb[k]? with
    | none => 0
    | some M => g k M) = _
  rw [h]
def sysK (f : Fr) (h : Hg) (k : Nat) (o w : Way) : Rat := mbS f (fun m M => kM f h m M o w) k
def sysG (f : Fr) (h : Hg) (F : Nat → Nat → Rat) (k : Nat) (o : Way) : Rat := -mbS f (fun m M => gM f h m M (F m) o) k
/-! sizes -/
theorem relS_bd {b : Nat} {S : Nat → Nat → Rat} {t : Nat} (h0 : S t t ≠ 0) (h : ∀ i j, Bd b (S i j)) (i j : Nat) : Bd (4 * b + 1) (relS S t i j) := by
  unfold relS
  exact ((h i j).sub (((h i t).dvd h0 (h t t)).mul (h t j))).mono (by omega)
theorem relF_bd {b : Nat} {S : Nat → Nat → Rat} {F : Nat → Rat} {t : Nat} (h0 : S t t ≠ 0) (h : ∀ i j, Bd b (S i j)) (hF : ∀ i, Bd b (F i)) (i : Nat) : Bd (4 * b + 1) (relF S F t i) := by
  unfold relF
  exact ((hF i).sub (((h i t).dvd h0 (h t t)).mul (hF t))).mono (by omega)
theorem memS_bd {b : Nat} {S : Nat → Nat → Rat} {h : Hg} {m : Nat} (h2 : S 2 2 ≠ 0) (h5 : S 5 5 ≠ 0) (hS : ∀ i j, Bd b (S i j)) (i j : Nat) : Bd (4 * b + 1) (memS h m S i j) := by
  unfold memS
  split
  · exact relS_bd h2 hS i j
  · split
    · exact relS_bd h5 hS i j
    · exact (hS i j).mono (by omega)
theorem memF_bd {b : Nat} {S : Nat → Nat → Rat} {F : Nat → Rat} {h : Hg} {m : Nat} (h2 : S 2 2 ≠ 0) (h5 : S 5 5 ≠ 0) (hS : ∀ i j, Bd b (S i j)) (hF : ∀ i, Bd b (F i)) (i : Nat) : Bd (4 * b + 1) (memF h m S F i) := by
  unfold memF
  split
  · exact relF_bd h2 hS hF i
  · split
    · exact relF_bd h5 hS hF i
    · exact (hF i).mono (by omega)
theorem dot_bd {b : Nat} {x y : Nat → Rat} (hx : ∀ i, Bd b (x i)) (hy : ∀ i, Bd b (y i)) : ∀ n, Bd (n * (2 * b + 1) + 1) (dot n x y)
  | 0 => Bd.zero.mono (by omega)
  | n + 1 => by
    show Bd _ (dot n x y + x n * y n)
    refine ((dot_bd hx hy n).add ((hx n).mul (hy n))).mono ?_
    rw [Nat.succ_mul n]
    omega
theorem getR_bd {b : Nat} {L : List (Way × Rat)} (h : ∀ z ∈ L, Bd b z.2) (hb : 1 ≤ b) (w : Way) : Bd b (getR L w) := by
  induction L with
  | nil => exact Bd.zero.mono hb
  | cons z L ih =>
    rw [getR_cons]
    split
    · exact h z (List.mem_cons_self ..)
    · exact ih fun z hz => h z (List.mem_cons_of_mem _ hz)
theorem atE_bd {b : Nat} {M : Mb} {c s : Int} {e : Nat → Rat} (hc : sgnOk c) (hs : sgnOk s) (he : ∀ i, Bd b (e i)) : ∀ z ∈ atE M c s e, Bd (2 * b + 3) z.2 := by
  have lin : ∀ {i j : Nat} {x y : Int}, sgnOk x → sgnOk y → Bd (2 * b + 3) (e i * (x : Rat) + e j * (y : Rat)) := fun hx hy => (((he _).mul hx.bd).add ((he _).mul hy.bd)).mono (by omega)
  intro z hz
  simp only [atE, List.mem_cons, List.not_mem_nil, or_false] at hz
  rcases hz with rfl | rfl | rfl | rfl | rfl | rfl
  · exact lin hc hs.neg
  · exact lin hs hc
  · exact (he _).mono (by omega)
  · exact lin hc hs.neg
  · exact lin hs hc
  · exact (he _).mono (by omega)
theorem tE_bd {b : Nat} {M : Mb} {c s : Int} {u : Way → Rat} (hc : sgnOk c) (hs : sgnOk s) (hu : ∀ w, Bd b (u w)) (i : Nat) : Bd (2 * b + 3) (tE M c s u i) := by
  have lin : ∀ {v w : Way} {x y : Int}, sgnOk x → sgnOk y → Bd (2 * b + 3) (u v * (x : Rat) + u w * (y : Rat)) := fun hx hy => (((hu _).mul hx.bd).add ((hu _).mul hy.bd)).mono (by omega)
  unfold tE
  split
  · exact lin hc hs
  · exact lin hs.neg hc
  · exact (hu _).mono (by omega)
  · exact lin hc hs
  · exact lin hs.neg hc
  · exact (hu _).mono (by omega)
theorem mbS_bd {b : Nat} {f : Fr} {g : Nat → Mb → Rat} (h : ∀ m M, f.mb[m]? = some M → Bd b (g m M)) : ∀ k, Bd (k * (b + 1) + 1) (mbS f g k)
  | 0 => Bd.zero.mono (by omega)
  | k + 1 => by
    show Bd _ (mbS f g k + _)
    have : Bd (b + 1) (match f.mb[k]? with
      | none => 0
      | some M => g k M) := by
      cases e : f.mb[k]? with
      | none => exact Bd.zero.mono (by omega)
      | some M => exact (h k M e).mono (by omega)
    have h2 : Bd b (match f.mb[k]? with
      | none => 0
      | some M => g k M) ∨ b = 0 := by
      cases e : f.mb[k]? with
      | none =>
        by_cases e0 : b = 0
        · exact .inr e0
        · exact .inl (Bd.zero.mono (by omega))
      | some M => exact .inl (h k M e)
    rcases h2 with h2 | h2
    · refine ((mbS_bd h k).add h2).mono ?_
      rw [Nat.succ_mul]
      omega
    · subst h2
      have hz : mbS f g k + (match f.mb[k]? with
        | none => 0
        | some M => g k M) = mbS f g k := by
        cases e : f.mb[k]? with
        | none => exact Rat.add_zero _
        | some M =>
          have hb := (h k M e).2
          have := (g k M).den_pos
          omega
      rw [hz]
      exact (mbS_bd h k).mono (by omega)
theorem wyM_mem {f : Fr} {M : Mb} (ok : MemOk f M) : ∀ w ∈ wyM M, w ∈ waysW f.nd.length := by
  intro w hw
  have hi := ok.i
  have hj := ok.j
  rw [waysW_mem]
  simp only [wyM, List.mem_cons, List.not_mem_nil, or_false] at hw
  rcases hw with rfl | rfl | rfl | rfl | rfl | rfl <;> exact ⟨by assumption, by simp⟩
theorem wyM_3 {M : Mb} : ∀ w ∈ wyM M, w.2 < 3 := by
  intro w hw
  simp only [wyM, List.mem_cons, List.not_mem_nil, or_false] at hw
  rcases hw with rfl | rfl | rfl | rfl | rfl | rfl <;> simp
theorem wyM_nd {M : Mb} (h : M.i ≠ M.j) : (wyM M).Nodup := by
  have := wy_nd h
  exact nd_of_map this
theorem atE_ways (M : Mb) (c s : Int) (e : Nat → Rat) : (atE M c s e).map (·.1) = wyM M := rfl
theorem getR_out {L : List (Way × Rat)} {w : Way} (h : ∀ z ∈ L, z.1.2 < 3) (h2 : w.2 < 3) (hn : w ∉ L.map (·.1)) : getR L w = 0 := by
  induction L with
  | nil => rfl
  | cons z L ih =>
    rw [List.map_cons, List.mem_cons, not_or] at hn
    rw [getR_cons, if_neg (fun q => hn.1 (wK_inj (h z (List.mem_cons_self ..)) h2 q).symm)]
    exact ih (fun z hz => h z (List.mem_cons_of_mem _ hz)) hn.2
theorem getR_at {L : List (Way × Rat)} {l : Nat} {z : Way × Rat} (h : ∀ z ∈ L, z.1.2 < 3) (n : (L.map (·.1)).Nodup) (hl : L[l]? = some z) : getR L z.1 = z.2 := by
  induction L generalizing l with
  | nil => simp at hl
  | cons y L ih =>
    rw [List.map_cons, List.nodup_cons] at n
    rw [getR_cons]
    cases l with
    | zero =>
      have : y = z := by simpa using hl
      subst this
      rw [if_pos rfl]
    | succ l =>
      have hl2 : L[l]? = some z := by simpa using hl
      have hz := List.mem_of_getElem? hl2
      rw [if_neg (fun q => n.1 (by rw [wK_inj (h y (List.mem_cons_self ..)) (h z (List.mem_cons_of_mem _ hz)) q]; exact List.mem_map_of_mem hz))]
      exact ih (fun z hz => h z (List.mem_cons_of_mem _ hz)) n.2 hl2
end BW

namespace BW
open PySem PySem.Spec PyProof.Rows L2
/-! ### the cells of the system -/
def cellsI (LL : Nat → List (Way × Rat)) (N : Nat) : List Cell := (List.range N).map fun i => .M (tR (LL i))
theorem cellsI_len (LL : Nat → List (Way × Rat)) (N : Nat) : (cellsI LL N).length = N := by simp [cellsI]
theorem cI {LL : Nat → List (Way × Rat)} {N i : Nat} {t : List Cell} (h : i < N) : (cellsI LL N ++ t)[i]? = some (.M (tR (LL i))) := by
  rw [List.getElem?_append_left (by rw [cellsI_len]; exact h), cellsI, List.getElem?_map, List.getElem?_range h]
  rfl
theorem c0 {c : List Cell} {N : Nat} {a : Cell} {t : List Cell} (h : c.length = N) : (c ++ a :: t)[N]? = some a := by
  rw [List.getElem?_append_right (by omega), h, Nat.sub_self]
  rfl
theorem c1 {c : List Cell} {N : Nat} {a b : Cell} {t : List Cell} (h : c.length = N) : (c ++ a :: b :: t)[N + 1]? = some b := by
  rw [List.getElem?_append_right (by omega), h, Nat.add_sub_cancel_left]
  rfl
theorem cI_set {LL : Nat → List (Way × Rat)} {N i : Nat} {t : List Cell} {L : List (Way × Rat)} (h : i < N) : (cellsI LL N ++ t).set i (.M (tR L)) = cellsI (fun j => if j = i then L else LL j) N ++ t := by
  rw [List.set_append, if_pos (by rw [cellsI_len]; exact h)]
  unfold cellsI
  have := map_set (g := fun j => Cell.M (tR (LL j))) (g' := fun j => Cell.M (tR (if j = i then L else LL j))) h fun j _ hj => by
    show Cell.M (tR (if j = i then L else LL j)) = _
    rw [if_neg hj]
  rw [← this]
  simp
theorem c1_set {c : List Cell} {N : Nat} {a b b' : Cell} (h : c.length = N) : (c ++ [a, b]).set (N + 1) b' = c ++ [a, b'] := by
  rw [List.set_append, if_neg (by omega), h, Nat.add_sub_cancel_left]
  rfl
def rowsKV (L : List Way) : List (List Key × Rv) := L.map fun w => (wK w, .own (wyIx w))
theorem lk_tR' (L : List (Way × Rat)) (w : Way) : (lk (tR L) (wK w)).getD (.dat (rt 0)) = .dat (rt (getR L w)) := by
  have := lk_tR L w
  rw [show ((tD L).map fun p => (p.1, Rv.dat p.2)) = tR L by simp [tD, tR]] at this
  exact this
theorem ways3 {n : Nat} : ∀ w ∈ waysW n, w.2 < 3 := fun w h => (waysW_mem.mp h).2
/-- the cells become data -/
theorem ds_frzN {X : Cx} {ρ : Rho} {J : Jm} {ss : List Stmt} {LL : Nat → List (Way × Rat)} {N : Nat} {t : List Cell} (h : Ds X ρ (((List.range N).map fun i => Cell.Z (dD (tD (LL i)))) ++ t) ss J) : Ds X ρ (cellsI LL N ++ t) ss J := by
  have key : ∀ c, c ≤ N → Ds X ρ (((List.range N).map fun i => if i < c then Cell.Z (dD (tD (LL i))) else .M (tR (LL i))) ++ t) ss J → Ds X ρ (cellsI LL N ++ t) ss J := by
    intro c
    induction c with
    | zero =>
      intro _ h
      rw [show cellsI LL N = (List.range N).map fun i => if i < 0 then Cell.Z (dD (tD (LL i))) else .M (tR (LL i)) by simp [cellsI]]
      exact h
    | succ c ih =>
      intro hc h
      refine ih (by omega) (ds_frzM (n := c) (kvs := tR (LL c)) (tD (LL c)) ?_ (asd_all _ _) ?_)
      · rw [List.getElem?_append_left (by simp; omega), List.getElem?_map, List.getElem?_range (by omega)]
        simp
      · rw [List.set_append, if_pos (by simp; omega)]
        have := map_set (N := N) (k := c) (g := fun i => if i < c then Cell.Z (dD (tD (LL i))) else .M (tR (LL i))) (g' := fun i => if i < c + 1 then Cell.Z (dD (tD (LL i))) else .M (tR (LL i))) (by omega) fun i _ hi => by
          have : (i < c + 1) ↔ (i < c) := by omega
          simp only [this]
        rw [← this] at h
        simpa using h
  refine key N (Nat.le_refl _) ?_
  have e : ((List.range N).map fun i => if i < N then Cell.Z (dD (tD (LL i))) else .M (tR (LL i))) = (List.range N).map fun i => Cell.Z (dD (tD (LL i))) := by
    apply List.map_congr_left
    intro i hi
    rw [if_pos (List.mem_range.mp hi)]
  rw [e]
  exact h
theorem asd_st (μ : Mu) (g : Way → Rat) : ∀ L : List Way, Paired (fun (p : List Key × Rv) (q : List Key × PyData) => p.1 = q.1 ∧ AsD μ p.2 q.2) (stK L g) (L.map fun w => (wK w, rt (g w)))
  | [] => .nil
  | _ :: L => .cons ⟨rfl, .dat⟩ (asd_st μ g L)
theorem plain22 {k s L : Int} (hk : k ≠ 0) (hL : L ≠ 0) : plainS k s L 2 2 ≠ 0 ∧ plainS k s L 5 5 ≠ 0 := by
  have e : Rat.divInt (4 * k) L ≠ 0 := by
    rw [Rat.divInt_eq_div]
    have h1 : ((4 * k : Int) : Rat) ≠ 0 := fun z => by
      have : (4 * k : Int) = 0 := Rat.intCast_inj.mp z
      omega
    have h2 : (L : Rat) ≠ 0 := fun z => hL (by simpa using z)
    grind
  exact ⟨e, e⟩
theorem take_mem {L : List Way} {l : Nat} {x o : Way} (h : L[l]? = some x) : o ∈ L.take (l + 1) ↔ o ∈ L.take l ∨ o = x := by
  rw [List.take_add_one, h, List.mem_append]
  simp
theorem nd_take {L : List Way} {l : Nat} {x : Way} (n : L.Nodup) (h : L[l]? = some x) : x ∉ L.take l := by
  obtain ⟨hl, e⟩ := List.getElem?_eq_some_iff.mp h
  have h2 := List.take_append_drop l L
  rw [List.drop_eq_getElem_cons hl, e] at h2
  rw [← h2, List.nodup_append] at n
  exact fun z => n.2.2 x z x (List.mem_cons_self ..) rfl
theorem pairD_tD (L : List (Way × Rat)) : pairD (tD L) = L.map fun z => .tuple [keyD (wK z.1), rt z.2] := by simp [pairD, tD]
theorem atM_get {f : Fr} {M : Mb} {e : Nat → Rat} {l : Nat} {z : Way × Rat} (ne : M.i ≠ M.j) (h : (atM f M e)[l]? = some z) : (wyM M)[l]? = some z.1 ∧ getR (atM f M e) z.1 = z.2 := by
  refine ⟨?_, ?_⟩
  · rw [← atE_ways M (cM f M) (sM f M) e, List.getElem?_map]
    show Option.map _ (atM f M e)[l]? = _
    rw [h]
    rfl
  · refine getR_at (l := l) (fun z hz => ?_) ?_ h
    · exact wyM_3 z.1 (by rw [← atE_ways M (cM f M) (sM f M) e]; exact List.mem_map_of_mem hz)
    · show ((atE M (cM f M) (sM f M) e).map (·.1)).Nodup
      rw [atE_ways]
      exact wyM_nd ne
theorem atM_out {f : Fr} {M : Mb} {e : Nat → Rat} {o : Way} (h2 : o.2 < 3) (h : o ∉ wyM M) : getR (atM f M e) o = 0 := by
  refine getR_out (fun z hz => ?_) h2 ?_
  · exact wyM_3 z.1 (by rw [← atE_ways M (cM f M) (sM f M) e]; exact List.mem_map_of_mem hz)
  · show o ∉ (atE M (cM f M) (sM f M) e).map (·.1)
    rw [atE_ways]
    exact h
structure FrW (f : Fr) : Prop where
  n : f.nd.length ≤ 300
  m : f.mb.length ≤ 8
  ok : ∀ M ∈ f.mb, MemOk f M
  k0 : ∀ M ∈ f.mb, M.k ≠ 0
theorem SM_bd {f : Fr} {h : Hg} {m : Nat} {M : Mb} (ok : MemOk f M) (k0 : M.k ≠ 0) (i j : Nat) : Bd 300 (SM f h m M i j) :=
  (memS_bd (plain22 k0 ok.far0).1 (plain22 k0 ok.far0).2 (plainS_bd ok.k ok.st ok.farS ok.far0) i j).mono (by decide)
theorem FM_bd {f : Fr} {h : Hg} {m : Nat} {M : Mb} {F : Nat → Rat} (ok : MemOk f M) (k0 : M.k ≠ 0) (hF : ∀ i, Bd 1000 (F i)) (i : Nat) : Bd 4100 (FM f h m M F i) :=
  (memF_bd (b := 1000) (plain22 k0 ok.far0).1 (plain22 k0 ok.far0).2 (fun i j => (plainS_bd ok.k ok.st ok.farS ok.far0 i j).mono (by decide)) hF i).mono (by decide)
theorem SuM_bd {f : Fr} {h : Hg} {m : Nat} {M : Mb} (ok : MemOk f M) (k0 : M.k ≠ 0) (w : Way) (i : Nat) : Bd 4000 (SuM f h m M (unit w) i) :=
  (dot_bd (b := 300) (fun j => SM_bd ok k0 i j) (fun j => (tE_bd ok.c ok.s (fun v => unit_bd w v) j).mono (by decide)) 6).mono (by decide)
theorem kM_bd {f : Fr} {h : Hg} {m : Nat} {M : Mb} (ok : MemOk f M) (k0 : M.k ≠ 0) (o w : Way) : Bd 8100 (kM f h m M o w) := by
  unfold kM
  split
  · exact (getR_bd (atE_bd ok.c ok.s (SuM_bd ok k0 w)) (by decide) o).mono (by decide)
  · exact Bd.zero.mono (by decide)
theorem gM_bd {f : Fr} {h : Hg} {m : Nat} {M : Mb} {F : Nat → Rat} (ok : MemOk f M) (k0 : M.k ≠ 0) (hF : ∀ i, Bd 1000 (F i)) (o : Way) : Bd 8300 (gM f h m M F o) :=
  (getR_bd (atE_bd ok.c ok.s (FM_bd ok k0 hF)) (by decide) o).mono (by decide)
theorem sysK_bd {f : Fr} {h : Hg} (H : FrW f) {k : Nat} (hk : k ≤ 8) (o w : Way) : Bd 70000 (sysK f h k o w) :=
  (mbS_bd (b := 8100) (fun m M hM => kM_bd (H.ok M (List.mem_of_getElem? hM)) (H.k0 M (List.mem_of_getElem? hM)) o w) k).mono (by omega)
theorem sysG_bd {f : Fr} {h : Hg} {fix : Nat → Nat → Rat} (H : FrW f) (hF : ∀ m i, Bd 1000 (fix m i)) {k : Nat} (hk : k ≤ 8) (o : Way) : Bd 70000 (sysG f h fix k o) :=
  ((mbS_bd (b := 8300) (fun m M hM => gM_bd (H.ok M (List.mem_of_getElem? hM)) (H.k0 M (List.mem_of_getElem? hM)) (hF m) o) k).mono (by omega)).neg
def rowsD (f : Fr) (LL : Nat → List (Way × Rat)) : List (List Key × PyData) := (waysW f.nd.length).map fun w => (wK w, dD (tD (LL (wyIx w))))
def goalD (f : Fr) (g : Way → Rat) : List (List Key × PyData) := (waysW f.nd.length).map fun w => (wK w, rt (g w))
section
variable {P : Program} {w : World} {K : PySem.W.Frag} {mg : Str → Option Value} {base : Heap}
def tf_system : Tf := fun ds G => ∃ f h fix, ds = [frD f, .tuple (hgL h), matD fix f.mb.length 6] ∧ FrW f ∧ (∀ m i, Bd 1000 (fix m i)) ∧
  ∀ LL : Nat → List (Way × Rat), (∀ o ∈ waysW f.nd.length, ∀ v : Way, v.2 < 3 → getR (LL (wyIx o)) v = sysK f h f.mb.length o v) → G (.tuple [dD (rowsD f LL), dD (goalD f (sysG f h fix f.mb.length))])
theorem can_system (T : Txt K mg) (c_member : Can P w K mg base "member_rows" 45 p_member_rows (PureSp K tf_member)) (c_at : Can P w K mg base "at_nodes" 43 p_at_nodes (PureSp K tf_at)) (c_unit : Can P w K mg base "unit_columns" 44 p_unit_columns (PureSp K tf_unit))
    (c_inner : Can P w K mg base "inner" 44 p_inner (PureSp K tf_inner)) (c_plus : Can P w K mg base "plus" 42 p_plus (PureSp K tf_plus)) (c_minus : Can P w K mg base "minus" 43 p_minus (PureSp K tf_minus)) : Can P w K mg base "system" 46 p_system (PureSp K tf_system) := by
  refine can_pure 44 T sc_system (fun _ _ _ _ _ _ us hl => match us, hl with | [_, _, _], _ => rfl) (fun ds G h => by obtain ⟨f, h, F, rfl, _⟩ := h; rfl) fun fa cdv B outer s H E hr ds G h => ?_
  obtain ⟨f, h, fix, rfl, hW, hF, hG⟩ := h
  have hn := hW.n
  refine ds_setLc2 (own := [("node", 14), ("letter", 15)]) (vs1 := [15]) sc_system.nd (blkOk_by (by kernel_rfl)) (by decide) (i := 3) rfl (im_range1 rfl T.b_range (dm_len rfl T.b_len (ixT (nm 0 ⟨_, _, rfl, rfl, _, .dat rfl, im ⟨by omega, ?_, fun i μ acc => μ = [] ∧ acc = wDs (waysW i), ⟨rfl, rfl⟩, ?_, ?_⟩⟩))))
  · simp
    omega
  · rintro i d μ acc hd ⟨rfl, rfl⟩ b
    have hi : i < f.nd.length := by
      have := (List.getElem?_eq_some_iff.mp hd).1
      rw [rangeD_len] at this
      simpa using this
    rw [rangeD_get (by simpa using hi)] at hd
    obtain rfl := Option.some.inj hd
    refine gj_name (i := 14) sc_system.nd rfl ?_
    intro b
    refine im_LET T ⟨fun j μ acc => μ = [] ∧ acc = wDs (waysW i ++ ([0, 1, 2].take j).map fun l => (i, l)), ⟨rfl, by simp⟩, ?_, ?_⟩
    · rintro j d1 μ acc hd1 ⟨rfl, rfl⟩ b
      rw [List.getElem?_map] at hd1
      obtain ⟨l, hl, rfl⟩ := Option.map_eq_some_iff.mp hd1
      obtain ⟨hj, hl2⟩ := List.getElem?_eq_some_iff.mp hl
      refine gj_name (i := 15) sc_system.nd rfl ?_
      intro b
      refine dm_tup (ac (nm 14 (dmm (a1 (nm 15 (dmm ⟨by simp, ?_, rfl, ?_⟩))))))
      · unfold wDs
        rw [List.length_map, List.length_append, waysW_len, List.length_map, List.length_take]
        have : min j ([0, 1, 2] : List Nat).length ≤ 3 := Nat.min_le_right _ _
        omega
      · rw [List.take_succ_eq_append_getElem hj, hl2]
        simp [wDs, wD, keyD, wK, kD]
    · rintro μ acc ⟨rfl, rfl⟩
      refine ⟨rfl, ?_⟩
      rw [waysW_succ]
      rfl
  · rintro μ acc ⟨rfl, rfl⟩
    refine ⟨(waysW f.nd.length).map wD, by rw [rangeD_len]; simp [wDs], ?_⟩
    have hwl : (waysW f.nd.length).length = 3 * f.nd.length := waysW_len _
    have hw3 : ∀ w ∈ waysW f.nd.length, w.2 < 3 := ways3
    have hnd : ((waysW f.nd.length).map wK).Nodup := nd_wK hw3 (waysW_nd _)
    refine ds_setDc (own := [("way", 9)]) sc_system.nd (u1 hr) (blkOk_by (by kernel_rfl)) (i := 4) rfl (im_list (nm 3 (lm ⟨fun i μ acc => μ = List.replicate i (.M []) ∧ acc = rowsKV ((waysW f.nd.length).take i), ⟨rfl, rfl⟩, ?_, ?_⟩)))
    · rintro i d μ acc hd ⟨rfl, rfl⟩ b
      rw [List.getElem?_map] at hd
      obtain ⟨v, hv, rfl⟩ := Option.map_eq_some_iff.mp hd
      obtain ⟨hi, hv2⟩ := List.getElem?_eq_some_iff.mp hv
      have hix : wyIx v = i := by
        rw [hwl] at hi
        rw [waysW_get hi] at hv
        obtain rfl := Option.some.inj hv
        unfold wyIx
        show 3 * (i / 3) + i % 3 = i
        omega
      refine gj_name (i := 9) sc_system.nd rfl (fun b => ⟨fun _ b => nm 9 (fun b => dm_dctO ⟨wK v, rfl, rfl, ?_, ?_, ?_⟩), fun z => (by cases z)⟩)
      · unfold rowsKV
        rw [List.length_map, List.length_take]
        omega
      · rw [← List.replicate_succ']
      · rw [List.length_replicate, pk_new, List.take_succ_eq_append_getElem hi, hv2]
        · simp [rowsKV, hix]
        · unfold rowsKV
          rw [List.map_map]
          refine pre_new hnd ?_
          rw [← hv2, ← List.take_succ_eq_append_getElem hi]
          exact List.take_prefix _ _
    rintro μ acc ⟨rfl, rfl⟩
    rw [List.length_map, List.take_length, List.length_replicate]
    have e0 : List.replicate (waysW f.nd.length).length (Cell.M []) = cellsI (fun _ => []) (3 * f.nd.length) := by
      rw [hwl]
      unfold cellsI
      simp [List.map_const', tR]
    rw [e0, hwl]
    refine ds_setDc (own := [("way", 9)]) sc_system.nd (u1 hr) (blkOk_by (by kernel_rfl)) (i := 5) rfl (im_list (nm 3 (lm ?_)))
    refine dc_mapL (waysW f.nd.length) wD wK (fun _ => rt 0) (by omega) hnd (fun _ _ => rfl) (fun v hv b => gj_name (i := 9) sc_system.nd rfl (fun b => nm 9 ⟨rfl, fun b => dmZERO T ⟨rfl, rfl⟩⟩)) ?_
    rw [List.length_append, cellsI_len, List.append_assoc]
    show Ds _ _ (cellsI (fun _ => []) (3 * f.nd.length) ++ [.M (rowsKV (waysW f.nd.length)), .M _]) _ _
    rw [show (((waysW f.nd.length).map fun x => (wK x, rt 0)).map fun p => (p.1, Rv.dat p.2)) = stK (waysW f.nd.length) fun _ => 0 by simp [stK]]
    generalize hNdef : 3 * f.nd.length = N at hwl ⊢
    generalize hwd : waysW f.nd.length = ways at hwl hw3 hnd ⊢
    have hixN : ∀ w ∈ ways, wyIx w < N := fun w hw => by
      rw [← hNdef]
      rw [← hwd] at hw
      exact wyIx_lt hw
    have hN9 : N ≤ 900 := by omega
    have lkR : ∀ w ∈ ways, lk (rowsKV ways) (wK w) = some (.own (wyIx w)) := fun w hw => lk_in (g := fun w => Rv.own (wyIx w)) hw3 hw
    refine ds_for PassesOwn.never (im_range1 rfl T.b_range (dm_len rfl T.b_len (ixT (nm 0 ⟨_, _, rfl, rfl, _, .dat rfl, ?_⟩))))
    rw [List.length_map, List.length_map]
    have hm8 := hW.m
    refine im ⟨by omega, by omega, fun k ρ μ => ∃ LL gF, ((∃ o6 o7 o8 o9 o10 o11 o12 o13 o14 o15 o16, ρ = [some (.dat (frD f)), some (.dat (.tuple (hgL h))), some (.dat (matD fix f.mb.length 6)), some (.dat (.list (ways.map wD))), some (.own N), some (.own (N + 1)), o6, o7, o8, o9, o10, o11, o12, o13, o14, o15, o16]) ∧ μ = cellsI LL N ++ [.M (rowsKV ways), .M (stK ways gF)]) ∧
      (∀ i, (LL i).length ≤ 36 * k) ∧ (∀ o ∈ ways, ∀ v : Way, v.2 < 3 → getR (LL (wyIx o)) v = sysK f h k o v) ∧ ∀ o ∈ ways, gF o = sysG f h fix k o, ⟨fun _ => [], fun _ => 0, ⟨⟨_, _, _, _, _, _, _, _, _, _, _, rfl⟩, rfl⟩, fun _ => by simp, fun _ _ _ _ => rfl, fun _ _ => ?_⟩, ?_, ?_⟩
    · unfold sysG mbS
      rw [Rat.neg_zero]
    · rintro k d ρ μ hd ⟨LL, gF, ⟨⟨o6, o7, o8, o9, o10, o11, o12, o13, o14, o15, o16, rfl⟩, rfl⟩, hlen, hLL, hgF⟩
      have hk := (List.getElem?_eq_some_iff.mp hd).1
      rw [rangeD_len, Int.toNat_natCast] at hk
      rw [rangeD_get (by rw [Int.toNat_natCast]; exact hk), Int.zero_add] at hd
      obtain rfl := Option.some.inj hd
      have hMb := List.getElem?_eq_getElem hk
      have ok := hW.ok _ (List.getElem_mem hk)
      have k0 := hW.k0 _ (List.getElem_mem hk)
      have sK : ∀ o v, sysK f h (k + 1) o v = sysK f h k o v + kM f h k f.mb[k] o v := fun o v => mbS_succ hMb
      have sG : ∀ o, sysG f h fix (k + 1) o = sysG f h fix k o - gM f h k f.mb[k] (fix k) o := fun o => by
        unfold sysG
        rw [mbS_succ hMb]
        grind
      have wym := wyM_mem ok
      rw [hwd] at wym
      have wynd := wyM_nd ok.ne
      have bdK := fun o v => sysK_bd (h := h) hW (k := k) (by omega) o v
      have bdG := fun o => sysG_bd (h := h) hW hF (k := k) (by omega) o
      have hSB := fun i j => SM_bd (f := f) (h := h) (m := k) ok k0 i j
      generalize f.mb[k] = M at hMb ok k0 sK sG wym wynd hSB
      refine gm_name sc_system.nd (i := 6) rfl ?_
      refine ds_asg (dm_call c_member hr rfl (ac (nm 0 (dmm (ac (nm 1 (dmm (ac (nm 6 (dmm ?_))))))))))
      refine a1 (ixE (nm 2 (nm 6 (im ⟨_, _, .inr rfl, row_get hk, dmm ⟨f, h, k, M, _, _, fix k, 1000, rfl, ok.at hMb, ok.far0, ok.k, ok.st, ok.farS, (plain22 k0 ok.far0).1, (plain22 k0 ok.far0).2, hF k, by decide, by decide, ?_⟩⟩))))
      refine gm_of_j (js := [7, 8]) (gj_tup (gjs_cons (gj_name (i := 7) sc_system.nd rfl (gjs_cons (gj_name (i := 8) sc_system.nd rfl (gjs_nil ?_))))))
      -- the goal
      refine ds_for PassesOwn.never (im_pairs (dm_call c_at (hr.mono (by decide)) rfl (ac (nm 0 (dmm (ac (nm 6 (dmm ?_))))))))
      refine a1 (dm_tuple rfl T.b_tuple (nm 8 ⟨_, .lst, dmm ⟨f, k, M, _, _, FM f h k M (fix k), 4100, rfl, ok.at hMb, ok.far0, ok.c, ok.s, ok.ne, FM_bd ok k0 (hF k), by decide, _, rfl, ?_⟩⟩))
      refine ⟨fun l ρ μ => ∃ g1, ((∃ o9 o10 o11 o12 o13 o14 o15 o16, ρ = [some (.dat (frD f)), some (.dat (.tuple (hgL h))), some (.dat (matD fix f.mb.length 6)), some (.dat (.list (ways.map wD))), some (.own N), some (.own (N + 1)), some (.dat (.int (k : Nat))), some (.dat (matD (SM f h k M) 6 6)), some (.dat (.list (eD (FM f h k M (fix k)) 6))), o9, o10, o11, o12, o13, o14, o15, o16]) ∧ μ = cellsI LL N ++ [.M (rowsKV ways), .M (stK ways g1)]) ∧
        ∀ o ∈ ways, g1 o = sysG f h fix k o - if o ∈ (wyM M).take l then gM f h k M (fix k) o else 0, ⟨gF, ⟨⟨_, _, _, _, _, _, _, _, rfl⟩, rfl⟩, fun o ho => by rw [hgF o ho]; simp; grind⟩, ?_, ?_⟩
      · rintro l d ρ μ hd ⟨g1, ⟨⟨o9, o10, o11, o12, o13, o14, o15, o16, rfl⟩, rfl⟩, hg1⟩
        rw [pairD_tD, List.getElem?_map] at hd
        obtain ⟨z, hz, rfl⟩ := Option.map_eq_some_iff.mp hd
        obtain ⟨hzw, hzv⟩ := atM_get (f := f) ok.ne hz
        have hzin := wym z.1 (List.mem_of_getElem? hzw)
        have hnt := nd_take wynd hzw
        have hg1z : g1 z.1 = sysG f h fix k z.1 := by
          rw [hg1 z.1 hzin, if_neg hnt]
          grind
        have hz2 : Bd 8300 z.2 := by
          rw [← hzv]
          exact gM_bd ok k0 (hF k) z.1
        refine gm_of_j (js := [9, 10]) (gj_tup (gjs_cons (gj_name (i := 9) sc_system.nd rfl (gjs_cons (gj_name (i := 10) sc_system.nd rfl (gjs_nil ?_))))))
        refine ds_dput (u1 hr) (dm_call c_minus (hr.mono (by decide)) rfl (ac (dm_dget (u1 hr) (nm 5 (nm 9 ⟨wK z.1, _, _, rfl, rfl, .own (c1 (cellsI_len _ _)), lk_st hw3 hzin, dmm ?_⟩)))))
        refine a1 (nm 10 (dmm ⟨_, _, rfl, (by rw [hg1z]; exact (bdG _).sm (by decide)), hz2.sm (by decide), ?_⟩))
        refine nm 5 (nm 9 ⟨N + 1, wK z.1, _, rfl, rfl, rfl, c1 (cellsI_len _ _), by simp [stK]; omega, ds_nil ⟨_, ⟨⟨_, _, _, _, _, _, _, _, rfl⟩, by rw [c1_set (cellsI_len _ _), pk_st hw3 hzin]⟩, fun o ho => ?_⟩⟩)
        by_cases e : o = z.1
        · subst e
          have hin : z.1 ∈ (wyM M).take (l + 1) := (take_mem hzw).mpr (.inr rfl)
          show (if z.1 = z.1 then g1 z.1 - z.2 else g1 z.1) = _
          rw [if_pos rfl, if_pos hin, hg1z]
          unfold gM
          rw [hzv]
        · have hin : o ∈ (wyM M).take (l + 1) ↔ o ∈ (wyM M).take l := by
            rw [take_mem hzw]
            exact ⟨fun q => q.resolve_right e, .inl⟩
          show (if o = z.1 then g1 z.1 - z.2 else g1 o) = _
          rw [if_neg e, hg1 o ho]
          simp only [hin]
      rintro ρ μ ⟨g1, ⟨⟨o9, o10, o11, o12, o13, o14, o15, o16, rfl⟩, rfl⟩, hg1⟩
      have hg2 : ∀ o ∈ ways, g1 o = sysG f h fix (k + 1) o := fun o ho => by
        rw [hg1 o ho, pairD_tD, List.length_map, show (atE M (cc (ndA f M.i) (ndA f M.j)) (ss (ndA f M.i) (ndA f M.j)) (FM f h k M (fix k))).length = (wyM M).length from rfl, List.take_length, sG]
        by_cases e : o ∈ wyM M
        · rw [if_pos e]
        · rw [if_neg e]
          unfold gM
          rw [atM_out (hw3 o ho) e]
      clear hg1
      -- the stiffness
      refine ds_for PassesOwn.never (im_list (dm_call c_unit (hr.mono (by decide)) rfl (ac (nm 0 (dmm (a1 (nm 6 (dmm ⟨f, k, M, _, _, rfl, ok.at hMb, ok.far0, ok.c, ok.s, ok.ne, lm ⟨fun j ρ μ => ∃ LL1, ((∃ o9 o10 o11 o12 o13 o14 o15 o16, ρ = [some (.dat (frD f)), some (.dat (.tuple (hgL h))), some (.dat (matD fix f.mb.length 6)), some (.dat (.list (ways.map wD))), some (.own N), some (.own (N + 1)), some (.dat (.int (k : Nat))), some (.dat (matD (SM f h k M) 6 6)), some (.dat (.list (eD (FM f h k M (fix k)) 6))), o9, o10, o11, o12, o13, o14, o15, o16]) ∧ μ = cellsI LL1 N ++ [.M (rowsKV ways), .M (stK ways g1)]) ∧ (∀ i, (LL1 i).length ≤ 36 * k + 6 * j) ∧ ∀ o ∈ ways, ∀ v : Way, v.2 < 3 → getR (LL1 (wyIx o)) v = sysK f h k o v + if v ∈ (wyM M).take j then getR (atM f M (SuM f h k M (unit v))) o else 0, ⟨LL, ⟨⟨_, _, _, _, _, _, _, _, rfl⟩, rfl⟩, fun i => by have := hlen i; omega, fun o ho v hv => by rw [hLL o ho v hv]; simp; grind⟩, ?_, ?_⟩⟩))))))))
      · rintro j d ρ μ hd ⟨LL1, ⟨⟨o9, o10, o11, o12, o13, o14, o15, o16, rfl⟩, rfl⟩, hlen1, hLL1⟩
        rw [List.getElem?_map] at hd
        obtain ⟨v, hv, rfl⟩ := Option.map_eq_some_iff.mp hd
        have hj : j < 6 := (List.getElem?_eq_some_iff.mp hv).1
        have hvt := nd_take wynd hv
        have hv3 := wyM_3 v (List.mem_of_getElem? hv)
        refine gm_of_j (js := [9, 11]) (gj_tup (gjs_cons (gj_name (i := 9) sc_system.nd rfl (gjs_cons (gj_name (i := 11) sc_system.nd rfl (gjs_nil ?_))))))
        refine ds_asg (dm_tuple rfl T.b_tuple (dm_lc (own := [("row", 16)]) sc_system.nd (blkOk_by (by kernel_rfl)) (im_list (nm 7 (lm ?_)))))
        refine lc_mapL (List.range 6) (fun i => .list (eD (SM f h k M i) 6)) (fun i => rt (SuM f h k M (unit v) i)) (by decide) (fun i hi b => gj_name (i := 16) sc_system.nd rfl (fun b => ?_)) ⟨_, rfl, _, .lst, ?_⟩
        · exact dm_call (X := Bk _ _ b) c_inner (hr.mono (by decide)) rfl (ac (nm 16 (dmm (a1 (nm 11 (dmm ⟨SM f h k M i, tM f M (unit v), 6, 300, rfl, fun j => hSB i j, fun j => (tE_bd ok.c ok.s (fun x => unit_bd v x) j).mono (by decide), by decide, by decide, by decide, rfl, rfl⟩))))))
        refine gm_name sc_system.nd (i := 12) rfl ?_
        refine ds_for PassesOwn.never (im_pairs (dm_call c_at (hr.mono (by decide)) rfl (ac (nm 0 (dmm (ac (nm 6 (dmm ?_))))))))
        refine a1 (nm 12 (dmm ⟨f, k, M, _, _, SuM f h k M (unit v), 4000, rfl, ok.at hMb, ok.far0, ok.c, ok.s, ok.ne, SuM_bd ok k0 v, by decide, _, rfl, ?_⟩))
        refine ⟨fun l ρ μ => ∃ LL2, ((∃ o10 o13 o14 o15 o16, ρ = [some (.dat (frD f)), some (.dat (.tuple (hgL h))), some (.dat (matD fix f.mb.length 6)), some (.dat (.list (ways.map wD))), some (.own N), some (.own (N + 1)), some (.dat (.int (k : Nat))), some (.dat (matD (SM f h k M) 6 6)), some (.dat (.list (eD (FM f h k M (fix k)) 6))), some (.dat (wD v)), o10, some (.dat (.list (eD (tE M (cc (ndA f M.i) (ndA f M.j)) (ss (ndA f M.i) (ndA f M.j)) (unit v)) 6))), some (.dat (.tuple (eD (SuM f h k M (unit v)) 6))), o13, o14, o15, o16]) ∧ μ = cellsI LL2 N ++ [.M (rowsKV ways), .M (stK ways g1)]) ∧
          (∀ i, (LL2 i).length ≤ 36 * k + 6 * j + l) ∧ ∀ o ∈ ways, ∀ v' : Way, v'.2 < 3 → getR (LL2 (wyIx o)) v' = sysK f h k o v' + if v' ∈ (wyM M).take j then getR (atM f M (SuM f h k M (unit v'))) o else if v' = v ∧ o ∈ (wyM M).take l then getR (atM f M (SuM f h k M (unit v))) o else 0, ⟨LL1, ⟨⟨_, _, _, _, _, rfl⟩, rfl⟩, fun i => by have := hlen1 i; omega, fun o ho v' hv' => by rw [hLL1 o ho v' hv']; simp⟩, ?_, ?_⟩
        · rintro l d ρ μ hd ⟨LL2, ⟨⟨o10, o13, o14, o15, o16, rfl⟩, rfl⟩, hlen2, hLL2⟩
          rw [pairD_tD, List.getElem?_map] at hd
          obtain ⟨z, hz, rfl⟩ := Option.map_eq_some_iff.mp hd
          obtain ⟨hzw, hzv⟩ := atM_get (f := f) ok.ne hz
          have hl : l < 6 := (List.getElem?_eq_some_iff.mp hzw).1
          have hzin := wym z.1 (List.mem_of_getElem? hzw)
          have hnt := nd_take wynd hzw
          have hix := hixN z.1 hzin
          have hval : getR (LL2 (wyIx z.1)) v = sysK f h k z.1 v := by
            rw [hLL2 z.1 hzin v hv3, if_neg hvt, if_neg (fun q => hnt q.2)]
            grind
          have hz2 : Bd 8100 z.2 := by
            rw [← hzv]
            exact (getR_bd (atE_bd ok.c ok.s (SuM_bd ok k0 v)) (by decide) z.1).mono (by decide)
          refine gm_of_j (js := [13, 10]) (gj_tup (gjs_cons (gj_name (i := 13) sc_system.nd rfl (gjs_cons (gj_name (i := 10) sc_system.nd rfl (gjs_nil ?_))))))
          refine ds_dput (u1 hr) (dm_call c_plus (hr.mono (by decide)) rfl (ac (dm_dget2 (u1 hr) (dm_dget (u1 hr) (nm 4 (nm 13 ⟨wK z.1, _, .own (wyIx z.1), rfl, rfl, .own (c0 (cellsI_len _ _)), lkR z.1 hzin, _, .own (cI hix), nm 9 (dmZERO T ⟨wK v, _, rfl, rfl, .own (cI hix), ?_⟩)⟩))))))
          rw [lk_tR']
          refine dmm (a1 (nm 10 (dmm ⟨_, _, rfl, (by rw [hval]; exact (bdK _ _).sm (by decide)), hz2.sm (by decide), ?_⟩)))
          refine dm_dget (u1 hr) (nm 4 (nm 13 ⟨wK z.1, _, .own (wyIx z.1), rfl, rfl, .own (c0 (cellsI_len _ _)), lkR z.1 hzin, nm 9 ⟨wyIx z.1, wK v, _, rfl, rfl, rfl, cI hix, ?_, ds_nil ⟨_, ⟨⟨_, _, _, _, _, rfl⟩, by rw [pk_tR, cI_set hix]⟩, fun i => ?_, fun o ho v' hv' => ?_⟩⟩⟩))
          · rw [tR_len]
            have := hlen2 (wyIx z.1)
            omega
          · show (if i = wyIx z.1 then pkW (LL2 (wyIx z.1)) v (getR (LL2 (wyIx z.1)) v + z.2) else LL2 i).length ≤ _
            split
            · have h1 := pkW_len (LL2 (wyIx z.1)) v (getR (LL2 (wyIx z.1)) v + z.2)
              have h2 := hlen2 (wyIx z.1)
              omega
            · have h2 := hlen2 i
              omega
          · show getR (if wyIx o = wyIx z.1 then pkW (LL2 (wyIx z.1)) v (getR (LL2 (wyIx z.1)) v + z.2) else LL2 (wyIx o)) v' = _
            by_cases e : o = z.1
            · subst e
              have hin : z.1 ∈ (wyM M).take (l + 1) := (take_mem hzw).mpr (.inr rfl)
              rw [if_pos rfl, getR_pkW]
              by_cases e2 : v' = v
              · subst e2
                rw [if_pos rfl, if_neg hvt, if_pos ⟨rfl, hin⟩, hval, hzv]
              · rw [if_neg (fun q => e2 (wK_inj hv3 hv' q).symm), hLL2 z.1 hzin v' hv', if_neg (fun q : v' = v ∧ _ => e2 q.1), if_neg (fun q : v' = v ∧ _ => e2 q.1)]
            · have hin : o ∈ (wyM M).take (l + 1) ↔ o ∈ (wyM M).take l := by
                rw [take_mem hzw]
                exact ⟨fun q => q.resolve_right e, .inl⟩
              have hne : wyIx o ≠ wyIx z.1 := fun q => by
                have h1 := hw3 o ho
                have h2 := hw3 z.1 hzin
                unfold wyIx at q
                exact e (Prod.ext (by omega) (by omega))
              rw [if_neg hne, hLL2 o ho v' hv']
              simp only [hin]
        · rintro ρ μ ⟨LL2, ⟨⟨o10, o13, o14, o15, o16, rfl⟩, rfl⟩, hlen2, hLL2⟩
          have h6 : (pairD (tD (atE M (cc (ndA f M.i) (ndA f M.j)) (ss (ndA f M.i) (ndA f M.j)) (SuM f h k M (unit v))))).length = 6 := by
            rw [pairD_tD, List.length_map]
            rfl
          rw [h6] at hlen2 hLL2
          refine ds_nil ⟨LL2, ⟨⟨_, _, _, _, _, _, _, _, rfl⟩, rfl⟩, fun i => by have := hlen2 i; omega, fun o ho v' hv' => ?_⟩
          rw [hLL2 o ho v' hv', show (wyM M).take 6 = wyM M from rfl]
          by_cases e1 : v' ∈ (wyM M).take j
          · rw [if_pos e1, if_pos ((take_mem hv).mpr (.inl e1))]
          · rw [if_neg e1]
            by_cases e2 : v' = v
            · subst e2
              rw [if_pos ((take_mem hv).mpr (.inr rfl))]
              by_cases e3 : o ∈ wyM M
              · rw [if_pos ⟨rfl, e3⟩]
              · rw [if_neg (fun q => e3 q.2), atM_out (hw3 o ho) e3]
            · rw [if_neg (fun q => e2 q.1), if_neg (fun q => ((take_mem hv).mp q).elim e1 e2)]
      · rintro ρ μ ⟨LL1, ⟨⟨o9, o10, o11, o12, o13, o14, o15, o16, rfl⟩, rfl⟩, hlen1, hLL1⟩
        have h6 : ((wyM M).map fun w => PyData.tuple [wD w, .list (eD (tE M (cc (ndA f M.i) (ndA f M.j)) (ss (ndA f M.i) (ndA f M.j)) (unit w)) 6)]).length = 6 := by
          rw [List.length_map]
          rfl
        rw [h6] at hlen1 hLL1
        refine ds_nil ⟨LL1, g1, ⟨⟨_, _, _, _, _, _, _, _, _, _, _, rfl⟩, rfl⟩, fun i => by have := hlen1 i; omega, fun o ho v hv => ?_, hg2⟩
        rw [hLL1 o ho v hv, sK, show (wyM M).take 6 = wyM M from rfl]
        rfl
    · rintro ρ μ ⟨LL, gF, ⟨⟨o6, o7, o8, o9, o10, o11, o12, o13, o14, o15, o16, rfl⟩, rfl⟩, hlen, hLL, hgF⟩
      rw [rangeD_len, Int.toNat_natCast] at hLL hgF
      refine ds_frzN ?_
      have hcl : ((List.range N).map fun i => Cell.Z (dD (tD (LL i)))).length = N := by simp
      have hrd : rowsD f LL = ways.map fun w => (wK w, dD (tD (LL (wyIx w)))) := by rw [← hwd]; rfl
      refine ds_frzM (n := N) (rowsD f LL) (c0 hcl) ?_ ?_
      · rw [hrd]
        have : ∀ L : List Way, (∀ w ∈ L, w ∈ ways) → Paired (fun (p : List Key × Rv) (q : List Key × PyData) => p.1 = q.1 ∧ AsD (((List.range N).map fun i => Cell.Z (dD (tD (LL i)))) ++ [.M (rowsKV ways), .M (stK ways gF)]) p.2 q.2) (rowsKV L) (L.map fun w => (wK w, dD (tD (LL (wyIx w))))) := by
          intro L hL
          induction L with
          | nil => exact .nil
          | cons x L ih =>
            refine .cons ⟨rfl, .ownZ ?_⟩ (ih fun w hw => hL w (List.mem_cons_of_mem _ hw))
            have hx := hixN x (hL x (List.mem_cons_self ..))
            show _ = some (Cell.Z (dD (tD (LL (wyIx x)))))
            rw [List.getElem?_append_left (by rw [hcl]; exact hx), List.getElem?_map, List.getElem?_range hx]
            rfl
        exact this ways fun w hw => hw
      have e1 : (((List.range N).map fun i => Cell.Z (dD (tD (LL i)))) ++ [Cell.M (rowsKV ways), Cell.M (stK ways gF)]).set N (.Z (dD (rowsD f LL))) = ((List.range N).map fun i => Cell.Z (dD (tD (LL i)))) ++ [.Z (dD (rowsD f LL)), .M (stK ways gF)] := by
        rw [List.set_append, if_neg (by omega), hcl, Nat.sub_self]
        rfl
      rw [e1]
      have hgd : goalD f (sysG f h fix f.mb.length) = ways.map fun w => (wK w, rt (sysG f h fix f.mb.length w)) := by rw [← hwd]; rfl
      refine ds_frzM (n := N + 1) (goalD f (sysG f h fix f.mb.length)) (c1 hcl) ?_ ?_
      · rw [hgd, stK_congr hgF]
        exact asd_st _ _ _
      rw [c1_set hcl]
      refine ds_ret (dm_tup (ac (nz (d := dD (rowsD f LL)) (n := N) 4 (hz := c0 hcl) (dmm (a1 (nz (d := dD (goalD f (sysG f h fix f.mb.length))) (n := N + 1) 5 (hz := c1 hcl) (dmm ⟨by simp, _, rfl, hG LL ?_⟩)))))))
      exact fun o ho => hLL o (by rw [← hwd]; exact ho)
end
end BW

namespace BW
open PySem PySem.Spec PyProof.Rows L2
/-! ### the free ways by numbers -/
def frW (f : Fr) (i : Nat) : Way := (free f).getD i (0, 0)
theorem frW_get {f : Fr} {i : Nat} (h : i < (free f).length) : (free f)[i]? = some (frW f i) := by
  unfold frW
  rw [List.getD_eq_getElem?_getD, List.getElem?_eq_getElem h]
  rfl
theorem map_frW {β : Type} (f : Fr) (g : Way → β) : (free f).map g = (List.range (free f).length).map fun i => g (frW f i) := by
  apply List.ext_getElem
  · simp
  · intro i h1 h2
    have hi : i < (free f).length := by simpa using h1
    have := frW_get hi
    rw [List.getElem?_eq_getElem hi] at this
    simp only [List.getElem_map, List.getElem_range]
    rw [Option.some.inj this]
structure HeldW (f : Fr) : Prop where
  ok : HeldOk f
  n : (heldW f).length ≤ 100
  v : ∀ w ∈ heldW f, w ∈ waysW f.nd.length
  ne : heldW f ≠ []
theorem HeldW.v3 {f : Fr} (H : HeldW f) : ∀ w ∈ heldW f, w.2 < 3 := fun w hw => (waysW_mem.mp (H.v w hw)).2
theorem isH_iff {f : Fr} (H : HeldW f) {w : Way} (hw : w.2 < 3) : isH f w = true ↔ w ∈ heldW f := by
  unfold isH
  rw [List.any_eq_true]
  constructor
  · rintro ⟨v, hv, e⟩
    have : wK v = wK w := by simpa using e
    rw [← wK_inj (H.v3 v hv) hw this]
    exact hv
  · exact fun h => ⟨w, h, by simp⟩
theorem free_mem {f : Fr} (H : HeldW f) {w : Way} : w ∈ free f ↔ w ∈ waysW f.nd.length ∧ w ∉ heldW f := by
  unfold free
  rw [List.mem_filter]
  constructor
  · rintro ⟨h1, h2⟩
    refine ⟨h1, fun z => ?_⟩
    rw [(isH_iff H (ways3 w h1)).mpr z] at h2
    cases h2
  · rintro ⟨h1, h2⟩
    refine ⟨h1, ?_⟩
    have : isH f w = false := by
      cases e : isH f w with
      | false => rfl
      | true => exact absurd ((isH_iff H (ways3 w h1)).mp e) h2
    rw [this]
    rfl
theorem free_nd (f : Fr) : (free f).Nodup := (waysW_nd _).filter _
/-! ### given moves -/
def gvF (gv : List (Way × Rat)) : Way → Rat := gv.foldl (fun g p => fun w => if w = p.1 then p.2 else g w) fun _ => 0
def gvD (gv : List (Way × Rat)) : List (List Key × PyData) := tD gv
theorem gv_all {L : List Way} (h3 : ∀ w ∈ L, w.2 < 3) : ∀ (gv : List (Way × Rat)) (g : Way → Rat), (∀ p ∈ gv, p.1 ∈ L) → pkA (stK L g) (tR gv) = stK L (gv.foldl (fun g p => fun w => if w = p.1 then p.2 else g w) g)
  | [], g, _ => rfl
  | p :: gv, g, h => by
    show pkA (pk (stK L g) (wK p.1) (.dat (rt p.2))) (tR gv) = _
    rw [pk_st h3 (h p (List.mem_cons_self ..))]
    exact gv_all h3 gv _ fun q hq => h q (List.mem_cons_of_mem _ hq)
theorem gv_bd {b : Nat} : ∀ (gv : List (Way × Rat)) (g : Way → Rat), (∀ w, Bd b (g w)) → (∀ p ∈ gv, Bd b p.2) → ∀ w, Bd b (gv.foldl (fun g p => fun w => if w = p.1 then p.2 else g w) g w)
  | [], g, hg, _, w => hg w
  | p :: gv, g, hg, h, w => by
    refine gv_bd gv _ (fun w => ?_) (fun q hq => h q (List.mem_cons_of_mem _ hq)) w
    show Bd b (if w = p.1 then p.2 else g w)
    split
    · exact h p (List.mem_cons_self ..)
    · exact hg w
/-! ### the table, the right side, the ends -/
def tabM (f : Fr) (h : Hg) : Mat := fun i j => sysK f h f.mb.length (frW f i) (frW f j)
def minS (L : List Way) (g : Way → Rat) (a : Rat) : Rat := L.foldl (fun a w => a - g w) a
def rgtW (f : Fr) (h : Hg) (J : Nat → Nat → Int) (fix : Nat → Nat → Rat) (gv : Way → Rat) (o : Way) : Rat := minS (heldW f) (fun w => sysK f h f.mb.length o w * gv w) (sysG f h fix f.mb.length o + (J o.1 o.2 : Rat))
def rgtV (f : Fr) (h : Hg) (J : Nat → Nat → Int) (fix : Nat → Nat → Rat) (gv : Way → Rat) : Nat → Rat := fun i => rgtW f h J fix gv (frW f i)
def endV (f : Fr) (h : Hg) (fix : Nat → Nat → Rat) (u : Way → Rat) (m i : Nat) : Rat := match f.mb[m]? with
  | none => 0
  | some M => SuM f h m M u i + FM f h m M (fix m) i
def jD (J : Nat → Nat → Int) (n : Nat) : PyData := .tuple ((List.range n).map fun i => .tuple ((List.range 3).map fun l => .int (J i l)))
def endsD (f : Fr) (h : Hg) (fix : Nat → Nat → Rat) (u : Way → Rat) : PyData := .tuple ((List.range f.mb.length).map fun m => .tuple (eD (endV f h fix u m) 6))
theorem minS_take {L : List Way} {g : Way → Rat} {a : Rat} {i : Nat} {w : Way} (h : L[i]? = some w) : minS (L.take (i + 1)) g a = minS (L.take i) g a - g w := by
  unfold minS
  rw [List.take_add_one, h, List.foldl_append]
  rfl
theorem minS_bd {b c : Nat} {L : List Way} {g : Way → Rat} {a : Rat} (ha : Bd c a) (hg : ∀ w, Bd b (g w)) : Bd (c + L.length * (b + 1)) (minS L g a) := by
  unfold minS
  induction L generalizing a c with
  | nil => exact ha.mono (by omega)
  | cons w L ih =>
    refine (ih (ha.sub (hg w))).mono ?_
    rw [List.length_cons, Nat.succ_mul L.length]
    omega
theorem occ {l : Nat} (h : l < 3) : ∃ rest, Builtin.Str.occurrences "xyr" (lt l) 0 ("xyr" : Str).length 1 = l :: rest := by
  match l, h with
  | 0, _ => exact ⟨[], by decide +kernel⟩
  | 1, _ => exact ⟨[], by decide +kernel⟩
  | 2, _ => exact ⟨[], by decide +kernel⟩
theorem shk_wD (w : Way) : shk 1 (wD w) = true := by
  have h := (Bool.and_eq_true_iff.mp (lt_ok w.2)).1
  refine shk_tup fun x hx => ?_
  have hx : x = .int (w.1 : Int) ∨ x = .str (lt w.2) := by simpa [wK, kD] using hx
  rcases hx with rfl | rfl
  · exact shk_int _
  · exact shk_e.mpr ⟨h, by simp [noD], by simp [PyData.depth]⟩
theorem free_shp (f : Fr) : shp (.list ((free f).map wD)) = true := shk_up (k := 2) (shk_map shk_wD) (by decide)
/-- what stands behind all: held ways as given, free ones as found -/
def allU (f : Fr) (gv : Way → Rat) (x : Nat → Rat) : Way → Rat := fun w => if w ∈ heldW f then gv w else x ((free f).idxOf w)
theorem allU_free {f : Fr} (H : HeldW f) {gv : Way → Rat} {x : Nat → Rat} {i : Nat} (h : i < (free f).length) : allU f gv x (frW f i) = x i := by
  have hm := List.mem_of_getElem? (frW_get h)
  unfold allU
  rw [if_neg ((free_mem H).mp hm).2]
  congr 1
  have h1 := frW_get h
  rw [List.getElem?_eq_getElem h] at h1
  rw [← Option.some.inj h1]
  exact (free_nd f).idxOf_getElem i h
theorem allU_held {f : Fr} {gv : Way → Rat} {x : Nat → Rat} {w : Way} (h : w ∈ heldW f) : allU f gv x w = gv w := if_pos h
section
variable {P : Program} {w : World} {K : PySem.W.Frag} {mg : Str → Option Value} {base : Heap}
def tf_response : Tf := fun ds G => ∃ f h J fix gv b, ds = [frD f, .tuple (hgL h), jD J f.nd.length, matD fix f.mb.length 6, dD (gvD gv)] ∧ FrW f ∧ HeldW f ∧ (∀ m i, Bd 1000 (fix m i)) ∧ (∀ i l, (J i l).natAbs < 2 ^ 20) ∧ (∀ p ∈ gv, p.1 ∈ heldW f ∧ Bd 30 p.2) ∧ gv.length ≤ 100 ∧
  0 < (free f).length ∧ (free f).length ≤ 99 ∧ Inj (free f).length (free f).length (tabM f h) ∧ Cm b (tabM f h) ∧ Cm b (aug (tabM f h) (rgtV f h J fix (gvF gv)) (free f).length) ∧ (b + 1) * 2 ^ (free f).length ≤ 200000 ∧
  ∀ d u, (∀ w ∈ heldW f, u w = gvF gv w) → (∀ i < (free f).length, dot (free f).length (tabM f h i) (fun j => u (frW f j)) = rgtV f h J fix (gvF gv) i) → (∀ m i, Bd 5000000 (endV f h fix u m i)) → G (.tuple [d, endsD f h fix u])
theorem can_response (T : Txt K mg) (c_system : Can P w K mg base "system" 46 p_system (PureSp K tf_system)) (c_free : Can P w K mg base "free_in" 2 p_free_in (PureSp K tf_free)) (c_held : Can P w K mg base "held" 1 p_held (PureSp K tf_held)) (c_times : Can P w K mg base "times" 42 p_times (PureSp K tf_times))
    (c_plus : Can P w K mg base "plus" 42 p_plus (PureSp K tf_plus)) (c_whole : Can P w K mg base "whole" 1 p_whole (PureSp K tf_whole)) (c_minus : Can P w K mg base "minus" 43 p_minus (PureSp K tf_minus)) (c_kernel : Can P w K mg base "kernel" 46 p_kernel (PureSp K tf_kernel))
    (c_solved : Can P w K mg base "solved" 46 p_solved (PureSp K tf_solved)) (c_member : Can P w K mg base "member_rows" 45 p_member_rows (PureSp K tf_member)) (c_turned : Can P w K mg base "turned" 43 p_turned (PureSp K tf_turned)) (c_inner : Can P w K mg base "inner" 44 p_inner (PureSp K tf_inner)) : Can P w K mg base "response" 47 p_response (PureSp K tf_response) := by
  refine can_pure 45 T sc_response (fun _ _ _ _ _ _ us hl => match us, hl with | [_, _, _, _, _], _ => rfl) (fun ds G h => by obtain ⟨f, h, J, F, gv, b, rfl, _⟩ := h; rfl) fun fa cdv B outer s H E hr ds G h => ?_
  obtain ⟨f, h, J, fix, gv, bb, rfl, hW, hH, hF, hJ, hgv, hgl, n0, n99, hI, hC, hCa, hb, hG⟩ := h
  have hn := hW.n
  have hm8 := hW.m
  refine ds_asg (dm_call c_system hr rfl (ac (nm 0 (dmm (ac (nm 1 (dmm (a1 (nm 3 (dmm ⟨f, h, fix, rfl, hW, hF, fun LL hLL => gm_of_j (js := [5, 6]) (gj_tup (gjs_cons (gj_name (i := 5) sc_response.nd rfl (gjs_cons (gj_name (i := 6) sc_response.nd rfl (gjs_nil ?_))))))⟩))))))))))
  refine two_par sc_response.nd (i := 7) (j := 8) rfl rfl (by decide) (am_cons (dm_call c_free (hr.mono (by decide)) rfl (a1 (nm 0 (dmm ⟨f, rfl, hH.ok, hn, am_cons (dm_dcO (own := [("way", 11)]) sc_response.nd (u1 hr) (blkOk_by (by kernel_rfl)) (im_keys (dm_call c_held (hr.mono (by decide)) rfl (a1 (nm 0 (dmm ⟨f, rfl, hH.ok, _, rfl, ?_⟩))))))⟩)))))
  have hh3 := hH.v3
  rw [show keysD (hD (heldW f)) = (heldW f).map wD by simp [keysD, hD, wD]]
  refine dc_mapL (heldW f) wD wK (fun _ => rt 0) hH.ok.len hH.ok.nd (fun _ _ => rfl) (fun v hv b => gj_name (i := 11) sc_response.nd rfl (fun b => nm 11 ⟨rfl, fun b => dmZERO T ⟨rfl, rfl⟩⟩)) ?_
  rw [show (((heldW f).map fun x => (wK x, rt 0)).map fun p => (p.1, Rv.dat p.2)) = stK (heldW f) fun _ => 0 by simp [stK]]
  refine am_nil ⟨_, _, rfl, ?_⟩
  have hstl : ∀ g, (stK (heldW f) g).length = (heldW f).length := fun g => by simp [stK]
  have hstn : stK (heldW f) (fun _ => 0) ≠ [] := fun z => hH.ne (List.map_eq_nil_iff.mp z)
  refine ds_expr (dm_update (u1 hr) (nm 8 ⟨0, _, rfl, rfl, nm 4 ⟨_, gvD gv, rfl, rfl, hstn, ?_, ?_⟩⟩))
  · rw [hstl]
    have := hH.n
    simp [gvD, tD]
    omega
  rw [show ((gvD gv).map fun p => (p.1, Rv.dat p.2)) = tR gv by simp [gvD, tD, tR]]
  show Ds _ _ [.M (pkA (stK (heldW f) fun _ => 0) (tR gv))] _ _
  rw [gv_all hh3 gv _ fun p hp => (hgv p hp).1]
  have hgb : ∀ w, Bd 30 (gvF gv w) := gv_bd gv _ (fun _ => Bd.zero.mono (by decide)) fun p hp => (hgv p hp).2
  change Ds _ _ [.M (stK (heldW f) (gvF gv))] _ _
  refine two_par sc_response.nd (i := 9) (j := 10) rfl rfl (by decide) (am_cons (dm_lstO (am_nil ⟨by simp, am_cons (dm_lstO (am_nil ⟨by simp, am_nil ⟨_, _, rfl, ?_⟩⟩))⟩)))
  have hlkR : ∀ o ∈ free f, lk ((rowsD f LL).map fun p => (p.1, Rv.dat p.2)) (wK o) = some (.dat (dD (tD (LL (wyIx o))))) := fun o ho => by
    have := lk_in (g := fun w => Rv.dat (dD (tD (LL (wyIx w))))) ways3 ((free_mem hH).mp ho).1
    rw [← this]
    unfold rowsD
    rw [List.map_map]
    rfl
  have hlkG : ∀ o ∈ free f, lk ((goalD f (sysG f h fix f.mb.length)).map fun p => (p.1, Rv.dat p.2)) (wK o) = some (.dat (rt (sysG f h fix f.mb.length o))) := fun o ho => by
    have := lk_in (g := fun w => Rv.dat (rt (sysG f h fix f.mb.length w))) ways3 ((free_mem hH).mp ho).1
    rw [← this]
    unfold goalD
    rw [List.map_map]
    rfl
  have bdK := fun o v => sysK_bd (h := h) hW (k := f.mb.length) hm8 o v
  have bdG := fun o => sysG_bd (h := h) hW hF (k := f.mb.length) hm8 o
  have hhn := hH.n
  have hst : stK (heldW f) (gvF gv) = ((heldW f).map fun w => (wK w, rt (gvF gv w))).map fun p => (p.1, Rv.dat p.2) := by simp [stK]
  have hfl : ((free f).map wD).length = (free f).length := List.length_map ..
  refine ds_forQ (n := 0) PassesOwn.never rfl fun od ws => im_list (nm 7 (lm ⟨fun i ρ μ => (∃ o11 o12 o13 o14 o15 o16 o17 o18 o19 o20 o21 o22 o23 o24, ρ = [some (.dat (frD f)), some (.dat (.tuple (hgL h))), some (.dat (jD J f.nd.length)), some (.dat (matD fix f.mb.length 6)), some (.dat (dD (gvD gv))), some (.dat (dD (rowsD f LL))), some (.dat (dD (goalD f (sysG f h fix f.mb.length)))), some (.dat (.list ((free f).map wD))), some (.own 0), some (.own 1), some (.own 2), o11, o12, o13, o14, o15, o16, o17, o18, o19, o20, o21, o22, o23, o24]) ∧ μ = [.Q od ws (stK (heldW f) (gvF gv)), .L (((free f).take i).map fun o => .dat (.list ((free f).map fun w => rt (sysK f h f.mb.length o w)))), .L (((free f).take i).map fun o => .dat (rt (rgtW f h J fix (gvF gv) o)))], ⟨⟨_, _, _, _, _, _, _, _, _, _, _, _, _, _, rfl⟩, rfl⟩, ?_, ?_⟩))
  · rintro i d ρ μ hd ⟨⟨o11, o12, o13, o14, o15, o16, o17, o18, o19, o20, o21, o22, o23, o24, rfl⟩, rfl⟩
    rw [List.getElem?_map] at hd
    obtain ⟨o, ho, rfl⟩ := Option.map_eq_some_iff.mp hd
    obtain ⟨hi, ho2⟩ := List.getElem?_eq_some_iff.mp ho
    have hof := List.mem_of_getElem? ho
    have how := ((free_mem hH).mp hof).1
    obtain ⟨hon, ho3⟩ := waysW_mem.mp how
    have hval : ∀ v : Way, v.2 < 3 → getR (LL (wyIx o)) v = sysK f h f.mb.length o v := fun v hv => hLL o how v hv
    refine gm_name sc_response.nd (i := 11) rfl ?_
    have hpl : pairD ((heldW f).map fun w => (wK w, rt (gvF gv w))) = (heldW f).map fun w => .tuple [keyD (wK w), rt (gvF gv w)] := by simp [pairD]
    refine ds_setLcQ (own := [("other", 22), ("move", 16)]) (kds := (heldW f).map fun w => (wK w, rt (gvF gv w))) sc_response.nd (blkOk_by (by kernel_rfl)) (i := 12) (j := 8) (n := 0) rfl rfl rfl (by rw [← hst]; rfl) (by simp; omega)
      (fun k μ acc => μ = [.Q od ws (stK (heldW f) (gvF gv)), .L (((free f).take i).map fun o => .dat (.list ((free f).map fun w => rt (sysK f h f.mb.length o w)))), .L (((free f).take i).map fun o => .dat (rt (rgtW f h J fix (gvF gv) o)))] ∧ acc = ((heldW f).take k).map fun w => .dat (rt (sysK f h f.mb.length o w * gvF gv w))) ⟨rfl, rfl⟩ (fun k μ acc q => by rw [q.1, ← hst]; rfl) ?_ ?_
    · rintro k d μ acc hd ⟨rfl, rfl⟩ _ b
      rw [hpl, List.getElem?_map] at hd
      obtain ⟨v, hv, rfl⟩ := Option.map_eq_some_iff.mp hd
      obtain ⟨hk, hv2⟩ := List.getElem?_eq_some_iff.mp hv
      have hv3 := hh3 v (List.mem_of_getElem? hv)
      refine gj_tup (gjs_cons (gj_name (i := 22) sc_response.nd rfl (gjs_cons (gj_name (i := 16) sc_response.nd rfl (gjs_nil ?_)))))
      refine fun b => ⟨fun _ b => ?_, fun z => (by cases z)⟩
      refine dm_call (X := Bk _ _ b) c_times (hr.mono (by decide)) rfl (ac (dm_dget2 (u1 hr) (dm_dget (u1 hr) (nm 5 (nm 11 ⟨wK o, _, .dat (dD (tD (LL (wyIx o)))), rfl, rfl, .dat, hlkR o hof, _, .dat, nm 22 (dmZERO T ⟨wK v, _, rfl, rfl, .dat, ?_⟩)⟩)))))
      rw [lk_tR, hval v hv3]
      refine dmm (a1 (nm 16 (dmm ⟨_, _, rfl, (bdK _ _).sm (by decide), (hgb _).sm (by decide), rfl, ?_⟩)))
      rw [List.take_succ_eq_append_getElem hk, hv2]
      simp
    · rintro μ acc ⟨rfl, rfl⟩
      refine ⟨(heldW f).map fun w => rt (sysK f h f.mb.length o w * gvF gv w), ?_, ?_⟩
      · rw [hpl, List.length_map, List.take_length]
        simp
      obtain ⟨rest, hocc⟩ := occ ho3
      refine ds_asg (dm_call c_plus (hr.mono (by decide)) rfl (ac (dm_dget (u1 hr) (nm 6 (nm 11 ⟨wK o, _, _, rfl, rfl, .dat, hlkG o hof, dmm ?_⟩)))))
      refine a1 (dm_call c_whole (hr.mono (by decide)) rfl (a1 (ixE (ixE (nm 2 (ixT (nm 11 ⟨_, _, rfl, rfl, im ⟨_, _, .inl rfl, atI_map (List.getElem?_range hon), ?_⟩⟩)))))))
      refine dm_sindex (dmLET T ⟨_, rfl, ixT (nm 11 ⟨_, _, rfl, rfl, _, rfl, o.2, rest, hocc, im ⟨_, _, .inl rfl, atI_map (List.getElem?_range ho3), dmm ⟨_, rfl, dmm ⟨_, _, rfl, (bdG o).sm (by decide), ?_, ?_⟩⟩⟩⟩)⟩)
      · exact (Bd.int (b := 20) (hJ o.1 o.2) (by decide)).sm (by decide)
      refine gm_name sc_response.nd (i := 13) rfl ?_
      have hrest : ∀ k, k ≤ (heldW f).length → Bd 8000000 (minS ((heldW f).take k) (fun w => sysK f h f.mb.length o w * gvF gv w) (sysG f h fix f.mb.length o + (J o.1 o.2 : Rat))) := fun k hk => by
        refine (minS_bd (b := 70030) (c := 70021) (((bdG o).add (Bd.int (b := 20) (hJ o.1 o.2) (by decide))).mono (by decide)) fun w => ((bdK o w).mul (hgb w)).mono (by decide : 70000 + 30 ≤ 70030)).mono ?_
        rw [List.length_take]
        have : min k (heldW f).length ≤ 100 := by omega
        omega
      refine ds_for PassesOwn.never (im_list (nm 12 (lm ⟨fun k ρ μ => (∃ o14 o15 o16 o17 o18 o19 o20 o21 o22 o23 o24, ρ = [some (.dat (frD f)), some (.dat (.tuple (hgL h))), some (.dat (jD J f.nd.length)), some (.dat (matD fix f.mb.length 6)), some (.dat (dD (gvD gv))), some (.dat (dD (rowsD f LL))), some (.dat (dD (goalD f (sysG f h fix f.mb.length)))), some (.dat (.list ((free f).map wD))), some (.own 0), some (.own 1), some (.own 2), some (.dat (wD o)), some (.dat (.list ((heldW f).map fun w => rt (sysK f h f.mb.length o w * gvF gv w)))), some (.dat (rt (minS ((heldW f).take k) (fun w => sysK f h f.mb.length o w * gvF gv w) (sysG f h fix f.mb.length o + (J o.1 o.2 : Rat))))), o14, o15, o16, o17, o18, o19, o20, o21, o22, o23, o24]) ∧ μ = [.Q od ws (stK (heldW f) (gvF gv)), .L (((free f).take i).map fun o => .dat (.list ((free f).map fun w => rt (sysK f h f.mb.length o w)))), .L (((free f).take i).map fun o => .dat (rt (rgtW f h J fix (gvF gv) o)))], ⟨⟨_, _, _, _, _, _, _, _, _, _, _, rfl⟩, rfl⟩, ?_, ?_⟩)))
      · rintro k d ρ μ hd ⟨⟨o14, o15, o16, o17, o18, o19, o20, o21, o22, o23, o24, rfl⟩, rfl⟩
        rw [List.getElem?_map] at hd
        obtain ⟨v, hv, rfl⟩ := Option.map_eq_some_iff.mp hd
        obtain ⟨hk, hv2⟩ := List.getElem?_eq_some_iff.mp hv
        refine gm_name sc_response.nd (i := 14) rfl ?_
        refine ds_asg (dm_call c_minus (hr.mono (by decide)) rfl (ac (nm 13 (dmm (a1 (nm 14 (dmm ⟨_, _, rfl, (hrest k (by omega)).sm (by decide), ((bdK o v).mul (hgb v)).sm (by decide), gm_name sc_response.nd (i := 13) rfl (ds_nil ⟨?_, rfl⟩)⟩)))))))
        rw [minS_take hv]
        exact ⟨_, _, _, _, _, _, _, _, _, _, _, rfl⟩
      · rintro ρ μ ⟨⟨o14, o15, o16, o17, o18, o19, o20, o21, o22, o23, o24, rfl⟩, rfl⟩
        rw [List.length_map, List.take_length]
        refine ds_expr (dm_append (nm 9 ⟨1, _, rfl, rfl, dm_lc (own := [("other", 22)]) sc_response.nd (blkOk_by (by kernel_rfl)) (im_list (nm 7 (lm ?_)))⟩))
        refine lc_mapL (free f) wD (fun w => rt (sysK f h f.mb.length o w)) (by omega) (fun v hv b => gj_name (i := 22) sc_response.nd rfl (fun b => ?_)) ⟨_, rfl, _, rfl, by simp; omega, ?_⟩
        · have hv3 := ways3 v ((free_mem hH).mp hv).1
          refine dm_dget2 (u1 hr) (dm_dget (u1 hr) (nm 5 (nm 11 ⟨wK o, _, .dat (dD (tD (LL (wyIx o)))), rfl, rfl, .dat, hlkR o hof, _, .dat, nm 22 (dmZERO T ⟨wK v, _, rfl, rfl, .dat, ?_⟩)⟩)))
          rw [lk_tR, hval v hv3]
          exact ⟨rfl, rfl⟩
        refine ds_expr (dm_append (nm 10 ⟨2, _, rfl, rfl, nm 13 ⟨_, rfl, by simp; omega, ds_nil ⟨⟨_, _, _, _, _, _, _, _, _, _, _, _, _, _, rfl⟩, ?_⟩⟩⟩))
        rw [List.take_succ_eq_append_getElem hi, ho2, List.map_append, List.map_append]
        rfl
  rintro ρ μ ⟨⟨o11, o12, o13, o14, o15, o16, o17, o18, o19, o20, o21, o22, o23, o24, rfl⟩, rfl⟩
  refine ⟨rfl, ?_⟩
  rw [hfl, List.take_length]
  show Ds _ _ [.M (stK (heldW f) (gvF gv)), _, _] _ _
  refine ds_frzL (n := 1) ((List.range (free f).length).map fun i => .list (eD (tabM f h i) (free f).length)) rfl ?_ (ds_frzL (n := 2) (eD (rgtV f h J fix (gvF gv)) (free f).length) rfl ?_ ?_)
  · rw [map_frW, List.map_map]
    apply List.map_congr_left
    intro i _
    rw [map_frW]
    rfl
  · rw [map_frW]
    unfold eD
    rw [List.map_map]
    rfl
  refine ds_if (tm_cmp (op_neD (Nat.lt_of_succ_lt (u65 hr))) (nomark _) (dm_call c_kernel hr rfl (ac (nz 9 (dmm (a1 (dm_len rfl T.b_len (nm 7 ⟨_, .dat rfl, ?_⟩))))))))
  rw [List.length_map, hfl]
  refine dmm ⟨tabM f h, _, bb, rfl, hI, hC, by omega, by omega, dm_lst (an ⟨by simp, opd_neD (by rfl) (by rfl) (bm ⟨fun hk => ?_, fun _ => ds_nil ?_⟩)⟩)⟩
  · rw [eqv_nil] at hk
    simp at hk
  refine ds_asg (dm_if (tm_cmp (op_neD (Nat.lt_of_succ_lt (u65 hr))) (nomark _) (nm 7 (dm_lst (an ⟨by simp, opd_neD (free_shp f) (by rfl) (bm ⟨fun hk => ?_, fun hk => ?_⟩)⟩)))))
  case refine_2 =>
    rw [eqv_nil] at hk
    have hk : (free f).map wD = [] := by simpa using hk
    rw [hk] at hfl
    simp at hfl
    omega
  refine dm_call c_solved hr rfl (ac (nz 9 (dmm (a1 (nz 10 (dmm ⟨tabM f h, rgtV f h J fix (gvF gv), (free f).length, bb, rfl, n0, hI, hCa, n99, by omega, ?_⟩))))))
  refine gm_name sc_response.nd (i := 15) rfl ?_
  obtain ⟨_, hsol⟩ := solv_ok (r := rgtV f h J fix (gvF gv)) hI
  have hxb : ∀ i, Bd 200000 (solv (tabM f h) (rgtV f h J fix (gvF gv)) (free f).length i) := fun i => ((red_cmN hCa _).bd i _).mono hb
  generalize solv (tabM f h) (rgtV f h J fix (gvF gv)) (free f).length = x at hsol hxb
  refine ds_for PassesOwn.never (im_zip rfl T.b_zip (nm 7 (lm (nm 15 (lm ?_)))))
  rw [map_frW f wD, show zipD ((List.range (free f).length).map fun i => wD (frW f i)) (eD x (free f).length) = _ from zip_maps _ _ _]
  refine ⟨fun k ρ μ => (∃ o11 o12 o13 o14 o15 o16 o17 o18 o19 o20 o21 o22 o23 o24, ρ = [some (.dat (frD f)), some (.dat (.tuple (hgL h))), some (.dat (jD J f.nd.length)), some (.dat (matD fix f.mb.length 6)), some (.dat (dD (gvD gv))), some (.dat (dD (rowsD f LL))), some (.dat (dD (goalD f (sysG f h fix f.mb.length)))), some (.dat (.list ((free f).map wD))), some (.own 0), some (.own 1), some (.own 2), o11, o12, o13, o14, o15, o16, o17, o18, o19, o20, o21, o22, o23, o24]) ∧ ∃ z1 z2, μ = [.M (stK (heldW f) (gvF gv) ++ (List.range k).map fun j => (wK (frW f j), .dat (rt (x j)))), .Z z1, .Z z2], ⟨⟨_, _, _, _, _, _, _, _, _, _, _, _, _, _, by rw [map_frW f wD]; rfl⟩, _, _, by rw [List.range_zero, List.map_nil, List.append_nil]; rfl⟩, ?_, ?_⟩
  · rintro k d ρ μ hd ⟨⟨o11, o12, o13, o14, o15, o16, o17, o18, o19, o20, o21, o22, o23, o24, rfl⟩, z1, z2, rfl⟩
    have hk : k < (free f).length := by
      have := (List.getElem?_eq_some_iff.mp hd).1
      simpa using this
    rw [List.getElem?_map, List.getElem?_range hk] at hd
    obtain rfl := Option.some.inj hd
    have hfk := frW_get hk
    have hfm := (free_mem hH).mp (List.mem_of_getElem? hfk)
    refine gm_of_j (js := [11, 16]) (gj_tup (gjs_cons (gj_name (i := 11) sc_response.nd rfl (gjs_cons (gj_name (i := 16) sc_response.nd rfl (gjs_nil ?_))))))
    refine ds_dput (u1 hr) (nm 16 (nm 8 (nm 11 ⟨0, wK (frW f k), _, rfl, rfl, rfl, rfl, ?_, ds_nil ⟨⟨_, _, _, _, _, _, _, _, _, _, _, _, _, _, rfl⟩, z1, z2, ?_⟩⟩)))
    · rw [List.length_append, hstl]
      simp
      omega
    · rw [pk_new]
      · rw [List.range_succ, List.map_append (l₁ := List.range k), ← List.append_assoc]
        rfl
      · rw [List.map_append, List.mem_append]
        rintro (z | z)
        · unfold stK at z
          rw [List.map_map] at z
          obtain ⟨v, hv, e⟩ := List.mem_map.mp z
          have := wK_inj (hh3 v hv) (ways3 _ hfm.1) e
          exact hfm.2 (by rw [← this]; exact hv)
        · rw [List.map_map] at z
          obtain ⟨j, hj, e⟩ := List.mem_map.mp z
          have hjk := List.mem_range.mp hj
          have hfj := frW_get (f := f) (i := j) (by omega)
          have hjm := (free_mem hH).mp (List.mem_of_getElem? hfj)
          have := wK_inj (ways3 _ hjm.1) (ways3 _ hfm.1) e
          have hnt := nd_take (free_nd f) hfk
          exact hnt (by rw [← this]; exact List.mem_of_getElem? (i := j) (by rw [List.getElem?_take, if_pos hjk]; exact hfj))
  rintro ρ μ ⟨⟨o11, o12, o13, o14, o15, o16, o17, o18, o19, o20, o21, o22, o23, o24, rfl⟩, z1, z2, rfl⟩
  rw [List.length_map, List.length_range]
  -- all moves
  have hu1 : ∀ w ∈ heldW f, allU f (gvF gv) x w = gvF gv w := fun w hw => allU_held hw
  have hu2 : ∀ i < (free f).length, allU f (gvF gv) x (frW f i) = x i := fun i hi => allU_free hH hi
  have hub : ∀ w, Bd 200000 (allU f (gvF gv) x w) := fun w => by
    unfold allU
    split
    · exact (hgb w).mono (by decide)
    · exact hxb _
  have hall : stK (heldW f) (gvF gv) ++ (List.range (free f).length).map (fun j => (wK (frW f j), Rv.dat (rt (x j)))) = stK (heldW f ++ free f) (allU f (gvF gv) x) := by
    unfold stK
    rw [List.map_append]
    congr 1
    · apply List.map_congr_left
      intro w hw
      rw [hu1 w hw]
    · rw [map_frW]
      apply List.map_congr_left
      intro j hj
      rw [hu2 j (List.mem_range.mp hj)]
  rw [hall]
  have hsolU : ∀ i < (free f).length, dot (free f).length (tabM f h i) (fun j => allU f (gvF gv) x (frW f j)) = rgtV f h J fix (gvF gv) i := fun i hi => by
    rw [← hsol i hi]
    exact dot_congr (fun _ _ => rfl) fun j hj => hu2 j hj
  have hvalid : ∀ w ∈ heldW f ++ free f, w.2 < 3 := fun w hw => by
    rcases List.mem_append.mp hw with hw | hw
    · exact hh3 w hw
    · exact ways3 w ((free_mem hH).mp hw).1
  have hin : ∀ w ∈ waysW f.nd.length, w ∈ heldW f ++ free f := fun w hw => by
    by_cases e : w ∈ heldW f
    · exact List.mem_append_left _ e
    · exact List.mem_append_right _ ((free_mem hH).mpr ⟨hw, e⟩)
  have hG2 := fun d => hG d (allU f (gvF gv) x) hu1 hsolU
  clear hall hu1 hu2 hsolU hG
  generalize allU f (gvF gv) x = u at hub hG2
  refine ds_frzM (n := 0) ((heldW f ++ free f).map fun w => (wK w, rt (u w))) rfl (asd_st _ _ _) ?_
  have hSu : ∀ k M, f.mb[k]? = some M → ∀ i, Bd 4900000 (SuM f h k M u i) := fun k M hM i => by
    have hMm := List.mem_of_getElem? hM
    exact (dot_bd (b := 400003) (fun j => (SM_bd (hW.ok M hMm) (hW.k0 M hMm) i j).mono (by decide)) (fun j => (tE_bd (hW.ok M hMm).c (hW.ok M hMm).s hub j).mono (by decide)) 6).mono (by decide)
  have hEb : ∀ m i, Bd 5000000 (endV f h fix u m i) := fun m i => by
    unfold endV
    cases hM : f.mb[m]? with
    | none => exact Bd.zero.mono (by decide)
    | some M =>
      have hMm := List.mem_of_getElem? hM
      exact ((hSu m M hM i).add (FM_bd (hW.ok M hMm) (hW.k0 M hMm) (hF m) i)).mono (by decide)
  refine ds_asg (dm_lstO (am_nil ⟨by simp, gm_name sc_response.nd (i := 17) rfl ?_⟩))
  refine ds_for PassesOwn.never (im_range1 rfl T.b_range (dm_len rfl T.b_len (ixT (nm 0 ⟨_, _, rfl, rfl, _, .dat rfl, ?_⟩))))
  rw [List.length_map, List.length_map]
  refine im ⟨by omega, by omega, fun k ρ μ => (∃ o11 o12 o13 o14 o15 o16 o18 o19 o20 o21 o22 o23 o24, ρ = [some (.dat (frD f)), some (.dat (.tuple (hgL h))), some (.dat (jD J f.nd.length)), some (.dat (matD fix f.mb.length 6)), some (.dat (dD (gvD gv))), some (.dat (dD (rowsD f LL))), some (.dat (dD (goalD f (sysG f h fix f.mb.length)))), some (.dat (.list ((free f).map wD))), some (.own 0), some (.own 1), some (.own 2), o11, o12, o13, o14, o15, o16, some (.own 3), o18, o19, o20, o21, o22, o23, o24]) ∧ μ = [.Z (dD ((heldW f ++ free f).map fun w => (wK w, rt (u w)))), .Z z1, .Z z2, .L ((List.range k).map fun m => .dat (.tuple (eD (endV f h fix u m) 6)))], ⟨⟨_, _, _, _, _, _, _, _, _, _, _, _, _, rfl⟩, rfl⟩, ?_, ?_⟩
  · rintro k d ρ μ hd ⟨⟨o11, o12, o13, o14, o15, o16, o18, o19, o20, o21, o22, o23, o24, rfl⟩, rfl⟩
    have hk := (List.getElem?_eq_some_iff.mp hd).1
    rw [rangeD_len, Int.toNat_natCast] at hk
    rw [rangeD_get (by rw [Int.toNat_natCast]; exact hk), Int.zero_add] at hd
    obtain rfl := Option.some.inj hd
    have hMb := List.getElem?_eq_getElem hk
    have ok := hW.ok _ (List.getElem_mem hk)
    have k0 := hW.k0 _ (List.getElem_mem hk)
    have hE : ∀ i, endV f h fix u k i = SuM f h k f.mb[k] u i + FM f h k f.mb[k] (fix k) i := fun i => by
      unfold endV
      rw [hMb]
    have hSuk := hSu k _ hMb
    have wym := wyM_mem ok
    generalize f.mb[k] = M at hMb ok k0 hE hSuk wym
    refine gm_name sc_response.nd (i := 18) rfl ?_
    refine ds_asg (dm_call c_member (hr.mono (by decide)) rfl (ac (nm 0 (dmm (ac (nm 1 (dmm (ac (nm 18 (dmm ?_))))))))))
    refine a1 (ixE (nm 3 (nm 18 (im ⟨_, _, .inr rfl, row_get hk, dmm ⟨f, h, k, M, _, _, fix k, 1000, rfl, ok.at hMb, ok.far0, ok.k, ok.st, ok.farS, (plain22 k0 ok.far0).1, (plain22 k0 ok.far0).2, hF k, by decide, by decide, ?_⟩⟩))))
    refine gm_of_j (js := [19, 20]) (gj_tup (gjs_cons (gj_name (i := 19) sc_response.nd rfl (gjs_cons (gj_name (i := 20) sc_response.nd rfl (gjs_nil ?_))))))
    have lkU : ∀ v ∈ wyM M, lk ((heldW f ++ free f).map fun w => (wK w, rt (u w))) (wK v) = some (rt (u v)) := fun v hv => lk_in (g := fun w => rt (u w)) hvalid (hin v (wym v hv))
    refine ds_asg (dm_call c_turned (hr.mono (by decide)) rfl (ac (nm 0 (dmm (ac (nm 18 (dmm (a1 (nz 8 (dmm ⟨f, k, M, _, _, _, u, 200000, rfl, ok.at hMb, ok.far0, ok.c, ok.s, fun l hl => ?_, hub, by decide, ?_⟩))))))))))
    · match l, hl with
      | 0, _ => exact ⟨lkU _ (by simp [wyM]), lkU _ (by simp [wyM])⟩
      | 1, _ => exact ⟨lkU _ (by simp [wyM]), lkU _ (by simp [wyM])⟩
      | 2, _ => exact ⟨lkU _ (by simp [wyM]), lkU _ (by simp [wyM])⟩
    refine gm_name sc_response.nd (i := 21) rfl ?_
    refine ds_expr (dm_append (nm 17 ⟨3, _, rfl, rfl, dm_tuple rfl T.b_tuple (dm_lc (own := [("row", 23), ("force", 24)]) sc_response.nd (blkOk_by (by kernel_rfl)) (im_zip rfl T.b_zip (nm 19 (lm (nm 20 (lm ?_))))))⟩))
    rw [show zipD ((List.range 6).map fun i => PyData.list (eD (memS h k (plainS M.k M.s (far (ndA f M.i) (ndA f M.j))) i) 6)) (eD (memF h k (plainS M.k M.s (far (ndA f M.i) (ndA f M.j))) (fix k)) 6) = _ from zip_maps _ _ 6]
    refine lc_mapL (List.range 6) _ (fun i => rt (endV f h fix u k i)) (by decide) (fun i hi b => ?_) ⟨_, rfl, _, .lst, _, rfl, by simp; omega, ?_⟩
    · refine gj_tup (gjs_cons (gj_name (i := 23) sc_response.nd rfl (gjs_cons (gj_name (i := 24) sc_response.nd rfl (gjs_nil ?_)))))
      intro b
      refine dm_call (X := Bk _ _ b) c_plus (hr.mono (by decide)) rfl (ac (dm_call (X := Bk _ _ b) c_inner (hr.mono (by decide)) rfl (ac (nm 23 (dmm (a1 (nm 21 (dmm ⟨SM f h k M i, tM f M u, 6, 400003, rfl, fun j => (SM_bd ok k0 i j).mono (by decide), fun j => (tE_bd ok.c ok.s hub j).mono (by decide), by decide, by decide, by decide, dmm ?_⟩))))))))
      refine a1 (nm 24 (dmm ⟨_, _, rfl, (hSuk i).sm (by decide), (FM_bd ok k0 (hF k) i).sm (by decide), rfl, ?_⟩))
      rw [hE]
      rfl
    · refine ds_nil ⟨⟨_, _, _, _, _, _, _, _, _, _, _, _, _, rfl⟩, ?_⟩
      rw [List.range_succ (n := k), List.map_append (l₁ := List.range k)]
      rfl
  · rintro ρ μ ⟨⟨o11, o12, o13, o14, o15, o16, o18, o19, o20, o21, o22, o23, o24, rfl⟩, rfl⟩
    rw [rangeD_len, Int.toNat_natCast]
    refine ds_frzL (n := 3) ((List.range f.mb.length).map fun m => .tuple (eD (endV f h fix u m) 6)) rfl (by rw [List.map_map]; rfl) ?_
    exact ds_ret (dm_tup (ac (nz 8 (dmm (a1 (dm_tuple rfl T.b_tuple (nm 17 ⟨_, .ownZ rfl, dmm ⟨by simp, _, rfl, hG2 _ hEb⟩⟩)))))))
end
end BW

namespace BW
open PySem PySem.Spec PyProof.Rows L2
/-! ### sorted(a tuple of whole numbers) -/
def rSrtTup (K : PySem.W.Frag) : List V → Hp → VK → Prop := fun vs H Q => ∃ (a : Addr) (ns : List Int), vs = [V.ref a] ∧ SqT K H a (ns.map V.int) ∧ ns.length < 64 ∧ ∀ (ms : List Int) (p : Addr), ms.Perm ns → ms.Pairwise (· ≤ ·) → H p = none → Q (.ref p) (upd H p (.lst (ms.map V.int)))
theorem cr_srtTup {X : Cx} : CallR X (.builtin "sorted") (rSrtTup X.K) := by
  intro pins s σ H vs us Q I r h
  obtain ⟨a, ns, rfl, hs, h64, q⟩ := h
  obtain ⟨its, rv, ⟨o, ho, hc, n, hd⟩, hz⟩ := I.tuple hs
  rw [Vals.ref1 r]
  have hi := rv.ints
  have hl : its.length < 64 := by
    rw [hi.length]
    exact h64
  have hsz : its.length ≤ sizeLine := small64 hl
  refine Calls.call_function_entry kind_sorted plain_sorted entry_sorted (args_sorted1 _) ?_
  unfold Builtin.«sorted»
  refine wpAny_bind (wpAny_pure ?_)
  refine wpAny_bind (wpAny_collect_seq a (.inr rfl) ho hc hd (fun h' hk => ?_) (by simpa using hsz))
  refine wpAny_bind (wpAny_newList ?_ (by simpa using hsz))
  have hat : (h'.push (seqObj "list" its.toArray.toList.toArray 0)).get? h'.objs.size = some (seqObj "list" its.toArray 0) := by
    rw [Array.toArray_toList]
    exact Heap.get?_push_size _ rfl
  refine wpAny_bind (wpAny_holding (wpAny_call_entry slot_list_sort ⟨_, hat, rfl⟩ entry_list_sort (list_sort_tree hat hi hl fun out ms a1 a2 a3 => ⟨_, rfl, ?_⟩) (args_list_sort _)))
  obtain ⟨ep, he⟩ := sortedHeap_at (vs := its) (out := out) hat
  have hp : s.heap.get? h'.objs.size = none := by
    cases e : s.heap.get? h'.objs.size with
    | none => rfl
    | some u => exact absurd (Heap.lt_size (hk _ u e)) (Nat.lt_irrefl _)
  have hn : H h'.objs.size = none := by
    cases e : H h'.objs.size with
    | none => rfl
    | some u => exact absurd ((I.hok _ u e).stay (fun b u _ q => hk b u q) (fun _ q => q) fun _ _ q => q).lt (Nat.lt_irrefl _)
  refine wpAny_pure ⟨_, rfl, .ref h'.objs.size, upd H h'.objs.size (.lst (ms.map V.int)), ?_, rfl, q ms _ a2 a3 hn⟩
  refine I.laidN (t' := s.toks) (fun b u hb => ?_) hp hn ⟨?_, out.toList, ep, vals_of_ints a1, by rw [Array.toArray_toList]; exact he⟩
  · have hb' := hk b u hb
    have hlt := Heap.lt_size hb'
    rw [sortedHeap_old (Nat.ne_of_lt hlt) (by rw [size_push']; exact Nat.lt_succ_of_lt hlt), Heap.get?_push_of_some _ hb']
  · rw [List.length_map, a2.length_eq]
    exact small64 h64
theorem rpA_int {K : PySem.W.Frag} {F : Hp} : ∀ ms : List Int, RpA K F (ms.map V.int) (ms.map PyData.int)
  | [] => .nil
  | m :: ms => .cons (.int m) (rpA_int ms)
section
variable {X : Cx} {ρ : Rho} {μ : Mu} {P : PR} {a : Expr} {x : Str} {p pos : Pos}
theorem dm_srt (hg : Gl X "sorted") (hm : X.mg "sorted" = none) (h : Dm X ρ μ a (TupP fun μ1 ds => ∃ ns : List Int, ds = ns.map PyData.int ∧ ns.length < 64 ∧ ∀ ms : List Int, ms.Perm ns → ms.Pairwise (· ≤ ·) → P μ1 (.dat (.list (ms.map PyData.int))))) (hs : starEach [a] X.env = (false, eval a X.env) :: starEach [] X.env := by rfl) : Dm X ρ μ (.Call (.Name "sorted" p) [a] [] pos) P :=
  dm_callB cr_srtTup hg hm rfl (am_cons (h.imp fun μ1 r hr => am_nil fun R F H as σ vs S pr Q q => by
    obtain ⟨ds, rfl, ns, rfl, hl, h1⟩ := hr
    obtain ⟨v, rfl, o⟩ := paired1 pr
    obtain ⟨a, xs, rfl, g1, g2⟩ := Rp.tupE o
    obtain rfl := rpA_ints g2
    refine ⟨a, ns, rfl, st_up S.fh g1, hl, fun ms p h2 h3 hp => ?_⟩
    refine q _ _ _ as μ1 _ (S.laid hp (.lst (ms.map V.int))) ⟨same_upd (fresh_of S.fh hp), List.prefix_refl _⟩ ?_ (h1 ms h2 h3)
    refine Rp.lst (.inl (.inl upd_same)) ?_
    exact rpA_int ms) hs) (he := hs)
/-- a whole number at a module's name -/
theorem dmI {v : Int} (h : ∃ t, X.mg x = some (.int v t)) (q : P μ (.dat (.int v))) (hg : Gl X x := by rfl) (hb : (x == ("__debug__" : Str)) = false := by decide) : Dm X ρ μ (.Name x pos) P := by
  obtain ⟨t, ht⟩ := h
  exact dm_glob (v := .int v) (d := .int v) hg ht ⟨t, rfl⟩ (fun F => .int _) q hb
end
end BW

namespace BW
open PySem PySem.Spec PyProof.Rows L2
theorem noDA_map {α : Type} {g : α → PyData} (h : ∀ x, noD (g x) = true) : ∀ xs : List α, noDA (xs.map g) = true
  | [] => by simp [noDA]
  | x :: xs => by simp [noDA, h x, noDA_map h xs]
theorem noDA_all {xs : List PyData} (h : ∀ x ∈ xs, noD x = true) : noDA xs = true := by
  induction xs with
  | nil => simp [noDA]
  | cons x xs ih => simp [noDA, h x (List.mem_cons_self ..), ih fun y hy => h y (List.mem_cons_of_mem _ hy)]
theorem cut_take {α : Type} (xs : List α) (k : Nat) : cutD xs none (some (k : Int)) = xs.take k := by
  unfold cutD
  rw [HT.sIx_none, HT.sIx_nat, List.drop_zero, Nat.sub_zero]
  by_cases h : k ≤ xs.length
  · rw [Nat.min_eq_left h]
  · rw [Nat.min_eq_right (by omega), List.take_length, List.take_of_length_le (by omega)]
section
variable {X : Cx} {ρ : Rho} {μ : Mu} {Q : PR} {a b c e : Expr} {p pos : Pos}
theorem dm_isl (C : Can X.prog X.w X.K X.mg X.base "is_list" 1 p_is_list (PureSp X.K tf_is_list)) (hr : Room 1 X.A)
    (h : Dm X ρ μ a (TupP fun μ1 es => Dm X ρ μ1 b (IntP fun μ2 l => Dm X ρ μ2 c (IntP fun μ3 m => noDA es = true ∧ l ≤ (es.length : Int) ∧ (es.length : Int) ≤ m ∧ Q μ3 (.dat (.bool true)))))) (hg : Gl X "is_list" := by rfl)
    (h1 : starEach [a, b, c] X.env = (false, eval a X.env) :: starEach [b, c] X.env := by rfl) (h2 : starEach [b, c] X.env = (false, eval b X.env) :: starEach [c] X.env := by rfl) (h3 : starEach [c] X.env = (false, eval c X.env) :: starEach [] X.env := by rfl)
    (hpl : (backTo pos (starEach [b, c] X.env)).any (·.1) = false := by rfl) (hx : X.xe = fun _ _ => False := by rfl) : Dm X ρ μ (.Call (.Name "is_list" p) [a, b, c] [] pos) Q :=
  dm_call C hr hg (ac (h.imp fun _ _ ⟨es, e1, q1⟩ => ⟨_, e1, ac (q1.imp fun _ _ ⟨l, e2, q2⟩ => ⟨_, e2, a1 (q2.imp fun _ _ ⟨m, e3, n1, n2, n3, q3⟩ => ⟨_, e3, es, l, m, rfl, n1, by rw [decide_eq_true n2, decide_eq_true n3]; exact q3⟩) h3⟩) h2⟩) h1) (he := h1) (hpl := hpl) (hx := hx)
theorem dm_isn (C : Can X.prog X.w X.K X.mg X.base "is_in" 2 p_is_in (PureSp X.K tf_is_in)) (hr : Room 2 X.A)
    (h : Dm X ρ μ a (IntP fun μ1 i => Dm X ρ μ1 b (IntP fun μ2 l => Dm X ρ μ2 c (IntP fun μ3 m => l ≤ i ∧ i ≤ m ∧ Q μ3 (.dat (.bool true)))))) (hg : Gl X "is_in" := by rfl)
    (h1 : starEach [a, b, c] X.env = (false, eval a X.env) :: starEach [b, c] X.env := by rfl) (h2 : starEach [b, c] X.env = (false, eval b X.env) :: starEach [c] X.env := by rfl) (h3 : starEach [c] X.env = (false, eval c X.env) :: starEach [] X.env := by rfl)
    (hpl : (backTo pos (starEach [b, c] X.env)).any (·.1) = false := by rfl) (hx : X.xe = fun _ _ => False := by rfl) : Dm X ρ μ (.Call (.Name "is_in" p) [a, b, c] [] pos) Q :=
  dm_call C hr hg (ac (h.imp fun _ _ ⟨i, e1, q1⟩ => ⟨_, e1, ac (q1.imp fun _ _ ⟨l, e2, q2⟩ => ⟨_, e2, a1 (q2.imp fun _ _ ⟨m, e3, n2, n3, q3⟩ => ⟨_, e3, i, l, m, rfl, by rw [decide_eq_true n2, decide_eq_true n3]; exact q3⟩) h3⟩) h2⟩) h1) (he := h1) (hpl := hpl) (hx := hx)
/-- not e, where e is true -/
theorem tm_nt {f : Mu → Bool → Prop} (h : Dm X ρ μ e fun μ1 r => r = .dat (.bool true) ∧ f μ1 false) (he : ∀ whole, isTrue e X.env whole = (do let v ← whole; standAt e.pos; holding [v] (truthy v)) := by intro _; rfl) : Tm X ρ μ (.UnaryOp .Not e pos) f :=
  tm_not (tm_val (h.imp fun _ _ ⟨e1, h1⟩ => ⟨true, e1, h1⟩) he)
/-- all of truths -/
theorem dm_alls (hg : Gl X "all") (hm : X.mg "all" = none) (hc : X.calm = true) (h : Dm X ρ μ a (LstP fun μ1 ds => (∀ d ∈ ds, d = .bool true) ∧ Q μ1 (.dat (.bool true)))) (hs : starEach [a] X.env = (false, eval a X.env) :: starEach [] X.env := by rfl) : Dm X ρ μ (.Call (.Name "all" p) [a] [] pos) Q :=
  dm_all hg hm hc (h.imp fun _ _ ⟨ds, e1, q1, q2⟩ => ⟨ds, e1, ds.map fun _ => true, by
    rw [List.map_map]
    conv => lhs; rw [← List.map_id ds]
    apply List.map_congr_left
    intro d hd
    exact q1 d hd, by
    have : (ds.map fun _ => true).all id = true := by simp
    rw [this]
    exact q2⟩) hs
end
structure FrC (f : Fr) : Prop where
  n2 : 2 ≤ f.nd.length
  n8 : f.nd.length ≤ 8
  nr : ∀ p ∈ f.nd, 0 ≤ p.1 ∧ p.1 ≤ 20 ∧ 0 ≤ p.2 ∧ p.2 ≤ 20
  nn : f.nd.Nodup
  m1 : 1 ≤ f.mb.length
  m8 : f.mb.length ≤ 8
  me : ∀ M ∈ f.mb, M.i < f.nd.length ∧ M.j < f.nd.length ∧ M.i ≠ M.j
  ms : ∀ M ∈ f.mb, 1 ≤ M.k ∧ M.k ≤ 50 ∧ 1 ≤ M.s ∧ M.s ≤ 50
  ml : ∀ M ∈ f.mb, (ndA f M.i).1 = (ndA f M.j).1 ∨ (ndA f M.i).2 = (ndA f M.j).2
  mn : ∀ (a b : Nat) (Ma Mb : Mb), a < b → f.mb[a]? = some Ma → f.mb[b]? = some Mb → ¬ ((Ma.i = Mb.i ∧ Ma.j = Mb.j) ∨ (Ma.i = Mb.j ∧ Ma.j = Mb.i))
  s8 : f.sp.length ≤ 8
  sa : ∀ (a b : Nat) (x y : Nat × List Nat), a < b → f.sp[a]? = some x → f.sp[b]? = some y → x.1 < y.1
  sn : ∀ s ∈ f.sp, s.1 < f.nd.length
  sk : ∀ s ∈ f.sp, s.2 ∈ ([[0], [1], [2], [0, 1], [0, 2], [1, 2], [0, 1, 2]] : List (List Nat))
theorem pD_noD (p : Int × Int) : noD (pD p) = true := by simp [noD, noDA]
theorem mD_noD (M : Mb) : noD (mD M) = true := by simp [noD, noDA]
theorem sD_noD (s : Nat × List Nat) : noD (sD s) = true := by simp [noD, noDA]
theorem nd_at {f : Fr} {i : Nat} (h : i < f.nd.length) : f.nd[i]? = some (ndA f i) := by
  unfold ndA
  rw [List.getD_eq_getElem?_getD, List.getElem?_eq_getElem h]
  rfl
theorem eqv_pD (p q : Int × Int) : PyData.eqv (pD p) (pD q) = decide (p = q) := by
  obtain ⟨a, b⟩ := p
  obtain ⟨c, d⟩ := q
  simp [PyData.eqv, PyData.eqvAll, Bool.beq_eq_decide_eq]
theorem pD_shk (p : Int × Int) : shk 1 (pD p) = true := shk_tup fun x hx => by
  simp only [List.mem_cons, List.not_mem_nil, or_false] at hx
  rcases hx with rfl | rfl <;> exact shk_int _
theorem shk_mapT {α : Type} {k : Nat} {xs : List α} {g : α → PyData} (h : ∀ x, shk k (g x) = true) : shk (k + 1) (.tuple (xs.map g)) = true := shk_tup fun y hy => by
  obtain ⟨x, _, rfl⟩ := List.mem_map.mp hy
  exact h x
section
variable {P : Program} {w : World} {K : PySem.W.Frag} {mg : Str → Option Value} {base : Heap}
def tf_need_nodes : Tf := fun ds G => ∃ f, ds = [.tuple (f.nd.map pD)] ∧ FrC f ∧ G .none
theorem can_need_nodes (T : Txt K mg) (c_isl : Can P w K mg base "is_list" 1 p_is_list (PureSp K tf_is_list)) (c_isn : Can P w K mg base "is_in" 2 p_is_in (PureSp K tf_is_in)) : Can P w K mg base "need_nodes" 3 p_need_nodes (PureSp K tf_need_nodes) := by
  refine can_pure 19 T sc_need_nodes (fun _ _ _ _ _ _ us hl => match us, hl with | [_], _ => rfl) (fun ds G h => by obtain ⟨f, rfl, _⟩ := h; rfl) fun fa cdv B outer s H E hr ds G h => ?_
  obtain ⟨f, rfl, hC, hG⟩ := h
  have h2 := hC.n2
  have h8 := hC.n8
  refine ds_if (tm_nt (dm_isl c_isl (hr.mono (by decide)) (nm 0 (tmm (cint (dmI T.i_MOST_NODES (im ⟨noDA_map pD_noD _, ?_, ?_, rfl, (fun z => nomatch z), fun _ => ds_nil ?_⟩)))))))
  · rw [List.length_map]
    omega
  · rw [List.length_map]
    omega
  refine ds_for PassesOwn.never (im_enumT rfl T.b_enumerate (nm 0 (tmm ⟨fun i ρ μ => (∃ o1 o2 o3, ρ = [some (.dat (.tuple (f.nd.map pD))), o1, o2, o3]) ∧ μ = [], ⟨⟨_, _, _, rfl⟩, rfl⟩, ?_, ?_⟩)))
  · rintro i d ρ μ hd ⟨⟨o1, o2, o3, rfl⟩, rfl⟩
    have hi : i < f.nd.length := by
      have := (List.getElem?_eq_some_iff.mp hd).1
      rw [enumD_len] at this
      simpa using this
    rw [enumD_get (d := pD (ndA f i)) (by rw [List.getElem?_map, nd_at hi]; rfl)] at hd
    obtain rfl := Option.some.inj hd
    have hp := nd_at hi
    have hpr := hC.nr _ (List.mem_of_getElem? hp)
    generalize ndA f i = p at hp hpr
    refine gm_of_j (js := [1, 2]) (gj_tup (gjs_cons (gj_name (i := 1) sc_need_nodes.nd rfl (gjs_cons (gj_name (i := 2) sc_need_nodes.nd rfl (gjs_nil ?_))))))
    refine ds_if (tm_w (wm_or (tm_nt (dm_isl c_isl (hr.mono (by decide)) (nm 2 (tmm (cint (cint ⟨?_, ?_, ?_, rfl, (fun z => nomatch z), fun _ => ?_⟩))))))))
    · simp [noDA, noD]
    · exact Int.le_refl 2
    · exact Int.le_refl 2
    refine wm_or2 (tm_nt (dm_alls rfl T.b_all rfl (dm_lc (own := [("part", 3)]) sc_need_nodes.nd (blkOk_by (by kernel_rfl)) (im_tup (nm 2 (tmm ?_))))))
    refine lc_mapL [p.1, p.2] (fun i => .int i) (fun i => .bool true) (by simp) (fun x hx b => gj_name (i := 3) sc_need_nodes.nd rfl (fun b => dm_isn (X := Bk _ _ b) c_isn hr (nm 3 (im (cint (dmI (X := Bk _ _ b) T.i_MOST_PLACE (im ⟨?_, ?_, rfl, rfl⟩))))))) ⟨_, rfl, lm ⟨fun d hd => by simp at hd; exact hd, rfl, (fun z => nomatch z), fun _ => ?_⟩⟩
    · simp only [List.mem_cons, List.not_mem_nil, or_false] at hx
      rcases hx with rfl | rfl <;> omega
    · simp only [List.mem_cons, List.not_mem_nil, or_false] at hx
      rcases hx with rfl | rfl <;> omega
    refine tm_cmp (op_inT (u65 hr)) rfl (nm 2 (dm_slT (nm 0 (tmm (pmN (pmE (nm 1 (im (opd_inT (shk_up (k := 1) (pD_shk p) (by decide)) ?_ ?_)))))))))
    · rw [cut_take, ← List.map_take]
      exact shk_up (k := 2) (shk_mapT pD_shk) (by decide)
    · have : ((cutD (f.nd.map pD) none (some (i : Int))).any fun z => PyData.eqv z (pD p)) = false := by
        rw [cut_take, ← List.map_take, List.any_map, List.any_eq_false]
        intro q hq
        show ¬ PyData.eqv (pD q) (pD p) = true
        rw [eqv_pD]
        have hne : q ≠ p := fun e => by
          subst e
          obtain ⟨hl, e⟩ := List.getElem?_eq_some_iff.mp hp
          have h2 := List.take_append_drop i f.nd
          rw [List.drop_eq_getElem_cons hl, e] at h2
          have nn := hC.nn
          rw [← h2, List.nodup_append] at nn
          exact nn.2.2 q hq q (List.mem_cons_self ..) rfl
        simpa using hne
      rw [this]
      exact bm ⟨(fun z => nomatch z), fun _ => ds_nil (ds_nil ⟨⟨_, _, _, rfl⟩, rfl⟩)⟩
  · rintro ρ μ ⟨⟨o1, o2, o3, rfl⟩, rfl⟩
    exact ds_nil hG
end
end BW

namespace BW
open PySem PySem.Spec PyProof.Rows L2
theorem eqv_ints (xs ys : List Int) : PyData.eqv (.list (xs.map PyData.int)) (.list (ys.map PyData.int)) = decide (xs = ys) := by
  have key : PyData.eqvAll (xs.map PyData.int) (ys.map PyData.int) = decide (xs = ys) := by
    induction xs generalizing ys with
    | nil => cases ys <;> simp [PyData.eqvAll]
    | cons x xs ih =>
      cases ys with
      | nil => simp [PyData.eqvAll]
      | cons y ys =>
        rw [List.map_cons, List.map_cons]
        simp only [PyData.eqvAll, PyData.eqv, ih, Bool.beq_eq_decide_eq]
        by_cases h1 : x = y <;> by_cases h2 : xs = ys <;> simp [h1, h2]
  simpa [PyData.eqv] using key
theorem pair_perm {a b c d : Int} {ms ks : List Int} (h1 : ms.Perm [a, b]) (h2 : ks.Perm [c, d]) (e : ms = ks) (hab : a ≠ b) (hcd : c ≠ d) : (a = c ∧ b = d) ∨ (a = d ∧ b = c) := by
  subst e
  have ha : a ∈ [c, d] := h2.mem_iff.mp (h1.mem_iff.mpr (by simp))
  have hb : b ∈ [c, d] := h2.mem_iff.mp (h1.mem_iff.mpr (by simp))
  simp only [List.mem_cons, List.not_mem_nil, or_false] at ha hb
  omega
theorem mD_shk (M : Mb) : shk 1 (mD M) = true := shk_tup fun x hx => by
  simp only [List.mem_cons, List.not_mem_nil, or_false] at hx
  rcases hx with rfl | rfl | rfl | rfl <;> exact shk_int _
def kindsD : PyData := .tuple [.str "x", .str "y", .str "r", .str "xy", .str "xr", .str "yr", .str "xyr"]
theorem kind_ok {ls : List Nat} (h : ls ∈ ([[0], [1], [2], [0, 1], [0, 2], [1, 2], [0, 1, 2]] : List (List Nat))) : shp (.str (kS ls)) = true ∧ (([PyData.str "x", .str "y", .str "r", .str "xy", .str "xr", .str "yr", .str "xyr"] : List PyData).any fun z => PyData.eqv z (.str (kS ls))) = true := by
  simp only [List.mem_cons, List.not_mem_nil, or_false] at h
  rcases h with rfl | rfl | rfl | rfl | rfl | rfl | rfl <;> exact ⟨by decide +kernel, by decide +kernel⟩
theorem kinds_shp : shp kindsD = true := by decide +kernel
def HgOk (f : Fr) (h : Hg) : Prop := ∀ x, h = some x → x.1 < f.mb.length ∧ x.2 ≤ 1
section
variable {P : Program} {w : World} {K : PySem.W.Frag} {mg : Str → Option Value} {base : Heap}
theorem dmKINDS {X : Cx} {ρ : Rho} {μ : Mu} {Q : PR} {pos : Pos} (T : Txt X.K X.mg) (h : Q μ (.dat kindsD)) (hg : Gl X "KINDS" := by rfl) : Dm X ρ μ (.Name "KINDS" pos) Q :=
  dm_glob (v := .ref (He.ga X.K "KINDS")) (d := kindsD) hg T.g_KINDS rfl (fun F => .tupK T.t_KINDS rfl (.cons (.str _) (.cons (.str _) (.cons (.str _) (.cons (.str _) (.cons (.str _) (.cons (.str _) (.cons (.str _) .nil)))))))) h
def tf_is_member : Tf := fun ds G => ∃ f M, ds = [mD M, .tuple (f.nd.map pD)] ∧ FrC f ∧ M ∈ f.mb ∧ G (.bool true)
theorem can_is_member (T : Txt K mg) (c_isl : Can P w K mg base "is_list" 1 p_is_list (PureSp K tf_is_list)) (c_isn : Can P w K mg base "is_in" 2 p_is_in (PureSp K tf_is_in)) : Can P w K mg base "is_member" 3 p_is_member (PureSp K tf_is_member) := by
  refine can_pure 20 T sc_is_member (fun _ _ _ _ _ _ us hl => match us, hl with | [_, _], _ => rfl) (fun ds G h => by obtain ⟨f, M, rfl, _⟩ := h; rfl) fun fa cdv B outer s H E hr ds G h => ?_
  obtain ⟨f, M, rfl, hC, hM, hG⟩ := h
  obtain ⟨hi, hj, hij⟩ := hC.me M hM
  obtain ⟨hk1, hk2, hs1, hs2⟩ := hC.ms M hM
  refine ds_if (tm_w (wm_or2 (tm_nt (dm_isl c_isl (hr.mono (by decide)) (nm 0 (tmm (cint (cint ⟨?_, ?_, ?_, rfl, (fun z => nomatch z), fun _ => ?_⟩))))))))
  · simp [noDA, noD]
  · exact Int.le_refl 4
  · exact Int.le_refl 4
  refine tm_nt (dm_alls rfl T.b_all rfl (dm_lc (own := [("end", 4)]) sc_is_member.nd (blkOk_by (by kernel_rfl)) (im_tup (dm_slT (nm 0 (tmm (pmN (pmC (tmm ?_)))))))))
  refine lc_mapL [M.i, M.j] (fun i => .int (i : Nat)) (fun i => .bool true) (by simp) (fun x hx b => gj_name (i := 4) sc_is_member.nd rfl (fun b => dm_isn (X := Bk _ _ b) c_isn hr (nm 4 (im (cint (dm_bin op_sub (dm_len rfl T.b_len (nm 1 ⟨_, .dat rfl, dm_int (opd_I0 (im ⟨?_, ?_, rfl, rfl⟩))⟩)))))))) ⟨_, rfl, lm ⟨fun d hd => by simp at hd; exact hd, rfl, (fun z => nomatch z), fun _ => ds_nil ?_⟩⟩
  · omega
  · rw [List.length_map, List.length_map]
    simp only [List.mem_cons, List.not_mem_nil, or_false] at hx
    rcases hx with rfl | rfl <;> omega
  refine ds_if (tm_w (wm_or2 (tm_nt (dm_alls rfl T.b_all rfl (dm_lc (own := [("part", 5)]) sc_is_member.nd (blkOk_by (by kernel_rfl)) (im_tup (dm_slT (nm 0 (tmm (pmC (pmN (tmm ?_))))))))))))
  refine lc_mapL [M.k, M.s] (fun i => .int i) (fun i => .bool true) (by simp) (fun x hx b => gj_name (i := 5) sc_is_member.nd rfl (fun b => dm_isn (X := Bk _ _ b) c_isn hr (nm 5 (im (cint (dmI (X := Bk _ _ b) T.i_MOST_STIFF (im ⟨?_, ?_, rfl, rfl⟩))))))) ⟨_, rfl, lm ⟨fun d hd => by simp at hd; exact hd, rfl, (fun z => nomatch z), fun _ => ?_⟩⟩
  · simp only [List.mem_cons, List.not_mem_nil, or_false] at hx
    rcases hx with rfl | rfl <;> omega
  · simp only [List.mem_cons, List.not_mem_nil, or_false] at hx
    rcases hx with rfl | rfl <;> omega
  refine tm_cmp op_eq (nomark _) (ixT (nm 0 ⟨_, _, rfl, rfl, ixT (nm 0 ⟨_, _, rfl, rfl, opd_eqI ?_⟩)⟩))
  rw [decide_eq_false (by omega : ¬ ((M.i : Int) = (M.j : Int)))]
  refine bm ⟨(fun z => nomatch z), fun _ => ds_nil ?_⟩
  refine two_par sc_is_member.nd (i := 2) (j := 3) rfl rfl (by decide) (am_cons (ixE (nm 1 (ixT (nm 0 ⟨_, _, rfl, rfl, im ⟨_, _, .inl rfl, atI_map (nd_at hi), ?_⟩⟩)))))
  refine am_cons (ixE (nm 1 (ixT (nm 0 ⟨_, _, rfl, rfl, im ⟨_, _, .inl rfl, atI_map (nd_at hj), am_nil ⟨_, _, rfl, ?_⟩⟩⟩))))
  refine ds_ret (dm_or (dm_cmp op_eq (nomark _) (ixT (nm 2 ⟨_, _, rfl, rfl, ixT (nm 3 ⟨_, _, rfl, rfl, opd_eqI (bm ⟨fun _ => ⟨_, rfl, hG⟩, fun hk => dm_one (dm_cmp op_eq (nomark _) (ixT (nm 2 ⟨_, _, rfl, rfl, ixT (nm 3 ⟨_, _, rfl, rfl, opd_eqI ⟨_, rfl, ?_⟩⟩)⟩)))⟩)⟩)⟩))))
  have h1 : ¬ (ndA f M.i).1 = (ndA f M.j).1 := by simpa using hk
  rw [decide_eq_true ((hC.ml M hM).resolve_left h1)]
  exact hG
def tf_need_members : Tf := fun ds G => ∃ f, ds = [.tuple (f.mb.map mD), .tuple (f.nd.map pD)] ∧ FrC f ∧ G .none
theorem can_need_members (T : Txt K mg) (c_isl : Can P w K mg base "is_list" 1 p_is_list (PureSp K tf_is_list)) (c_ism : Can P w K mg base "is_member" 3 p_is_member (PureSp K tf_is_member)) : Can P w K mg base "need_members" 4 p_need_members (PureSp K tf_need_members) := by
  refine can_pure 21 T sc_need_members (fun _ _ _ _ _ _ us hl => match us, hl with | [_, _], _ => rfl) (fun ds G h => by obtain ⟨f, rfl, _⟩ := h; rfl) fun fa cdv B outer s H E hr ds G h => ?_
  obtain ⟨f, rfl, hC, hG⟩ := h
  have h2 := hC.m1
  have h8 := hC.m8
  refine ds_if (tm_nt (dm_isl c_isl (hr.mono (by decide)) (nm 0 (tmm (cint (dmI T.i_MOST_MEMBERS (im ⟨noDA_map mD_noD _, ?_, ?_, rfl, (fun z => nomatch z), fun _ => ds_nil ?_⟩)))))))
  · rw [List.length_map]
    omega
  · rw [List.length_map]
    omega
  refine ds_for PassesOwn.never (im_enumT rfl T.b_enumerate (nm 0 (tmm ⟨fun i ρ μ => (∃ o2 o3 o4, ρ = [some (.dat (.tuple (f.mb.map mD))), some (.dat (.tuple (f.nd.map pD))), o2, o3, o4]) ∧ μ = [], ⟨⟨_, _, _, rfl⟩, rfl⟩, ?_, ?_⟩)))
  · rintro i d ρ μ hd ⟨⟨o2, o3, o4, rfl⟩, rfl⟩
    have hi : i < f.mb.length := by
      have := (List.getElem?_eq_some_iff.mp hd).1
      rw [enumD_len] at this
      simpa using this
    have hMb := List.getElem?_eq_getElem hi
    have hMm := List.getElem_mem hi
    generalize f.mb[i] = M at hMb hMm
    rw [enumD_get (d := mD M) (by rw [List.getElem?_map, hMb]; rfl)] at hd
    obtain rfl := Option.some.inj hd
    obtain ⟨_, _, hij⟩ := hC.me M hMm
    refine gm_of_j (js := [2, 3]) (gj_tup (gjs_cons (gj_name (i := 2) sc_need_members.nd rfl (gjs_cons (gj_name (i := 3) sc_need_members.nd rfl (gjs_nil ?_))))))
    refine ds_if (tm_nt (dm_call c_ism hr rfl (ac (nm 3 (dmm (a1 (nm 1 (dmm ⟨f, M, rfl, hC, hMm, rfl, (fun z => nomatch z), fun _ => ds_nil ?_⟩))))))))
    refine ds_if (tm_val (dm_any rfl T.b_any rfl (dm_lc (own := [("other", 4)]) sc_need_members.nd (blkOk_by (by kernel_rfl)) (im_tup (dm_slT (nm 0 (tmm (pmN (pmE (nm 2 (im (tmm ?_))))))))))))
    rw [cut_take, ← List.map_take]
    have hlt : (f.mb.take i).length ≤ 8 := by
      rw [List.length_take]
      omega
    refine lc_mapL (f.mb.take i) mD (fun _ => .bool false) (by omega) (fun N hN b => gj_name (i := 4) sc_need_members.nd rfl (fun b => ?_)) ⟨_, rfl, lm ⟨(f.mb.take i).map fun _ => false, by rw [List.map_map]; rfl, ?_⟩⟩
    · refine dm_cmp (op_eqD (Nat.lt_of_succ_lt (u65 hr))) (nomark _) (dm_srt rfl T.b_sorted (dm_slT (nm 3 (tmm (pmN (pmC (tmm ⟨[(M.i : Int), M.j], rfl, by simp, fun ms h1 _ => ?_⟩)))))))
      refine dm_srt rfl T.b_sorted (dm_slT (nm 4 (tmm (pmN (pmC (tmm ⟨[(N.i : Int), N.j], rfl, by simp, fun ks h2 _ => ?_⟩))))))
      refine opd_eqD (shk_up (k := 1) (shk_map fun i => shk_int i) (by decide)) (shk_up (k := 1) (shk_map fun i => shk_int i) (by decide)) ⟨rfl, ?_⟩
      rw [eqv_ints, decide_eq_false]
      intro e
      obtain ⟨a, ha⟩ := List.getElem?_of_mem hN
      have hai : a < i := by
        have := (List.getElem?_eq_some_iff.mp ha).1
        rw [List.length_take] at this
        omega
      rw [List.getElem?_take, if_pos hai] at ha
      obtain ⟨_, _, hNij⟩ := hC.me N (List.mem_of_getElem? ha)
      have := pair_perm h1 h2 e (by omega) (by omega)
      exact hC.mn a i N M hai ha hMb (by omega)
    · have : ((f.mb.take i).map fun _ => false).any id = false := by
        rw [List.any_map]
        exact List.any_eq_false.mpr fun _ _ => by simp
      rw [this]
      exact bm ⟨(fun z => nomatch z), fun _ => ds_nil (ds_nil ⟨⟨_, _, _, rfl⟩, rfl⟩)⟩
  · rintro ρ μ ⟨⟨o1, o2, o3, rfl⟩, rfl⟩
    exact ds_nil hG
def tf_need_supports : Tf := fun ds G => ∃ f, ds = [.tuple (f.sp.map sD), .tuple (f.nd.map pD)] ∧ FrC f ∧ G .none
theorem can_need_supports (T : Txt K mg) (c_isl : Can P w K mg base "is_list" 1 p_is_list (PureSp K tf_is_list)) (c_isn : Can P w K mg base "is_in" 2 p_is_in (PureSp K tf_is_in)) : Can P w K mg base "need_supports" 3 p_need_supports (PureSp K tf_need_supports) := by
  refine can_pure 22 T sc_need_supports (fun _ _ _ _ _ _ us hl => match us, hl with | [_, _], _ => rfl) (fun ds G h => by obtain ⟨f, rfl, _⟩ := h; rfl) fun fa cdv B outer s H E hr ds G h => ?_
  obtain ⟨f, rfl, hC, hG⟩ := h
  have h8 := hC.s8
  refine ds_if (tm_nt (dm_isl c_isl (hr.mono (by decide)) (nm 0 (tmm (cint (dmI T.i_MOST_NODES (im ⟨noDA_map sD_noD _, ?_, ?_, rfl, (fun z => nomatch z), fun _ => ds_nil ?_⟩)))))))
  · omega
  · rw [List.length_map]
    omega
  refine ds_asg (dm_neg (cint (gm_name sc_need_supports.nd (i := 2) rfl ?_)))
  refine ds_for PassesOwn.never (im_enumT rfl T.b_enumerate (nm 0 (tmm ⟨fun i ρ μ => ∃ last : Int, (∃ o3 o4, ρ = [some (.dat (.tuple (f.sp.map sD))), some (.dat (.tuple (f.nd.map pD))), some (.dat (.int last)), o3, o4]) ∧ μ = [] ∧ ∀ x, f.sp[i]? = some x → last + 1 ≤ (x.1 : Int), ⟨_, ⟨_, _, rfl⟩, rfl, fun x _ => ?_⟩, ?_, ?_⟩)))
  · show (-1 : Int) + 1 ≤ _
    omega
  · rintro i d ρ μ hd ⟨last, ⟨o3, o4, rfl⟩, rfl, hlast⟩
    have hi : i < f.sp.length := by
      have := (List.getElem?_eq_some_iff.mp hd).1
      rw [enumD_len] at this
      simpa using this
    have hSb := List.getElem?_eq_getElem hi
    have hSm := List.getElem_mem hi
    generalize f.sp[i] = S at hSb hSm
    rw [enumD_get (d := sD S) (by rw [List.getElem?_map, hSb]; rfl)] at hd
    obtain rfl := Option.some.inj hd
    have hlS := hlast S hSb
    have hSn := hC.sn S hSm
    refine gm_of_j (js := [3, 4]) (gj_tup (gjs_cons (gj_name (i := 3) sc_need_supports.nd rfl (gjs_cons (gj_name (i := 4) sc_need_supports.nd rfl (gjs_nil ?_))))))
    refine ds_if (tm_w (wm_or2 (tm_nt (dm_isl c_isl (hr.mono (by decide)) (nm 4 (tmm (cint (cint ⟨?_, ?_, ?_, rfl, (fun z => nomatch z), fun _ => ?_⟩))))))))
    · simp [noDA, noD]
    · exact Int.le_refl 2
    · exact Int.le_refl 2
    refine tm_nt (dm_isn c_isn hr (ixT (nm 4 ⟨_, _, rfl, rfl, im (dm_bin op_add (nm 2 (dm_int (opd_I0 (im (dm_bin op_sub (dm_len rfl T.b_len (nm 1 ⟨_, .dat rfl, dm_int (opd_I0 (im ⟨hlS, ?_, rfl, (fun z => nomatch z), fun _ => ds_nil ?_⟩))⟩))))))))⟩)))
    · rw [List.length_map, List.length_map]
      omega
    obtain ⟨hk1, hk2⟩ := kind_ok (hC.sk S hSm)
    refine ds_if (tm_w (wm_or2 (tm_nt (dm_isi (T := "str") rfl T.b_isinstance rfl T.b_str (by decide +kernel) (ixT (nm 4 ⟨_, _, rfl, rfl, dmm (d := .str (kS S.2)) ⟨rfl, true, (by decide +kernel : kitB "str" "str" = some true), rfl, (fun z => nomatch z), fun _ => ?_⟩⟩))))))
    refine tm_cmp (op_niT (u65 hr)) rfl (ixT (nm 4 ⟨_, _, rfl, rfl, dmKINDS T (opd_niT hk1 kinds_shp ?_)⟩))
    rw [hk2]
    refine bm ⟨(fun z => nomatch z), fun _ => ds_nil ?_⟩
    refine ds_asg (ixT (nm 4 ⟨_, _, rfl, rfl, gm_name sc_need_supports.nd (i := 2) rfl (ds_nil ⟨_, ⟨_, _, rfl⟩, rfl, fun x hx => ?_⟩)⟩))
    have := hC.sa i (i + 1) S x (by omega) hSb hx
    omega
  · rintro ρ μ ⟨last, ⟨o3, o4, rfl⟩, rfl, hlast⟩
    exact ds_nil hG
def tf_need_frame : Tf := fun ds G => ∃ f, ds = [frD f] ∧ FrC f ∧ G .none
theorem can_need_frame (T : Txt K mg) (c_isl : Can P w K mg base "is_list" 1 p_is_list (PureSp K tf_is_list)) (c_nn : Can P w K mg base "need_nodes" 3 p_need_nodes (PureSp K tf_need_nodes)) (c_nm : Can P w K mg base "need_members" 4 p_need_members (PureSp K tf_need_members)) (c_ns : Can P w K mg base "need_supports" 3 p_need_supports (PureSp K tf_need_supports)) : Can P w K mg base "need_frame" 5 p_need_frame (PureSp K tf_need_frame) := by
  refine can_pure 23 T sc_need_frame (fun _ _ _ _ _ _ us hl => match us, hl with | [_], _ => rfl) (fun ds G h => by obtain ⟨f, rfl, _⟩ := h; rfl) fun fa cdv B outer s H E hr ds G h => ?_
  obtain ⟨f, rfl, hC, hG⟩ := h
  refine ds_if (tm_nt (dm_isl c_isl (hr.mono (by decide)) (nm 0 (tmm (cint (cint ⟨?_, ?_, ?_, rfl, (fun z => nomatch z), fun _ => ds_nil ?_⟩))))))
  · simp [noDA, noD, noDA_map pD_noD, noDA_map mD_noD, noDA_map sD_noD]
  · exact Int.le_refl 3
  · exact Int.le_refl 3
  refine ds_expr (dm_call c_nn (hr.mono (by decide)) rfl (a1 (ixT (nm 0 ⟨_, _, rfl, rfl, dmm ⟨f, rfl, hC, ?_⟩⟩))))
  refine ds_expr (dm_call c_nm hr rfl (ac (ixT (nm 0 ⟨_, _, rfl, rfl, dmm (a1 (ixT (nm 0 ⟨_, _, rfl, rfl, dmm ⟨f, rfl, hC, ?_⟩⟩)))⟩))))
  exact ds_expr (dm_call c_ns (hr.mono (by decide)) rfl (ac (ixT (nm 0 ⟨_, _, rfl, rfl, dmm (a1 (ixT (nm 0 ⟨_, _, rfl, rfl, dmm ⟨f, rfl, hC, ds_nil hG⟩⟩)))⟩))))
def tf_need_hinges : Tf := fun ds G => ∃ f h, ds = [frD f, .tuple (hgL h)] ∧ HgOk f h ∧ G .none
theorem can_need_hinges (T : Txt K mg) (c_isl : Can P w K mg base "is_list" 1 p_is_list (PureSp K tf_is_list)) (c_isn : Can P w K mg base "is_in" 2 p_is_in (PureSp K tf_is_in)) : Can P w K mg base "need_hinges" 3 p_need_hinges (PureSp K tf_need_hinges) := by
  refine can_pure 24 T sc_need_hinges (fun _ _ _ _ _ _ us hl => match us, hl with | [_, _], _ => rfl) (fun ds G h => by obtain ⟨f, h, rfl, _⟩ := h; rfl) fun fa cdv B outer s H E hr ds G h => ?_
  obtain ⟨f, h, rfl, hH, hG⟩ := h
  have hl1 : (hgL h).length ≤ 1 := by cases h <;> simp [hgL]
  refine ds_if (tm_nt (dm_isl c_isl (hr.mono (by decide)) (nm 1 (tmm (cint (dm_bin op_mulB (dm_int (dmI T.i_MOST_MEMBERS (opd_I (CMulB.of (a := 2) (b := 4) (by decide) (by decide) (by decide)) (im ⟨?_, ?_, ?_, rfl, (fun z => nomatch z), fun _ => ds_nil ?_⟩))))))))))
  · cases h <;> simp [hgL, noDA, noD]
  · omega
  · omega
  refine ds_for PassesOwn.never (im_enumT rfl T.b_enumerate (nm 1 (tmm ⟨fun i ρ μ => (∃ o2 o3, ρ = [some (.dat (frD f)), some (.dat (.tuple (hgL h))), o2, o3]) ∧ μ = [], ⟨⟨_, _, rfl⟩, rfl⟩, ?_, ?_⟩)))
  · rintro i d ρ μ hd ⟨⟨o2, o3, rfl⟩, rfl⟩
    have hi := (List.getElem?_eq_some_iff.mp hd).1
    rw [enumD_len] at hi
    have hi0 : i = 0 := by omega
    subst hi0
    obtain ⟨x, rfl⟩ : ∃ x, h = some x := by
      cases h with
      | none => simp [hgL] at hi
      | some x => exact ⟨x, rfl⟩
    obtain ⟨hx1, hx2⟩ := hH x rfl
    rw [enumD_get (d := .tuple [.int x.1, .int x.2]) rfl] at hd
    obtain rfl := Option.some.inj hd
    refine gm_of_j (js := [2, 3]) (gj_tup (gjs_cons (gj_name (i := 2) sc_need_hinges.nd rfl (gjs_cons (gj_name (i := 3) sc_need_hinges.nd rfl (gjs_nil ?_))))))
    refine ds_if (tm_w (wm_or (tm_nt (dm_isl c_isl (hr.mono (by decide)) (nm 3 (tmm (cint (cint ⟨?_, ?_, ?_, rfl, (fun z => nomatch z), fun _ => ?_⟩))))))))
    · simp [noDA, noD]
    · exact Int.le_refl 2
    · exact Int.le_refl 2
    refine wm_or2 (tm_nt (dm_isn c_isn hr (ixT (nm 3 ⟨_, _, rfl, rfl, im (cint (dm_bin op_sub (dm_len rfl T.b_len (ixT (nm 0 ⟨_, _, rfl, rfl, _, .dat rfl, dm_int (opd_I0 (im ⟨?_, ?_, rfl, (fun z => nomatch z), fun _ => ?_⟩))⟩)))))⟩))))
    · omega
    · rw [List.length_map, List.length_map]
      omega
    refine tm_nt (dm_isn c_isn hr (ixT (nm 3 ⟨_, _, rfl, rfl, im (cint (cint ⟨?_, ?_, rfl, (fun z => nomatch z), fun _ => ds_nil ?_⟩))⟩)))
    · omega
    · omega
    refine ds_if (tm_w (wm_and2 (tm_cmp op_gt (nomark _) (nm 2 (dm_int (opd_B0 (bm ⟨fun hk => ?_, fun _ => ⟨(fun z => nomatch z), fun _ => ds_nil (ds_nil ⟨⟨_, _, rfl⟩, rfl⟩)⟩⟩)))))))
    simp at hk
  · rintro ρ μ ⟨⟨o2, o3, rfl⟩, rfl⟩
    exact ds_nil hG
def tf_need : Tf := fun ds G => ∃ f h, ds = [frD f, .tuple (hgL h)] ∧ FrC f ∧ HgOk f h ∧ G .none
theorem can_need (T : Txt K mg) (c_nf : Can P w K mg base "need_frame" 5 p_need_frame (PureSp K tf_need_frame)) (c_nh : Can P w K mg base "need_hinges" 3 p_need_hinges (PureSp K tf_need_hinges)) : Can P w K mg base "need" 6 p_need (PureSp K tf_need) := by
  refine can_pure 25 T sc_need (fun _ _ _ _ _ _ us hl => match us, hl with | [_, _], _ => rfl) (fun ds G h => by obtain ⟨f, h, rfl, _⟩ := h; rfl) fun fa cdv B outer s H E hr ds G h => ?_
  obtain ⟨f, h, rfl, hC, hH, hG⟩ := h
  refine ds_expr (dm_call c_nf hr rfl (a1 (nm 0 (dmm ⟨f, rfl, hC, ?_⟩))))
  exact ds_expr (dm_call c_nh (hr.mono (by decide)) rfl (ac (nm 0 (dmm (a1 (nm 1 (dmm ⟨f, h, rfl, hH, ds_nil hG⟩)))))))
end
end BW

namespace BW
open PySem PySem.Spec PyProof.Rows L2
def puD (pu : Nat → Int) (n : Nat) : PyData := .tuple ((List.range n).map fun i => .int (pu i))
def loadD (J : Nat → Nat → Int) (pu : Nat → Int) (n m : Nat) : PyData := .tuple [jD J n, puD pu m]
def stD (st : Nat → Nat → Rat) (m : Nat) : PyData := .tuple ((List.range m).map fun i => .tuple [rt (st i 0), rt (st i 1)])
def gmI (p : Way × Rat) : PyData := .tuple [.int (p.1.1 : Nat), .str (lt p.1.2), rt p.2]
def gmD (gv : List (Way × Rat)) : PyData := .tuple (gv.map gmI)
structure LoadOk (J : Nat → Nat → Int) (pu : Nat → Int) : Prop where
  j : ∀ i l, -60 ≤ J i l ∧ J i l ≤ 60
  p : ∀ i, -60 ≤ pu i ∧ pu i ≤ 60
def RtOk (q : Rat) : Prop := q.num.natAbs ≤ 1000000 ∧ q.den ≤ 1000000
structure GvOk (f : Fr) (gv : List (Way × Rat)) : Prop where
  l : gv.length ≤ 24
  ix : ∃ ix : Nat → Nat, (∀ i p, gv[i]? = some p → (heldW f)[ix i]? = some p.1) ∧ ∀ i j, i < j → j < gv.length → ix i < ix j
  q : ∀ p ∈ gv, RtOk p.2
theorem rt_noD (q : Rat) : noD (rt q) = true := by simp [noD, noDA]
theorem rowJ_noD (J : Nat → Nat → Int) (i : Nat) : noD (.tuple ((List.range 3).map fun l => .int (J i l))) = true := by
  simp only [noD]
  exact noDA_map (fun _ => by simp [noD]) _
theorem gmI_noD (p : Way × Rat) : noD (gmI p) = true := by simp [gmI, noD, noDA]
theorem eqv_rt (q : Rat) : PyData.eqv (rt q) (rt q) = true := by simp [PyData.eqv, PyData.eqvAll]
theorem rt_shp (q : Rat) : shp (rt q) = true := shk_up (k := 1) (shk_rt q) (by decide)
section
variable {P : Program} {w : World} {K : PySem.W.Frag} {mg : Str → Option Value} {base : Heap}
def tf_need_load : Tf := fun ds G => ∃ f J pu, ds = [frD f, loadD J pu f.nd.length f.mb.length] ∧ LoadOk J pu ∧ f.nd.length ≤ 8 ∧ f.mb.length ≤ 8 ∧ G .none
theorem can_need_load (T : Txt K mg) (c_isl : Can P w K mg base "is_list" 1 p_is_list (PureSp K tf_is_list)) (c_isn : Can P w K mg base "is_in" 2 p_is_in (PureSp K tf_is_in)) : Can P w K mg base "need_load" 3 p_need_load (PureSp K tf_need_load) := by
  refine can_pure 36 T sc_need_load (fun _ _ _ _ _ _ us hl => match us, hl with | [_, _], _ => rfl) (fun ds G h => by obtain ⟨f, J, pu, rfl, _⟩ := h; rfl) fun fa cdv B outer s H E hr ds G h => ?_
  obtain ⟨f, J, pu, rfl, hL, hn, hm, hG⟩ := h
  refine ds_if (tm_nt (dm_isl c_isl (hr.mono (by decide)) (nm 1 (tmm (cint (cint ⟨?_, ?_, ?_, rfl, (fun z => nomatch z), fun _ => ds_nil ?_⟩))))))
  · simp only [jD, puD, noDA, noD, noDA_map (rowJ_noD J), Bool.true_and, Bool.and_true]
    exact noDA_map (fun _ => by simp [noD]) _
  · exact Int.le_refl 2
  · exact Int.le_refl 2
  refine ds_asg (nm 1 (gm_of_j (js := [2, 3]) (gj_tup (ds := [jD J f.nd.length, puD pu f.mb.length]) (gjs_cons (gj_name (i := 2) sc_need_load.nd rfl (gjs_cons (gj_name (i := 3) sc_need_load.nd rfl (gjs_nil ?_))))))))
  have hlen : ∀ {α : Type} (g : Nat → α) (n : Nat), ((List.range n).map g).length = n := fun g n => by simp
  refine ds_if (tm_nt (dm_isl c_isl (hr.mono (by decide)) (nm 2 (tmm (dm_len rfl T.b_len (ixT (nm 0 ⟨_, _, rfl, rfl, _, .dat rfl, im (dm_len rfl T.b_len (ixT (nm 0 ⟨_, _, rfl, rfl, _, .dat rfl, im ⟨noDA_map (rowJ_noD J) _, ?_, ?_, rfl, (fun z => nomatch z), fun _ => ds_nil ?_⟩⟩)))⟩)))))))
  · rw [hlen, List.length_map, List.length_map]
    exact Int.le_refl _
  · rw [hlen, List.length_map, List.length_map]
    exact Int.le_refl _
  refine ds_for PassesOwn.never (im_enumT rfl T.b_enumerate (nm 2 (tmm ⟨fun i ρ μ => (∃ o4 o5 o6, ρ = [some (.dat (frD f)), some (.dat (loadD J pu f.nd.length f.mb.length)), some (.dat (jD J f.nd.length)), some (.dat (puD pu f.mb.length)), o4, o5, o6]) ∧ μ = [], ⟨⟨_, _, _, rfl⟩, rfl⟩, ?_, ?_⟩)))
  · rintro i d ρ μ hd ⟨⟨o4, o5, o6, rfl⟩, rfl⟩
    have hi : i < f.nd.length := by
      have := (List.getElem?_eq_some_iff.mp hd).1
      rw [enumD_len, hlen] at this
      exact this
    rw [enumD_get (d := .tuple ((List.range 3).map fun l => .int (J i l))) (by rw [List.getElem?_map, List.getElem?_range hi]; rfl)] at hd
    obtain rfl := Option.some.inj hd
    refine gm_of_j (js := [4, 5]) (gj_tup (gjs_cons (gj_name (i := 4) sc_need_load.nd rfl (gjs_cons (gj_name (i := 5) sc_need_load.nd rfl (gjs_nil ?_))))))
    refine ds_if (tm_w (wm_or2 (tm_nt (dm_isl c_isl (hr.mono (by decide)) (nm 5 (tmm (cint (cint ⟨?_, ?_, ?_, rfl, (fun z => nomatch z), fun _ => ?_⟩))))))))
    · exact noDA_map (fun _ => by simp [noD]) _
    · exact Int.le_refl 3
    · exact Int.le_refl 3
    refine tm_nt (dm_alls rfl T.b_all rfl (dm_lc (own := [("part", 6)]) sc_need_load.nd (blkOk_by (by kernel_rfl)) (im_tup (nm 5 (tmm ?_)))))
    refine lc_mapL (List.range 3) (fun l => .int (J i l)) (fun i => .bool true) (by simp) (fun l hl b => gj_name (i := 6) sc_need_load.nd rfl (fun b => dm_isn (X := Bk _ _ b) c_isn hr (nm 6 (im (dm_neg (dmI (X := Bk _ _ b) T.i_MOST_LOAD (im (im (dmI (X := Bk _ _ b) T.i_MOST_LOAD (im ⟨(hL.j i l).1, (hL.j i l).2, rfl, rfl⟩)))))))))) ⟨_, rfl, lm ⟨fun d hd => ?_, rfl, (fun z => nomatch z), fun _ => ds_nil (ds_nil ⟨⟨_, _, _, rfl⟩, rfl⟩)⟩⟩
    obtain ⟨_, _, rfl⟩ := List.mem_map.mp hd
    rfl
  · rintro ρ μ ⟨⟨o4, o5, o6, rfl⟩, rfl⟩
    refine ds_if (tm_nt (dm_isl c_isl (hr.mono (by decide)) (nm 3 (tmm (dm_len rfl T.b_len (ixT (nm 0 ⟨_, _, rfl, rfl, _, .dat rfl, im (dm_len rfl T.b_len (ixT (nm 0 ⟨_, _, rfl, rfl, _, .dat rfl, im ⟨?_, ?_, ?_, rfl, (fun z => nomatch z), fun _ => ds_nil ?_⟩⟩)))⟩)))))))
    · exact noDA_map (fun _ => by simp [noD]) _
    · rw [hlen, List.length_map, List.length_map]
      exact Int.le_refl _
    · rw [hlen, List.length_map, List.length_map]
      exact Int.le_refl _
    refine ds_if (tm_nt (dm_alls rfl T.b_all rfl (dm_lc (own := [("part", 6)]) sc_need_load.nd (blkOk_by (by kernel_rfl)) (im_tup (nm 3 (tmm ?_))))))
    refine lc_mapL (List.range f.mb.length) (fun l => .int (pu l)) (fun i => .bool true) (by simp; omega) (fun l hl b => gj_name (i := 6) sc_need_load.nd rfl (fun b => dm_isn (X := Bk _ _ b) c_isn hr (nm 6 (im (dm_neg (dmI (X := Bk _ _ b) T.i_MOST_LOAD (im (im (dmI (X := Bk _ _ b) T.i_MOST_LOAD (im ⟨(hL.p l).1, (hL.p l).2, rfl, rfl⟩)))))))))) ⟨_, rfl, lm ⟨fun d hd => ?_, rfl, (fun z => nomatch z), fun _ => ds_nil (ds_nil hG)⟩⟩
    obtain ⟨_, _, rfl⟩ := List.mem_map.mp hd
    rfl
def tf_need_all : Tf := fun ds G => ∃ f h J pu, ds = [frD f, .tuple (hgL h), loadD J pu f.nd.length f.mb.length] ∧ FrC f ∧ HgOk f h ∧ LoadOk J pu ∧ G .none
theorem can_need_all (T : Txt K mg) (c_need : Can P w K mg base "need" 6 p_need (PureSp K tf_need)) (c_nl : Can P w K mg base "need_load" 3 p_need_load (PureSp K tf_need_load)) : Can P w K mg base "need_all" 7 p_need_all (PureSp K tf_need_all) := by
  refine can_pure 37 T sc_need_all (fun _ _ _ _ _ _ us hl => match us, hl with | [_, _, _], _ => rfl) (fun ds G h => by obtain ⟨f, h, J, pu, rfl, _⟩ := h; rfl) fun fa cdv B outer s H E hr ds G h => ?_
  obtain ⟨f, h, J, pu, rfl, hC, hH, hL, hG⟩ := h
  refine ds_expr (dm_call c_need hr rfl (ac (nm 0 (dmm (a1 (nm 1 (dmm ⟨f, h, rfl, hC, hH, ?_⟩)))))))
  exact ds_expr (dm_call c_nl (hr.mono (by decide)) rfl (ac (nm 0 (dmm (a1 (nm 2 (dmm ⟨f, J, pu, rfl, hL, hC.n8, hC.m8, ds_nil hG⟩)))))))
/-! ### ratios checked -/
def tf_is_ratio : Tf := fun ds G => ∃ q : Rat, ds = [rt q] ∧ RtOk q ∧ G (.bool true)
theorem can_is_ratio (T : Txt K mg) (c_isl : Can P w K mg base "is_list" 1 p_is_list (PureSp K tf_is_list)) (c_isi : Can P w K mg base "is_integer" 1 p_is_integer (PureSp K tf_is_integer)) (c_isn : Can P w K mg base "is_in" 2 p_is_in (PureSp K tf_is_in)) (c_ratio : Can P w K mg base "ratio" 41 p_ratio (PureSp K tf_ratio)) : Can P w K mg base "is_ratio" 42 p_is_ratio (PureSp K tf_is_ratio) := by
  refine can_pure 13 T sc_is_ratio (fun _ _ _ _ _ _ us hl => match us, hl with | [_], _ => rfl) (fun ds G h => by obtain ⟨q, rfl, _⟩ := h; rfl) fun fa cdv B outer s H E hr ds G h => ?_
  obtain ⟨q, rfl, ⟨h1, h2⟩, hG⟩ := h
  have h3 := q.den_pos
  refine ds_if (tm_w (wm_or (tm_nt (dm_isl c_isl (hr.mono (by decide)) (nm 0 (tmm (cint (cint ⟨?_, ?_, ?_, rfl, (fun z => nomatch z), fun _ => ?_⟩))))))))
  · simp [noDA, noD]
  · exact Int.le_refl 2
  · exact Int.le_refl 2
  refine wm_or2 (tm_nt (dm_call c_isi (hr.mono (by decide)) rfl (a1 (ixT (nm 0 ⟨_, _, rfl, rfl, dmm ⟨_, rfl, .inl ⟨_, rfl⟩, rfl, (fun z => nomatch z), fun _ => ?_⟩⟩)))))
  refine tm_nt (dm_isn c_isn (hr.mono (by decide)) (ixT (nm 0 ⟨_, _, rfl, rfl, im (cint (dmI T.i_MOST (im ⟨?_, ?_, rfl, (fun z => nomatch z), fun _ => ds_nil ?_⟩)))⟩)))
  · omega
  · omega
  refine ds_ret (dm_and (dm_cmp op_le (nomark _) (dm_abs rfl T.b_abs (ixT (nm 0 ⟨_, _, rfl, rfl, im (dmI T.i_MOST (opd_B0 (bm ⟨fun _ => dm_one ?_, fun hk => ?_⟩)))⟩)))))
  · refine dm_cmp (op_eqD (Nat.lt_of_succ_lt (u65 hr))) (nomark _) (dm_call c_ratio hr rfl (ac (ixT (nm 0 ⟨_, _, rfl, rfl, dmm (a1 (ixT (nm 0 ⟨_, _, rfl, rfl, dmm ⟨_, _, rfl, ?_, nm 0 (opd_eqD (rt_shp _) (rt_shp _) ⟨_, rfl, ?_⟩)⟩⟩)))⟩))))
    · omega
    · rw [Rat.num_divInt_den, eqv_rt]
      exact hG
  · exfalso
    have : ¬ (if q.num < 0 then -q.num else q.num) ≤ 1000000 := by simpa using hk
    split at this <;> omega
def tf_is_way : Tf := fun ds G => ∃ v : Way, ds = [wD v] ∧ G (.bool true)
theorem can_is_way (T : Txt K mg) : Can P w K mg base "is_way" 1 p_is_way (PureSp K tf_is_way) := by
  refine can_pure 50 T sc_is_way (fun _ _ _ _ _ _ us hl => match us, hl with | [_], _ => rfl) (fun ds G h => by obtain ⟨q, rfl, _⟩ := h; rfl) fun fa cdv B outer s H E hr ds G h => ?_
  obtain ⟨v, rfl, hG⟩ := h
  refine ds_ret (dm_and (dm_isi (T := "int") rfl T.b_isinstance rfl T.b_int (by decide +kernel) (ixT (nm 0 ⟨_, _, rfl, rfl, dmm (d := .int (v.1 : Nat)) ⟨rfl, true, (by decide +kernel : kitB "int" "int" = some true), bm ⟨fun _ => ?_, fun z => nomatch z⟩⟩⟩))))
  refine dm_and (dm_not (dm_isi (T := "bool") rfl T.b_isinstance rfl T.b_bool (by decide +kernel) (ixT (nm 0 ⟨_, _, rfl, rfl, dmm (d := .int (v.1 : Nat)) ⟨rfl, false, (by decide +kernel : kitB "int" "bool" = some false), bm (bm ⟨fun _ => ?_, fun z => nomatch z⟩)⟩⟩))))
  exact dm_one (dm_isi (T := "str") rfl T.b_isinstance rfl T.b_str (by decide +kernel) (ixT (nm 0 ⟨_, _, rfl, rfl, dmm (d := .str (lt v.2)) ⟨rfl, true, (by decide +kernel : kitB "str" "str" = some true), _, rfl, hG⟩⟩)))
end
end BW

namespace BW
open PySem PySem.Spec PyProof.Rows L2
theorem wD_any (L : List Way) (v : Way) : ((L.map wD).any fun z => PyData.eqv z (wD v)) = L.any fun x => decide (wK x = wK v) := by
  rw [List.any_map]
  congr 1
  funext x
  exact eqv_wD x v
theorem wDL_shp (L : List Way) : shp (.list (L.map wD)) = true := shk_up (k := 2) (shk_map shk_wD) (by decide)
section
variable {P : Program} {w : World} {K : PySem.W.Frag} {mg : Str → Option Value} {base : Heap}
def tf_need_moves : Tf := fun ds G => ∃ f gv, ds = [frD f, gmD gv] ∧ HeldW f ∧ GvOk f gv ∧ G .none
theorem can_need_moves (T : Txt K mg) (c_isl : Can P w K mg base "is_list" 1 p_is_list (PureSp K tf_is_list)) (c_isw : Can P w K mg base "is_way" 1 p_is_way (PureSp K tf_is_way)) (c_isr : Can P w K mg base "is_ratio" 42 p_is_ratio (PureSp K tf_is_ratio)) : Can P w K mg base "need_moves" 43 p_need_moves (PureSp K tf_need_moves) := by
  refine can_pure 49 T sc_need_moves (fun _ _ _ _ _ _ us hl => match us, hl with | [_, _], _ => rfl) (fun ds G h => by obtain ⟨f, gv, rfl, _⟩ := h; rfl) fun fa cdv B outer s H E hr ds G h => ?_
  obtain ⟨f, gv, rfl, hH, hg, hG⟩ := h
  have hgl := hg.l
  refine ds_if (tm_nt (dm_isl c_isl (hr.mono (by decide)) (nm 1 (tmm (cint (cint ⟨?_, ?_, ?_, rfl, (fun z => nomatch z), fun _ => ds_nil ?_⟩))))))
  · exact noDA_map gmI_noD _
  · omega
  · rw [List.length_map]
    omega
  refine ds_setLc2 (own := [("node", 6), ("kind", 7), ("letter", 8)]) (vs1 := [8]) sc_need_moves.nd (blkOk_by (by kernel_rfl)) (by decide) (i := 2) rfl (im_tup (ixT (nm 0 ⟨_, _, rfl, rfl, tmm ⟨fun i μ acc => μ = [] ∧ acc = wDs (hW (f.sp.take i)), ⟨rfl, rfl⟩, ?_, ?_⟩⟩)))
  · rintro i d μ acc hd ⟨rfl, rfl⟩ b
    rw [List.getElem?_map] at hd
    obtain ⟨s, hs, rfl⟩ := Option.map_eq_some_iff.mp hd
    obtain ⟨hi, hs2⟩ := List.getElem?_eq_some_iff.mp hs
    refine gj_tup (gjs_cons (gj_name (i := 6) sc_need_moves.nd rfl (gjs_cons (gj_name (i := 7) sc_need_moves.nd rfl (gjs_nil ?_)))))
    intro b
    refine im_kS (nm 7 ⟨_, rfl, ?_⟩)
    refine ⟨fun j μ acc => μ = [] ∧ acc = wDs (hW (f.sp.take i) ++ (s.2.take j).map fun l => (s.1, l)), ⟨rfl, by simp⟩, ?_, ?_⟩
    · rintro j d1 μ acc hd1 ⟨rfl, rfl⟩ b
      rw [List.getElem?_map] at hd1
      obtain ⟨l, hl, rfl⟩ := Option.map_eq_some_iff.mp hd1
      obtain ⟨hj, hl2⟩ := List.getElem?_eq_some_iff.mp hl
      have hpre : (hW (f.sp.take i) ++ (s.2.take j).map fun l => (s.1, l)) <+: heldW f := by
        have e1 : heldW f = hW (f.sp.take i) ++ (s.2.map fun l => (s.1, l)) ++ hW (f.sp.drop (i + 1)) := by
          rw [← hs2, ← hW_take hi]
          unfold heldW hW
          rw [← List.flatMap_append, List.take_append_drop]
        have e2 : (s.2.map fun l => (s.1, l)) = ((s.2.take j).map fun l => (s.1, l)) ++ (s.2.drop j).map fun l => (s.1, l) := by
          rw [← List.map_append, List.take_append_drop]
        rw [e1, e2, List.append_assoc, List.append_assoc, ← List.append_assoc]
        exact List.prefix_append _ _
      refine gj_name (i := 8) sc_need_moves.nd rfl ?_
      intro b
      refine dm_tup (ac (nm 6 (dmm (a1 (nm 8 (dmm ⟨by simp, ?_, rfl, ?_⟩))))))
      · have := hpre.length_le
        have := hH.n
        unfold wDs
        rw [List.length_map]
        omega
      · rw [List.take_succ_eq_append_getElem hj, hl2]
        simp [wDs, wD, keyD, wK, kD]
    · rintro μ acc ⟨rfl, rfl⟩
      refine ⟨rfl, ?_⟩
      rw [hW_take hi, hs2, List.length_map, List.take_length]
  rintro μ acc ⟨rfl, rfl⟩
  refine ⟨(heldW f).map wD, ?_, ?_⟩
  · rw [List.length_map, List.take_length, List.map_map]
    rfl
  obtain ⟨ix, hix, hasc⟩ := hg.ix
  have hind : ∀ i p, gv[i]? = some p → ((heldW f).map wD)[ix i]? = some (wD p.1) ∧ (∀ m z', m < ix i → ((heldW f).map wD)[m]? = some z' → PyData.eqv z' (wD p.1) = false) := fun i p hp => by
    have h1 := hix i p hp
    refine ⟨by rw [List.getElem?_map, h1]; rfl, fun m z' hm hz => ?_⟩
    rw [List.getElem?_map] at hz
    obtain ⟨v, hv, rfl⟩ := Option.map_eq_some_iff.mp hz
    rw [eqv_wD, decide_eq_false]
    intro e
    have hnd := hH.ok.nd
    have a1 : ((heldW f).map wK)[m]? = some (wK p.1) := by rw [List.getElem?_map, hv, ← e]; rfl
    have a2 : ((heldW f).map wK)[ix i]? = some (wK p.1) := by rw [List.getElem?_map, h1]; rfl
    have := nd_ix hnd a1 a2
    omega
  have hpe : ∀ p : Way × Rat, PyData.eqv (wD p.1) (wD p.1) = true := fun p => by rw [eqv_wD]; exact decide_eq_true rfl
  refine ds_asg (dm_neg (cint (gm_name sc_need_moves.nd (i := 3) rfl ?_)))
  refine ds_for PassesOwn.never (im_enumT rfl T.b_enumerate (nm 1 (tmm ⟨fun i ρ μ => ∃ last : Int, (∃ o4 o5 o6 o7 o8, ρ = [some (.dat (frD f)), some (.dat (gmD gv)), some (.dat (.list ((heldW f).map wD))), some (.dat (.int last)), o4, o5, o6, o7, o8]) ∧ μ = [] ∧ (i < gv.length → last < (ix i : Int)), ⟨_, ⟨_, _, _, _, _, rfl⟩, rfl, fun _ => ?_⟩, ?_, ?_⟩)))
  · omega
  · rintro i d ρ μ hd ⟨last, ⟨o4, o5, o6, o7, o8, rfl⟩, rfl, hlast⟩
    have hi : i < gv.length := by
      have := (List.getElem?_eq_some_iff.mp hd).1
      rw [enumD_len] at this
      simpa using this
    have hPb := List.getElem?_eq_getElem hi
    have hPm := List.getElem_mem hi
    generalize gv[i] = p at hPb hPm
    rw [enumD_get (d := gmI p) (by rw [List.getElem?_map, hPb]; rfl)] at hd
    obtain rfl := Option.some.inj hd
    obtain ⟨hz1, hz2⟩ := hind i p hPb
    have hmem : ((heldW f).any fun x => decide (wK x = wK p.1)) = true := List.any_eq_true.mpr ⟨p.1, List.mem_of_getElem? (hix i p hPb), by simp⟩
    have hll := hlast hi
    refine gm_of_j (js := [4, 5]) (gj_tup (gjs_cons (gj_name (i := 4) sc_need_moves.nd rfl (gjs_cons (gj_name (i := 5) sc_need_moves.nd rfl (gjs_nil ?_))))))
    refine ds_if (tm_w (wm_or (tm_nt (dm_isl c_isl (hr.mono (by decide)) (nm 5 (tmm (cint (cint ⟨?_, ?_, ?_, rfl, (fun z => nomatch z), fun _ => ?_⟩))))))))
    · simp [noDA, noD]
    · exact Int.le_refl 3
    · exact Int.le_refl 3
    refine wm_or (tm_nt (dm_call c_isw (hr.mono (by decide)) rfl (a1 (dm_slT (nm 5 (tmm (pmN (pmC (dmm ⟨p.1, rfl, rfl, (fun z => nomatch z), fun _ => ?_⟩)))))))))
    refine wm_or2 (tm_cmp (op_notInD (u65 hr)) rfl (dm_slT (nm 5 (tmm (pmN (pmC (nm 2 (opd_niD (d := wD p.1) (wD_shp p.1) (wDL_shp _) ?_))))))))
    rw [wD_any, hmem]
    refine bm ⟨(fun z => nomatch z), fun _ => ?_⟩
    refine tm_nt (dm_call c_isr hr rfl (a1 (ixT (nm 5 ⟨_, _, rfl, rfl, dmm ⟨_, rfl, hg.q p hPm, rfl, (fun z => nomatch z), fun _ => ds_nil ?_⟩⟩))))
    refine ds_if (tm_cmp op_le (nomark _) (dm_index (u65 hr) (nm 2 (lm (dm_slT (nm 5 (tmm (pmN (pmC (dmm ⟨ix i, wD p.1, wDL_shp _, ?_, hz1, ?_, ?_, nm 3 (opd_B0 (bm ⟨fun hk => ?_, fun _ => ds_nil ?_⟩))⟩))))))))))
    · exact wD_shp p.1
    · exact hpe p
    · exact hz2
    · exfalso
      have : (ix i : Int) ≤ last := by simpa using hk
      omega
    refine ds_asg (dm_index (u65 hr) (nm 2 (lm (dm_slT (nm 5 (tmm (pmN (pmC (dmm ⟨ix i, wD p.1, wDL_shp _, ?_, hz1, ?_, ?_, gm_name sc_need_moves.nd (i := 3) rfl (ds_nil ⟨_, ⟨_, _, _, _, _, rfl⟩, rfl, fun h2 => ?_⟩)⟩)))))))))
    · exact wD_shp p.1
    · exact hpe p
    · exact hz2
    have := hasc i (i + 1) (by omega) h2
    omega
  · rintro ρ μ ⟨last, ⟨o4, o5, o6, o7, o8, rfl⟩, rfl, _⟩
    exact ds_nil hG
def tf_need_strains : Tf := fun ds G => ∃ f st, ds = [frD f, stD st f.mb.length] ∧ f.mb.length ≤ 8 ∧ (∀ i l, RtOk (st i l)) ∧ G .none
theorem can_need_strains (T : Txt K mg) (c_isl : Can P w K mg base "is_list" 1 p_is_list (PureSp K tf_is_list)) (c_isr : Can P w K mg base "is_ratio" 42 p_is_ratio (PureSp K tf_is_ratio)) : Can P w K mg base "need_strains" 43 p_need_strains (PureSp K tf_need_strains) := by
  refine can_pure 51 T sc_need_strains (fun _ _ _ _ _ _ us hl => match us, hl with | [_, _], _ => rfl) (fun ds G h => by obtain ⟨f, gv, rfl, _⟩ := h; rfl) fun fa cdv B outer s H E hr ds G h => ?_
  obtain ⟨f, st, rfl, hm, hq, hG⟩ := h
  refine ds_if (tm_nt (dm_isl c_isl (hr.mono (by decide)) (nm 1 (tmm (dm_len rfl T.b_len (ixT (nm 0 ⟨_, _, rfl, rfl, _, .dat rfl, im (dm_len rfl T.b_len (ixT (nm 0 ⟨_, _, rfl, rfl, _, .dat rfl, im ⟨?_, ?_, ?_, rfl, (fun z => nomatch z), fun _ => ds_nil ?_⟩⟩)))⟩)))))))
  · exact noDA_map (fun _ => by simp [noD, noDA]) _
  · simp
  · simp
  refine ds_for PassesOwn.never (im_enumT rfl T.b_enumerate (nm 1 (tmm ⟨fun i ρ μ => (∃ o2 o3 o4, ρ = [some (.dat (frD f)), some (.dat (stD st f.mb.length)), o2, o3, o4]) ∧ μ = [], ⟨⟨_, _, _, rfl⟩, rfl⟩, ?_, ?_⟩)))
  · rintro i d ρ μ hd ⟨⟨o2, o3, o4, rfl⟩, rfl⟩
    have hi : i < f.mb.length := by
      have := (List.getElem?_eq_some_iff.mp hd).1
      rw [enumD_len] at this
      simpa using this
    rw [enumD_get (d := .tuple [rt (st i 0), rt (st i 1)]) (by rw [List.getElem?_map, List.getElem?_range hi]; rfl)] at hd
    obtain rfl := Option.some.inj hd
    refine gm_of_j (js := [2, 3]) (gj_tup (gjs_cons (gj_name (i := 2) sc_need_strains.nd rfl (gjs_cons (gj_name (i := 3) sc_need_strains.nd rfl (gjs_nil ?_))))))
    refine ds_if (tm_w (wm_or2 (tm_nt (dm_isl c_isl (hr.mono (by decide)) (nm 3 (tmm (cint (cint ⟨?_, ?_, ?_, rfl, (fun z => nomatch z), fun _ => ?_⟩))))))))
    · simp [noDA, noD]
    · exact Int.le_refl 2
    · exact Int.le_refl 2
    refine tm_nt (dm_alls rfl T.b_all rfl (dm_lc (own := [("part", 4)]) sc_need_strains.nd (blkOk_by (by kernel_rfl)) (im_tup (nm 3 (tmm ?_)))))
    refine lc_mapL [0, 1] (fun l => rt (st i l)) (fun i => .bool true) (by simp) (fun l hl b => gj_name (i := 4) sc_need_strains.nd rfl (fun b => dm_call (X := Bk _ _ b) c_isr hr rfl (a1 (nm 4 (dmm ⟨_, rfl, hq i l, rfl, rfl⟩))))) ⟨_, rfl, lm ⟨fun d hd => ?_, rfl, (fun z => nomatch z), fun _ => ds_nil (ds_nil ⟨⟨_, _, _, rfl⟩, rfl⟩)⟩⟩
    obtain ⟨_, _, rfl⟩ := List.mem_map.mp hd
    rfl
  · rintro ρ μ ⟨⟨o2, o3, o4, rfl⟩, rfl⟩
    exact ds_nil hG
def tf_need_given : Tf := fun ds G => ∃ f h gv, ds = [frD f, .tuple (hgL h), gmD gv] ∧ FrC f ∧ HgOk f h ∧ HeldW f ∧ GvOk f gv ∧ G .none
theorem can_need_given (T : Txt K mg) (c_need : Can P w K mg base "need" 6 p_need (PureSp K tf_need)) (c_nm : Can P w K mg base "need_moves" 43 p_need_moves (PureSp K tf_need_moves)) : Can P w K mg base "need_given" 44 p_need_given (PureSp K tf_need_given) := by
  refine can_pure 52 T sc_need_given (fun _ _ _ _ _ _ us hl => match us, hl with | [_, _, _], _ => rfl) (fun ds G h => by obtain ⟨f, h, gv, rfl, _⟩ := h; rfl) fun fa cdv B outer s H E hr ds G h => ?_
  obtain ⟨f, h, gv, rfl, hC, hO, hH, hg, hG⟩ := h
  refine ds_expr (dm_call c_need (hr.mono (by decide)) rfl (ac (nm 0 (dmm (a1 (nm 1 (dmm ⟨f, h, rfl, hC, hO, ?_⟩)))))))
  exact ds_expr (dm_call c_nm hr rfl (ac (nm 0 (dmm (a1 (nm 2 (dmm ⟨f, gv, rfl, hH, hg, ds_nil hG⟩)))))))
def tf_need_strained : Tf := fun ds G => ∃ f h st, ds = [frD f, .tuple (hgL h), stD st f.mb.length] ∧ FrC f ∧ HgOk f h ∧ (∀ i l, RtOk (st i l)) ∧ G .none
theorem can_need_strained (T : Txt K mg) (c_need : Can P w K mg base "need" 6 p_need (PureSp K tf_need)) (c_ns : Can P w K mg base "need_strains" 43 p_need_strains (PureSp K tf_need_strains)) : Can P w K mg base "need_strained" 44 p_need_strained (PureSp K tf_need_strained) := by
  refine can_pure 53 T sc_need_strained (fun _ _ _ _ _ _ us hl => match us, hl with | [_, _, _], _ => rfl) (fun ds G h => by obtain ⟨f, h, gv, rfl, _⟩ := h; rfl) fun fa cdv B outer s H E hr ds G h => ?_
  obtain ⟨f, h, st, rfl, hC, hO, hq, hG⟩ := h
  refine ds_expr (dm_call c_need (hr.mono (by decide)) rfl (ac (nm 0 (dmm (a1 (nm 1 (dmm ⟨f, h, rfl, hC, hO, ?_⟩)))))))
  exact ds_expr (dm_call c_ns hr rfl (ac (nm 0 (dmm (a1 (nm 2 (dmm ⟨f, st, rfl, hC.m8, hq, ds_nil hG⟩)))))))
end
end BW

namespace BW
open PySem PySem.Spec PyProof.Rows L2
def Sol (f : Fr) (h : Hg) (J : Nat → Nat → Int) (fix : Nat → Nat → Rat) (gv : List (Way × Rat)) (u : Way → Rat) : Prop :=
  (∀ w ∈ heldW f, u w = gvF gv w) ∧ (∀ i < (free f).length, dot (free f).length (tabM f h i) (fun j => u (frW f j)) = rgtV f h J fix (gvF gv) i) ∧ ∀ m i, Bd 5000000 (endV f h fix u m i)
structure RespOk (f : Fr) (h : Hg) (J : Nat → Nat → Int) (fix : Nat → Nat → Rat) (gv : List (Way × Rat)) : Prop where
  w : FrW f
  hd : HeldW f
  x : ∀ m i, Bd 1000 (fix m i)
  j : ∀ i l, (J i l).natAbs < 2 ^ 20
  g : ∀ p ∈ gv, p.1 ∈ heldW f ∧ Bd 30 p.2
  gl : gv.length ≤ 100
  n0 : 0 < (free f).length
  n9 : (free f).length ≤ 99
  i : Inj (free f).length (free f).length (tabM f h)
  c : ∃ b, Cm b (tabM f h) ∧ Cm b (aug (tabM f h) (rgtV f h J fix (gvF gv)) (free f).length) ∧ (b + 1) * 2 ^ (free f).length ≤ 200000
theorem resp_of {f : Fr} {h : Hg} {J : Nat → Nat → Int} {fix : Nat → Nat → Rat} {gv : List (Way × Rat)} {G : PyData → Prop} (R : RespOk f h J fix gv) (hG : ∀ d u, Sol f h J fix gv u → G (.tuple [d, endsD f h fix u])) : tf_response [frD f, .tuple (hgL h), jD J f.nd.length, matD fix f.mb.length 6, dD (gvD gv)] G := by
  obtain ⟨b, c1, c2, c3⟩ := R.c
  exact ⟨f, h, J, fix, gv, b, rfl, R.w, R.hd, R.x, R.j, R.g, R.gl, R.n0, R.n9, R.i, c1, c2, c3, fun d u h1 h2 h3 => hG d u ⟨h1, h2, h3⟩⟩
def fixP (f : Fr) (pu : Nat → Int) : Nat → Nat → Rat := fun m i => match f.mb[m]? with
  | none => 0
  | some M => pushV (pu m) (lM f M) i
def fixS (f : Fr) (st : Nat → Nat → Rat) : Nat → Nat → Rat := fun m i => match f.mb[m]? with
  | none => 0
  | some M => strainV M.k M.s (lM f M) (st m 0) (st m 1) i
theorem enumD_range (g : Nat → PyData) (n : Nat) : enumD ((List.range n).map g) = (List.range n).map fun i => .tuple [.int (i : Nat), g i] := by
  unfold enumD
  apply List.ext_getElem
  · simp
  · intro i h1 h2
    simp
section
variable {X : Cx} {ρ : Rho} {μ : Mu} {Q : PR} {pos : Pos}
/-- {} as data, locked at once -/
theorem dm_dctZ (h : Q μ (.dat (dD []))) : Dm X ρ μ (.Dict [] [] pos) Q := fun R F H as σ S K q => by
  refine we_lock (We.of pe_dnewT fun p hp => ⟨p, .dT [], rfl, upd_same, True.intro, fun od => ?_⟩)
  have e : upd (upd H p (.dT [])) p (.frz od (.dT [])) = upd H p (.frz od (.dT [])) := by
    funext b
    by_cases hb : b = p
    · subst hb
      rw [upd_same, upd_same]
    · rw [upd_ne hb, upd_ne hb, upd_ne hb]
  rw [e]
  refine q _ _ _ as μ _ (S.laid hp (.frz od (.dT []))) ⟨same_upd (fresh_of S.fh hp), List.prefix_refl _⟩ ?_ h
  exact Rp.dct upd_same .nil
end
section
variable {P : Program} {w : World} {K : PySem.W.Frag} {mg : Str → Option Value} {base : Heap}
theorem dmNONE {X : Cx} {ρ : Rho} {μ : Mu} {Q : PR} {pos : Pos} (T : Txt X.K X.mg) (h : Q μ (.dat (.tuple [.int 0, .int 0, .int 0]))) (hg : Gl X "NONE" := by rfl) : Dm X ρ μ (.Name "NONE" pos) Q :=
  dm_glob (v := .ref (He.ga X.K "NONE")) (d := .tuple [.int 0, .int 0, .int 0]) hg T.g_NONE rfl (fun F => .tupK T.t_NONE rfl (.cons (.int _) (.cons (.int _) (.cons (.int _) .nil)))) h
theorem rep_flat {α : Type} (n : Nat) (x : α) : (List.replicate n [x]).flatten = (List.range n).map fun _ => x := by
  rw [List.flatten_replicate_singleton]
  simp [List.map_const']
def tf_no_loads : Tf := fun ds G => ∃ f, ds = [frD f] ∧ 2 ≤ f.nd.length ∧ f.nd.length ≤ 100 ∧ G (jD (fun _ _ => 0) f.nd.length)
theorem can_no_loads (T : Txt K mg) : Can P w K mg base "no_loads" 1 p_no_loads (PureSp K tf_no_loads) := by
  refine can_pure 54 T sc_no_loads (fun _ _ _ _ _ _ us hl => match us, hl with | [_], _ => rfl) (fun ds G h => by obtain ⟨q, rfl, _⟩ := h; rfl) fun fa cdv B outer s H E hr ds G h => ?_
  obtain ⟨f, rfl, h2, h8, hG⟩ := h
  refine ds_ret (dm_bin op_repT (dm_tup (a1 (dmNONE T (dmm ⟨by simp, dm_len rfl T.b_len (ixT (nm 0 ⟨_, _, rfl, rfl, _, .dat rfl, ?_⟩))⟩)))))
  rw [List.length_map, List.length_map]
  refine opd_repT (by simp) (by omega) (by omega) (by simp) ⟨_, rfl, ?_⟩
  rw [Int.toNat_natCast, rep_flat]
  exact hG
def tf_as_moves : Tf := fun ds G => ∃ gv : List (Way × Rat), ds = [gmD gv] ∧ (gv.map fun p => wK p.1).Nodup ∧ gv.length ≤ 100 ∧ G (dD (gvD gv))
theorem can_as_moves (T : Txt K mg) : Can P w K mg base "as_moves" 1 p_as_moves (PureSp K tf_as_moves) := by
  refine can_pure 55 T sc_as_moves (fun _ _ _ _ _ _ us hl => match us, hl with | [_], _ => rfl) (fun ds G h => by obtain ⟨q, rfl, _⟩ := h; rfl) fun fa cdv B outer s H E hr ds G h => ?_
  obtain ⟨gv, rfl, hn, hl, hG⟩ := h
  refine ds_ret (dm_dc (own := [("node", 1), ("letter", 2), ("move", 3)]) sc_as_moves.nd (u1 hr) (blkOk_by (by kernel_rfl)) (im_tup (nm 0 (tmm ?_))))
  refine dc_mapL gv gmI (fun p => wK p.1) (fun p => rt p.2) (by omega) hn (fun p _ => rfl) (fun p hp b => ?_) ⟨_, rfl, _, rfl, hG⟩
  refine gj_tup (gjs_cons (gj_name (i := 1) sc_as_moves.nd rfl (gjs_cons (gj_name (i := 2) sc_as_moves.nd rfl (gjs_cons (gj_name (i := 3) sc_as_moves.nd rfl (gjs_nil ?_)))))))
  intro b
  exact dm_tup (ac (nm 1 (dmm (a1 (nm 2 (dmm ⟨by simp, rfl, fun b => nm 3 ⟨rfl, rfl⟩⟩))))))
def tf_fixed_by : Tf := fun ds G => ∃ f pu, ds = [frD f, puD pu f.mb.length] ∧ FrW f ∧ (∀ i, sml (pu i)) ∧ G (matD (fixP f pu) f.mb.length 6)
theorem can_fixed_by (T : Txt K mg) (c_pushed : Can P w K mg base "pushed" 42 p_pushed (PureSp K tf_pushed)) : Can P w K mg base "fixed_by" 43 p_fixed_by (PureSp K tf_fixed_by) := by
  refine can_pure 46 T sc_fixed_by (fun _ _ _ _ _ _ us hl => match us, hl with | [_, _], _ => rfl) (fun ds G h => by obtain ⟨f, pu, rfl, _⟩ := h; rfl) fun fa cdv B outer s H E hr ds G h => ?_
  obtain ⟨f, pu, rfl, hW, hp, hG⟩ := h
  have hm8 := hW.m
  refine ds_ret (dm_lc (own := [("member", 2), ("push", 3)]) sc_fixed_by.nd (blkOk_by (by kernel_rfl)) (im_enumT rfl T.b_enumerate (nm 1 (tmm ?_))))
  rw [enumD_range]
  refine lc_mapL (List.range f.mb.length) _ (fun m => .list (eD (fixP f pu m) 6)) (by simp; omega) (fun m hm b => ?_) ⟨_, rfl, _, rfl, hG⟩
  have hk := List.mem_range.mp hm
  have hMb := List.getElem?_eq_getElem hk
  have ok := hW.ok _ (List.getElem_mem hk)
  have e : fixP f pu m = pushV (pu m) (lM f f.mb[m]) := by
    funext i
    unfold fixP
    rw [hMb]
  rw [e]
  refine gj_tup (gjs_cons (gj_name (i := 2) sc_fixed_by.nd rfl (gjs_cons (gj_name (i := 3) sc_fixed_by.nd rfl (gjs_nil ?_)))))
  intro b
  exact dm_call (X := Bk _ _ b) c_pushed hr rfl (ac (nm 0 (dmm (ac (nm 2 (dmm (a1 (nm 3 (dmm ⟨f, m, f.mb[m], _, _, pu m, rfl, ok.at hMb, ok.farS, hp m, rfl, rfl⟩)))))))))
def tf_by_load : Tf := fun ds G => ∃ f h J pu, ds = [frD f, .tuple (hgL h), loadD J pu f.nd.length f.mb.length] ∧ (∀ i, sml (pu i)) ∧ RespOk f h J (fixP f pu) [] ∧ ∀ d u, Sol f h J (fixP f pu) [] u → G (.tuple [d, endsD f h (fixP f pu) u])
theorem can_by_load (T : Txt K mg) (c_response : Can P w K mg base "response" 47 p_response (PureSp K tf_response)) (c_fixed : Can P w K mg base "fixed_by" 43 p_fixed_by (PureSp K tf_fixed_by)) : Can P w K mg base "by_load" 48 p_by_load (PureSp K tf_by_load) := by
  refine can_pure 47 T sc_by_load (fun _ _ _ _ _ _ us hl => match us, hl with | [_, _, _], _ => rfl) (fun ds G h => by obtain ⟨f, h, J, pu, rfl, _⟩ := h; rfl) fun fa cdv B outer s H E hr ds G h => ?_
  obtain ⟨f, h, J, pu, rfl, hp, hR, hG⟩ := h
  refine ds_ret (dm_call c_response hr rfl (ac (nm 0 (dmm (ac (nm 1 (dmm (ac (ixT (nm 2 ⟨_, _, rfl, rfl, dmm ?_⟩))))))))))
  refine ac (dm_call c_fixed (hr.mono (by decide)) rfl (ac (nm 0 (dmm (a1 (ixT (nm 2 ⟨_, _, rfl, rfl, dmm ⟨f, pu, rfl, hR.w, hp, dmm (a1 (dm_dctZ (dmm ?_)))⟩⟩)))))))
  exact resp_of hR fun d u hS => ⟨_, rfl, hG d u hS⟩
def tf_end_forces : Tf := fun ds G => ∃ f h J pu, ds = [frD f, .tuple (hgL h), loadD J pu f.nd.length f.mb.length] ∧ FrC f ∧ HgOk f h ∧ LoadOk J pu ∧ RespOk f h J (fixP f pu) [] ∧ ∀ u, Sol f h J (fixP f pu) [] u → G (endsD f h (fixP f pu) u)
theorem can_end_forces (T : Txt K mg) (c_all : Can P w K mg base "need_all" 7 p_need_all (PureSp K tf_need_all)) (c_by : Can P w K mg base "by_load" 48 p_by_load (PureSp K tf_by_load)) : Can P w K mg base "end_forces" 49 p_end_forces (PureSp K tf_end_forces) := by
  refine can_pure 48 T sc_end_forces (fun _ _ _ _ _ _ us hl => match us, hl with | [_, _, _], _ => rfl) (fun ds G h => by obtain ⟨f, h, J, pu, rfl, _⟩ := h; rfl) fun fa cdv B outer s H E hr ds G h => ?_
  obtain ⟨f, h, J, pu, rfl, hC, hO, hL, hR, hG⟩ := h
  refine ds_expr (dm_call c_all (hr.mono (by decide)) rfl (ac (nm 0 (dmm (ac (nm 1 (dmm (a1 (nm 2 (dmm ⟨f, h, J, pu, rfl, hC, hO, hL, ?_⟩))))))))))
  have hp : ∀ i, sml (pu i) := fun i => by
    have := hL.p i
    unfold sml
    omega
  exact ds_ret (ixT (dm_call c_by hr rfl (ac (nm 0 (dmm (ac (nm 1 (dmm (a1 (nm 2 (dmm ⟨f, h, J, pu, rfl, hp, hR, fun d u hS => ⟨_, _, rfl, rfl, _, rfl, hG u hS⟩⟩)))))))))))
def tf_by_moves : Tf := fun ds G => ∃ f h gv, ds = [frD f, .tuple (hgL h), gmD gv] ∧ 2 ≤ f.nd.length ∧ f.nd.length ≤ 100 ∧ (gv.map fun p => wK p.1).Nodup ∧ RespOk f h (fun _ _ => 0) (fun _ _ => 0) gv ∧ ∀ d u, Sol f h (fun _ _ => 0) (fun _ _ => 0) gv u → G (.tuple [d, endsD f h (fun _ _ => 0) u])
theorem can_by_moves (T : Txt K mg) (c_response : Can P w K mg base "response" 47 p_response (PureSp K tf_response)) (c_nl : Can P w K mg base "no_loads" 1 p_no_loads (PureSp K tf_no_loads)) (c_am : Can P w K mg base "as_moves" 1 p_as_moves (PureSp K tf_as_moves)) : Can P w K mg base "by_moves" 48 p_by_moves (PureSp K tf_by_moves) := by
  refine can_pure 56 T sc_by_moves (fun _ _ _ _ _ _ us hl => match us, hl with | [_, _, _], _ => rfl) (fun ds G h => by obtain ⟨f, h, gv, rfl, _⟩ := h; rfl) fun fa cdv B outer s H E hr ds G h => ?_
  obtain ⟨f, h, gv, rfl, h2, h1, hnd, hR, hG⟩ := h
  have hm8 := hR.w.m
  refine ds_asg (dm_bin op_rep (dm_lstO (am_cons (dm_asd (dm_bin op_rep (dm_lstO (am_cons (dmZERO T (am_nil ⟨by simp, dm_int (opd_repL (n := 0) (k := 6) rfl (by decide) (by decide) (by simp) ⟨1, eD (fun _ => 0) 6, rfl, rfl, am_nil ⟨by simp, dm_len rfl T.b_len (ixT (nm 0 ⟨_, _, rfl, rfl, _, .dat rfl, ?_⟩))⟩⟩)⟩)))))))))
  rw [List.length_map, List.length_map]
  refine opd_repL (n := 2) (k := (f.mb.length : Nat)) rfl (by omega) (by omega) (by simp) (gm_name sc_by_moves.nd (i := 3) rfl ?_)
  refine ds_frzL (n := 3) ((List.range f.mb.length).map fun _ => .list (eD (fun _ => 0) 6)) rfl ?_ ?_
  · rw [Int.toNat_natCast, rep_flat, List.map_map]
    rfl
  refine ds_ret (dm_call c_response hr rfl (ac (nm 0 (dmm (ac (nm 1 (dmm (ac (dm_call c_nl (hr.mono (by decide)) rfl (a1 (nm 0 (dmm ⟨f, rfl, h2, h1, dmm ?_⟩))))))))))))
  refine ac (nz 3 (dmm (a1 (dm_call c_am (hr.mono (by decide)) rfl (a1 (nm 2 (dmm ⟨gv, rfl, hnd, hR.gl, dmm ?_⟩)))))))
  exact resp_of hR fun d u hS => ⟨_, rfl, hG d u hS⟩
def tf_sunk : Tf := fun ds G => ∃ f h gv, ds = [frD f, .tuple (hgL h), gmD gv] ∧ FrC f ∧ HgOk f h ∧ GvOk f gv ∧ (gv.map fun p => wK p.1).Nodup ∧ RespOk f h (fun _ _ => 0) (fun _ _ => 0) gv ∧ ∀ u, Sol f h (fun _ _ => 0) (fun _ _ => 0) gv u → G (endsD f h (fun _ _ => 0) u)
theorem can_sunk (T : Txt K mg) (c_ng : Can P w K mg base "need_given" 44 p_need_given (PureSp K tf_need_given)) (c_by : Can P w K mg base "by_moves" 48 p_by_moves (PureSp K tf_by_moves)) : Can P w K mg base "sunk_forces" 49 p_sunk_forces (PureSp K tf_sunk) := by
  refine can_pure 57 T sc_sunk_forces (fun _ _ _ _ _ _ us hl => match us, hl with | [_, _, _], _ => rfl) (fun ds G h => by obtain ⟨f, h, gv, rfl, _⟩ := h; rfl) fun fa cdv B outer s H E hr ds G h => ?_
  obtain ⟨f, h, gv, rfl, hC, hO, hg, hnd, hR, hG⟩ := h
  have h8 := hC.n8
  refine ds_expr (dm_call c_ng (hr.mono (by decide)) rfl (ac (nm 0 (dmm (ac (nm 1 (dmm (a1 (nm 2 (dmm ⟨f, h, gv, rfl, hC, hO, hR.hd, hg, ?_⟩))))))))))
  exact ds_ret (ixT (dm_call c_by hr rfl (ac (nm 0 (dmm (ac (nm 1 (dmm (a1 (nm 2 (dmm ⟨f, h, gv, rfl, hC.n2, by omega, hnd, hR, fun d u hS => ⟨_, _, rfl, rfl, _, rfl, hG u hS⟩⟩)))))))))))
def tf_by_strains : Tf := fun ds G => ∃ f h st, ds = [frD f, .tuple (hgL h), stD st f.mb.length] ∧ 2 ≤ f.nd.length ∧ f.nd.length ≤ 100 ∧ (∀ i l, Bd 1000 (st i l)) ∧ RespOk f h (fun _ _ => 0) (fixS f st) [] ∧ ∀ d u, Sol f h (fun _ _ => 0) (fixS f st) [] u → G (.tuple [d, endsD f h (fixS f st) u])
theorem can_by_strains (T : Txt K mg) (c_response : Can P w K mg base "response" 47 p_response (PureSp K tf_response)) (c_nl : Can P w K mg base "no_loads" 1 p_no_loads (PureSp K tf_no_loads)) (c_strained : Can P w K mg base "strained" 43 p_strained (PureSp K tf_strained)) : Can P w K mg base "by_strains" 48 p_by_strains (PureSp K tf_by_strains) := by
  refine can_pure 59 T sc_by_strains (fun _ _ _ _ _ _ us hl => match us, hl with | [_, _, _], _ => rfl) (fun ds G h => by obtain ⟨f, h, st, rfl, _⟩ := h; rfl) fun fa cdv B outer s H E hr ds G h => ?_
  obtain ⟨f, h, st, rfl, h2, h1, hq, hR, hG⟩ := h
  have hW := hR.w
  have hm8 := hW.m
  refine ds_setLc (own := [("member", 4), ("strain", 5)]) sc_by_strains.nd (blkOk_by (by kernel_rfl)) (i := 3) rfl (im_enumT rfl T.b_enumerate (nm 2 (tmm ?_)))
  rw [enumD_range]
  refine lc_mapL (List.range f.mb.length) _ (fun m => .list (eD (fixS f st m) 6)) (by simp; omega) (fun m hm b => ?_) (.inl ⟨_, rfl, ?_⟩)
  · have hk := List.mem_range.mp hm
    have hMb := List.getElem?_eq_getElem hk
    have ok := hW.ok _ (List.getElem_mem hk)
    have e : fixS f st m = strainV f.mb[m].k f.mb[m].s (lM f f.mb[m]) (st m 0) (st m 1) := by
      funext i
      unfold fixS
      rw [hMb]
    rw [e]
    refine gj_tup (gjs_cons (gj_name (i := 4) sc_by_strains.nd rfl (gjs_cons (gj_name (i := 5) sc_by_strains.nd rfl (gjs_nil ?_)))))
    intro b
    exact dm_call (X := Bk _ _ b) c_strained (hr.mono (by decide)) rfl (ac (nm 0 (dmm (ac (nm 4 (dmm (a1 (nm 5 (dmm ⟨f, m, f.mb[m], _, _, _, _, rfl, ok.at hMb, ok.far0, ok.farS, ok.k, ok.st, hq m 0, hq m 1, rfl, rfl⟩)))))))))
  refine ds_ret (dm_call c_response hr rfl (ac (nm 0 (dmm (ac (nm 1 (dmm (ac (dm_call c_nl (hr.mono (by decide)) rfl (a1 (nm 0 (dmm ⟨f, rfl, h2, h1, dmm ?_⟩))))))))))))
  refine ac (nm 3 (dmm (a1 (dm_dctZ (dmm ?_))))) 
  exact resp_of hR fun d u hS => ⟨_, rfl, hG d u hS⟩
def tf_warped : Tf := fun ds G => ∃ f h st, ds = [frD f, .tuple (hgL h), stD st f.mb.length] ∧ FrC f ∧ HgOk f h ∧ (∀ i l, RtOk (st i l)) ∧ RespOk f h (fun _ _ => 0) (fixS f st) [] ∧ ∀ u, Sol f h (fun _ _ => 0) (fixS f st) [] u → G (endsD f h (fixS f st) u)
theorem RtOk.bd {q : Rat} (h : RtOk q) : Bd 20 q := ⟨Nat.lt_of_le_of_lt h.1 (by decide), Nat.lt_of_le_of_lt h.2 (by decide)⟩
theorem can_warped (T : Txt K mg) (c_ns : Can P w K mg base "need_strained" 44 p_need_strained (PureSp K tf_need_strained)) (c_by : Can P w K mg base "by_strains" 48 p_by_strains (PureSp K tf_by_strains)) : Can P w K mg base "warped_forces" 49 p_warped_forces (PureSp K tf_warped) := by
  refine can_pure 60 T sc_warped_forces (fun _ _ _ _ _ _ us hl => match us, hl with | [_, _, _], _ => rfl) (fun ds G h => by obtain ⟨f, h, gv, rfl, _⟩ := h; rfl) fun fa cdv B outer s H E hr ds G h => ?_
  obtain ⟨f, h, st, rfl, hC, hO, hq, hR, hG⟩ := h
  have h8 := hC.n8
  refine ds_expr (dm_call c_ns (hr.mono (by decide)) rfl (ac (nm 0 (dmm (ac (nm 1 (dmm (a1 (nm 2 (dmm ⟨f, h, st, rfl, hC, hO, hq, ?_⟩))))))))))
  exact ds_ret (ixT (dm_call c_by hr rfl (ac (nm 0 (dmm (ac (nm 1 (dmm (a1 (nm 2 (dmm ⟨f, h, st, rfl, hC.n2, by omega, fun i l => (hq i l).bd.mono (by decide), hR, fun d u hS => ⟨_, _, rfl, rfl, _, rfl, hG u hS⟩⟩)))))))))))
/-! ### motions -/
def balM (f : Fr) (h : Hg) : Mat := fun i j => getR (colL f ((parts h f.mb.length).getD j (0, 0))) (frW f i)
theorem balD_mat (f : Fr) (h : Hg) : balD f h = matD (balM f h) (free f).length (parts h f.mb.length).length := by
  unfold balD matD
  rw [map_frW]
  congr 1
  apply List.map_congr_left
  intro i _
  congr 1
  unfold eD
  apply List.ext_getElem
  · simp
  · intro j h1 h2
    have hj : j < (parts h f.mb.length).length := by simpa using h1
    simp [balM, List.getD_eq_getElem?_getD, List.getElem?_eq_getElem hj]
def motN (f : Fr) (h : Hg) : Int := ((free f).length : Int) - ((red (free f).length (balM f h) (parts h f.mb.length).length).2.length : Nat)
def tf_motions : Tf := fun ds G => ∃ f h b, ds = [frD f, .tuple (hgL h)] ∧ FrC f ∧ HgOk f h ∧ FrW f ∧ HeldW f ∧ Cm b (balM f h) ∧ (free f).length ≤ 100 ∧ (b + 1) * 2 ^ (free f).length ≤ 1000000 ∧ G (.int (motN f h))
theorem can_motions (T : Txt K mg) (c_need : Can P w K mg base "need" 6 p_need (PureSp K tf_need)) (c_free : Can P w K mg base "free_in" 2 p_free_in (PureSp K tf_free)) (c_rank : Can P w K mg base "rank" 46 p_rank (PureSp K tf_rank)) (c_bal : Can P w K mg base "balance_rows" 44 p_balance_rows (PureSp K tf_bal)) : Can P w K mg base "motions" 47 p_motions (PureSp K tf_motions) := by
  refine can_pure 35 T sc_motions (fun _ _ _ _ _ _ us hl => match us, hl with | [_, _], _ => rfl) (fun ds G h => by obtain ⟨f, h, b, rfl, _⟩ := h; rfl) fun fa cdv B outer s H E hr ds G h => ?_
  obtain ⟨f, h, bb, rfl, hC, hO, hW, hH, hB, hn, hb, hG⟩ := h
  have h8 := hC.n8
  have m8 := hC.m8
  refine ds_expr (dm_call c_need (hr.mono (by decide)) rfl (ac (nm 0 (dmm (a1 (nm 1 (dmm ⟨f, h, rfl, hC, hO, ?_⟩)))))))
  refine ds_ret (dm_bin op_sub (dm_len rfl T.b_len (dm_call c_free (hr.mono (by decide)) rfl (a1 (nm 0 (dmm ⟨f, rfl, hH.ok, hW.n, _, .dat rfl, ?_⟩))))))
  rw [List.length_map, List.length_map]
  refine dm_call c_rank hr rfl (a1 (dm_call c_bal (hr.mono (by decide)) rfl (ac (nm 0 (dmm (a1 (nm 1 (dmm ⟨f, h, rfl, hH.ok, hW.n, by omega, hW.ok, dmm ?_⟩))))))))
  have hpl := parts_len h f.mb.length
  exact ⟨balM f h, (free f).length, (parts h f.mb.length).length, bb, by rw [balD_mat], hB, hn, by omega, hb, opd_I0 ⟨_, rfl, hG⟩⟩
end
end BW

namespace BW
open PySem PySem.Spec PyProof.Rows L2
open Sem (wp)
/-! ### a zip whose last tuple may still be out -/
abbrev ZpAt (k : Heap) (zz TI TO : Addr) (F0 : Value) (f : Bool) : Prop := k.get? zz = some { cls := .type "zip", dict := none, data := .fields #[F0, .bool f, .bool false, .ref TI, .ref TO], slots := #[] }
def ZpF (F0 : Value) : Prop := F0 = .none ∨ ∃ T : Addr, F0 = rawInt T
section
variable {prog : Program} {w : World} {A : Around} {E : Value → Shared → Prop} {s : Shared}
theorem alive_any {a : Addr} {Q : Option Obj → Shared → Prop} (q : Q (s.heap.get? a) s) : wpAny (model prog w) A (loadIfAlive a) Q E s := fun _ _ _ => q
theorem zp_free {zz TI TO : Addr} {F0 : Value} {f : Bool} {Q : Bool → Shared → Prop} (hz : ZpAt s.heap zz TI TO F0 f) (hf : ZpF F0) (q : ∀ b k f', ZpAt k zz TI TO F0 f' → Heap.SameBut zz s.heap k → Q b { s with heap := k }) :
    wpAny (model prog w) A (Builtin.SmallTypes.ownedTupleIsFree (.ref zz)) Q E s := by
  unfold Builtin.SmallTypes.ownedTupleIsFree
  rcases hf with rfl | ⟨T, rfl⟩
  · exact wpAny_bind (wpAny_field hz rfl (x := .none) rfl (wpAny_pure (q true s.heap f hz (Heap.SameBut.refl _ _))))
  · refine wpAny_bind (wpAny_field hz rfl (x := rawInt T) rfl (wpAny_bind (alive_any ?_)))
    cases he : s.heap.get? (T : Int).toNat with
    | none =>
      rw [if_pos (show (none : Option Obj).isNone = true from rfl)]
      exact wpAny_pure (q true s.heap f hz (Heap.SameBut.refl _ _))
    | some o =>
      rw [if_neg (show ¬ (some o : Option Obj).isNone = true from Bool.false_ne_true)]
      refine wpAny_bind (wpAny_field hz rfl (x := .bool f) rfl ?_)
      cases f with
      | true =>
        rw [if_neg (show ¬ (Value.bool true != Value.bool true) = true from Bool.false_ne_true)]
        exact wpAny_pure (q false s.heap true hz (Heap.SameBut.refl _ _))
      | false =>
        rw [if_pos (show (Value.bool false != Value.bool true) = true from rfl)]
        exact wpAny_bind (wpAny_setField_rec hz (by simp) fun k hk hs => wpAny_pure (q false k true hk hs))
variable {zz TI TO j1 j2 : Addr} {fp1 fp2 : List Addr} {n1 n2 i : Nat} {P1 P2 : Nat → Value → Prop} {St1 St2 : Nat → Heap → Prop} {a1 a2 : Value} {F0 : Value} {f : Bool}
theorem zp_next {Q : Value → Shared → Prop} (S : ZipSep2 zz TI TO j1 j2 fp1 fp2) (D1 : Draws prog w A j1 fp1 n1 P1 St1) (D2 : Draws prog w A j2 fp2 n2 P2 St2)
    (hz : ZpAt s.heap zz TI TO F0 f) (hf : ZpF F0) (hI : IsTupOf2 s.heap TI (.ref j1) (.ref j2)) (hO : IsTupOf2 s.heap TO a1 a2) (e1 : St1 i s.heap) (e2 : St2 i s.heap) (l1 : i < n1) (l2 : i < n2)
    (q : ∀ x1 x2 k tk F0' f', P1 i x1 → P2 i x2 → ZpAt k zz TI TO F0' f' → ZpF F0' → (∃ b1 b2, IsTupOf2 k TO b1 b2) → St1 (i + 1) k → St2 (i + 1) k → IsTupOf2 k s.heap.objs.size x1 x2 → k.objs.size = s.heap.objs.size + 1 →
      (∀ c o, c ≠ zz → c ≠ TO → c ≠ j1 → c ≠ j2 → s.heap.get? c = some o → k.get? c = some o) → Q (.ref s.heap.objs.size) { s with heap := k, toks := tk }) :
    wpAny (model prog w) A (Builtin.«zip.__next__» ⟨[.ref zz], []⟩) (fun r t => ∃ v, r = .done (.ret v) ∧ Q v t) E s := by
  obtain ⟨k0, g, d, tk0, os⟩ := s
  show wpAny _ _ (field (.ref zz) 2 >>= _) _ _ ⟨k0, g, d, tk0, os⟩
  refine wpAny_bind (wpAny_field hz rfl (x := .bool false) rfl ?_)
  show wpAny _ _ (field (.ref zz) 3 >>= _) _ _ ⟨k0, g, d, tk0, os⟩
  refine wpAny_bind (wpAny_field hz rfl (x := .ref TI) rfl (wpAny_bind (wpAny_seqItems hI rfl ?_)))
  show wpAny _ _ (Builtin.SmallTypes.ownedTupleIsFree (.ref zz) >>= _) _ _ ⟨k0, g, d, tk0, os⟩
  refine wpAny_bind (zp_free hz hf fun b k1 f1 hz1 hs1 => ?_)
  replace hs1 : Heap.SameBut zz k0 k1 := hs1
  have zj1 : zz ≠ j1 := S.zi1
  have zj2 : zz ≠ j2 := S.zi2
  cases b with
  | false =>
    simp only [Bool.false_eq_true, if_false]
    refine wpAny_bind ?_
    rw [← Array.forIn_toList]
    simp only [List.forIn_cons, List.forIn_nil]
    refine wpAny_bind (wpAny_bind (wpAny_holding ?_))
    show wpAny _ _ (Builtin.SmallTypes.nextOf (.ref j1) >>= _) _ _ ⟨k1, g, d, tk0, os⟩
    refine wpAny_bind (D1.item i _ _ _ l1 (D1.over e1 hs1 S.zf1) fun x1 k2 t2 p1 c1 hs2 => wpAny_pure (wpAny_pure ?_))
    replace hs2 : Heap.SameBut j1 k1 k2 := hs2
    refine wpAny_bind (wpAny_bind (wpAny_holding ?_))
    show wpAny _ _ (Builtin.SmallTypes.nextOf (.ref j2) >>= _) _ _ ⟨k2, g, d, t2, os⟩
    refine wpAny_bind (D2.item i _ _ _ l2 (D2.over (D2.over e2 hs1 S.zf2) hs2 S.sep1_2) fun x2 k3 t3 p2 c2 hs3 => wpAny_pure (wpAny_pure (wpAny_pure ?_)))
    replace hs3 : Heap.SameBut j2 k2 k3 := hs3
    show wpAny _ _ (newTuple [x1, x2] >>= _) _ _ ⟨k3, g, d, t3, os⟩
    refine wpAny_bind (wpAny_newTuple (wpAny_pure ⟨_, rfl, ?_⟩))
    have sz : k3.objs.size = k0.objs.size := by rw [hs3.1, hs2.1, hs1.1]
    have up : ∀ c o, c ≠ zz → c ≠ j1 → c ≠ j2 → k0.get? c = some o → k3.get? c = some o := fun c o h1 h2 h3 e => hs3.extBut _ _ h3 (hs2.extBut _ _ h2 (hs1.extBut _ _ h1 e))
    have hz3 : ZpAt k3 zz TI TO F0 f1 := hs3.extBut _ _ zj2 (hs2.extBut _ _ zj1 hz1)
    have hO3 : IsTupOf2 k3 TO a1 a2 := up _ _ S.TOz S.Ti1 S.Ti2 hO
    have c13 : St1 (i + 1) k3 := D1.over c1 hs3 S.sep2_1
    have hp : IsTupOf2 (k3.push { cls := .type "tuple", data := .seq #[x1, x2] }) k3.objs.size x1 x2 := Heap.get?_push_size _ rfl
    have hz4 : (k3.push { cls := .type "tuple", data := .seq #[x1, x2] }).objs.size = k3.objs.size + 1 := Heap.size_push ..
    show Q (.ref k3.objs.size) _
    rw [sz] at hp hz4 ⊢
    have pu : ∀ {c o}, k3.get? c = some o → (k3.push { cls := .type "tuple", data := .seq #[x1, x2] }).get? c = some o := fun e => Heap.get?_push_of_some _ e
    exact q x1 x2 _ t3 F0 f1 p1 p2 (pu hz3) hf ⟨_, _, pu hO3⟩ (D1.frame _ _ _ c13 fun b _ o e => pu e) (D2.frame _ _ _ c2 fun b _ o e => pu e) hp hz4 fun c o h1 _ h2 h3 e => pu (up c o h1 h2 h3 e)
  | true =>
    simp only [if_true]
    refine wpAny_bind (wpAny_rule (wpAny_bind (wpAny_field (s := ⟨k1, g, d, tk0, os⟩) hz1 rfl (x := .ref TO) rfl ?_)))
    refine wpAny_bind (wpAny_setField_rec (s := ⟨k1, g, d, tk0, os⟩) hz1 (by simp) fun k2 hz2 hs2 => ?_)
    replace hz2 : ZpAt k2 zz TI TO .ellipsis f1 := hz2
    replace hs2 : Heap.SameBut zz k1 k2 := hs2
    refine wpAny_bind ?_
    simp only [List.zipIdx_cons, List.zipIdx_nil, List.forIn_cons, List.forIn_nil]
    refine wpAny_bind (wpAny_bind (wpAny_onRaise ?_))
    show wpAny _ _ (Builtin.SmallTypes.nextOf (.ref j1) >>= _) _ _ ⟨k2, g, d, tk0, os⟩
    refine wpAny_bind (D1.item i _ _ _ l1 (D1.over (D1.over e1 hs1 S.zf1) hs2 S.zf1) fun x1 k3 t3 p1 c1 hs3 => wpAny_pure ?_)
    replace hs3 : Heap.SameBut j1 k2 k3 := hs3
    have hO3 : IsTupOf2 k3 TO a1 a2 := hs3.extBut _ _ S.Ti1 (hs2.extBut _ _ S.TOz (hs1.extBut _ _ S.TOz hO))
    refine wpAny_bind (wpAny_seqItems (s := ⟨k3, g, d, t3, os⟩) hO3 rfl (wpAny_bind (updateSeq_IsTupOf2 (s := ⟨k3, g, d, t3, os⟩) hO3 fun k4 hO4 hs4 => ?_)))
    replace hO4 : IsTupOf2 k4 TO x1 a2 := hO4
    replace hs4 : Heap.SameBut TO k3 k4 := hs4
    refine wpAny_bind (wpAny_letGo (wpAny_pure (wpAny_bind (wpAny_bind (wpAny_onRaise ?_)))))
    show wpAny _ _ (Builtin.SmallTypes.nextOf (.ref j2) >>= _) _ _ ⟨k4, g, d, t3, os⟩
    refine wpAny_bind (D2.item i _ _ _ l2 (D2.over (D2.over (D2.over (D2.over e2 hs1 S.zf2) hs2 S.zf2) hs3 S.sep1_2) hs4 S.Tf2) fun x2 k5 t5 p2 c2 hs5 => wpAny_pure ?_)
    replace hs5 : Heap.SameBut j2 k4 k5 := hs5
    have hO5 : IsTupOf2 k5 TO x1 a2 := hs5.extBut _ _ S.Ti2 hO4
    refine wpAny_bind (wpAny_seqItems (s := ⟨k5, g, d, t5, os⟩) hO5 rfl (wpAny_bind (updateSeq_IsTupOf2 (s := ⟨k5, g, d, t5, os⟩) hO5 fun k6 hO6 hs6 => ?_)))
    replace hO6 : IsTupOf2 k6 TO x1 x2 := hO6
    replace hs6 : Heap.SameBut TO k5 k6 := hs6
    refine wpAny_bind (wpAny_letGo (wpAny_pure (wpAny_pure ?_)))
    refine wpAny_bind (wpAny_seqItems (s := ⟨k6, g, d, t5, os⟩) hO6 rfl (wpAny_bind (wpAny_newTuple ?_)))
    have sz : k6.objs.size = k0.objs.size := by rw [hs6.1, hs5.1, hs4.1, hs3.1, hs2.1, hs1.1]
    have hz6 : ZpAt k6 zz TI TO .ellipsis f1 := hs6.extBut _ _ S.TOz.symm (hs5.extBut _ _ zj2 (hs4.extBut _ _ S.TOz.symm (hs3.extBut _ _ zj1 hz2)))
    have up : ∀ c o, c ≠ zz → c ≠ TO → c ≠ j1 → c ≠ j2 → k0.get? c = some o → k6.get? c = some o := fun c o h1 h2 h3 h4 e => hs6.extBut _ _ h2 (hs5.extBut _ _ h4 (hs4.extBut _ _ h2 (hs3.extBut _ _ h3 (hs2.extBut _ _ h1 (hs1.extBut _ _ h1 e)))))
    have c16 : St1 (i + 1) k6 := D1.over (D1.over (D1.over c1 hs4 S.Tf1) hs5 S.sep2_1) hs6 S.Tf1
    have c26 : St2 (i + 1) k6 := D2.over c2 hs6 S.Tf2
    have zl : zz < k6.objs.size := Heap.lt_size hz6
    show wpAny _ _ (Builtin.SmallTypes.ownedTupleHandOut (.ref zz) (.ref k6.objs.size) >>= _) _ _ ⟨k6.push { cls := .type "tuple", data := .seq #[x1, x2] }, g, d, t5, os⟩
    refine wpAny_bind ?_
    unfold Builtin.SmallTypes.ownedTupleHandOut
    have hz7 : ZpAt (k6.push { cls := .type "tuple", data := .seq #[x1, x2] }) zz TI TO .ellipsis f1 := Heap.get?_push_of_some _ hz6
    refine wpAny_bind (wpAny_setField_rec hz7 (by simp) fun k8 hz8 hs8 => ?_)
    replace hz8 : ZpAt k8 zz TI TO (rawInt k6.objs.size) f1 := hz8
    replace hs8 : Heap.SameBut zz (k6.push { cls := .type "tuple", data := .seq #[x1, x2] }) k8 := hs8
    refine wpAny_setField_rec hz8 (by simp) fun k9 hz9 hs9 => ?_
    replace hz9 : ZpAt k9 zz TI TO (rawInt k6.objs.size) false := hz9
    replace hs9 : Heap.SameBut zz k8 k9 := hs9
    have up9 : ∀ c o, c ≠ zz → k6.get? c = some o → k9.get? c = some o := fun c o h1 e => hs9.extBut _ _ h1 (hs8.extBut _ _ h1 (Heap.get?_push_of_some _ e))
    have hT : IsTupOf2 k9 k6.objs.size x1 x2 := hs9.extBut _ _ (Nat.ne_of_gt zl) (hs8.extBut _ _ (Nat.ne_of_gt zl) (Heap.get?_push_size _ rfl))
    have sz9 : k9.objs.size = k6.objs.size + 1 := by rw [hs9.1, hs8.1, Heap.size_push]
    refine wpAny_pure ⟨_, rfl, ?_⟩
    show Q (.ref k6.objs.size) ⟨k9, g, d, t5, os⟩
    rw [sz] at hz9 hT sz9 ⊢
    exact q x1 x2 k9 t5 _ false p1 p2 hz9 (.inr ⟨_, rfl⟩) ⟨_, _, up9 _ _ S.TOz hO6⟩ (D1.frame _ _ _ c16 fun b hb o e => up9 b o (fun z => S.zf1 (z ▸ hb)) e) (D2.frame _ _ _ c26 fun b hb o e => up9 b o (fun z => S.zf2 (z ▸ hb)) e) hT sz9 fun c o h1 h2 h3 h4 e => up9 c o h1 (up c o h1 h2 h3 h4 e)
/-- the first of the two has ended -/
theorem zp_end {Q : Fin → Shared → Prop} (S : ZipSep2 zz TI TO j1 j2 fp1 fp2) (D1 : Draws prog w A j1 fp1 n1 P1 St1)
    (hz : ZpAt s.heap zz TI TO F0 f) (hf : ZpF F0) (hI : IsTupOf2 s.heap TI (.ref j1) (.ref j2)) (hO : IsTupOf2 s.heap TO a1 a2) (e1 : St1 n1 s.heap)
    (q : ∀ k tk x, (∀ c o, c ≠ zz → c ≠ TO → c ≠ j1 → c ≠ j2 → s.heap.get? c = some o → k.get? c = some o) → (∃ o, k.get? x = some o ∧ o.cls = .type "StopIteration") → E (.ref x) { s with heap := k, toks := tk }) :
    wpAny (model prog w) A (Builtin.«zip.__next__» ⟨[.ref zz], []⟩) Q E s := by
  obtain ⟨k0, g, d, tk0, os⟩ := s
  show wpAny _ _ (field (.ref zz) 2 >>= _) _ _ ⟨k0, g, d, tk0, os⟩
  refine wpAny_bind (wpAny_field hz rfl (x := .bool false) rfl ?_)
  show wpAny _ _ (field (.ref zz) 3 >>= _) _ _ ⟨k0, g, d, tk0, os⟩
  refine wpAny_bind (wpAny_field hz rfl (x := .ref TI) rfl (wpAny_bind (wpAny_seqItems hI rfl ?_)))
  show wpAny _ _ (Builtin.SmallTypes.ownedTupleIsFree (.ref zz) >>= _) _ _ ⟨k0, g, d, tk0, os⟩
  refine wpAny_bind (zp_free hz hf fun b k1 f1 hz1 hs1 => ?_)
  replace hs1 : Heap.SameBut zz k0 k1 := hs1
  have zj1 : zz ≠ j1 := S.zi1
  cases b with
  | false =>
    simp only [Bool.false_eq_true, if_false]
    refine wpAny_bind ?_
    rw [← Array.forIn_toList]
    simp only [List.forIn_cons, List.forIn_nil]
    refine wpAny_bind (wpAny_bind (wpAny_holding ?_))
    show wpAny _ _ (Builtin.SmallTypes.nextOf (.ref j1) >>= _) _ _ ⟨k1, g, d, tk0, os⟩
    refine wpAny_bind (D1.done ⟨k1, g, d, tk0, os⟩ _ _ (D1.over e1 hs1 S.zf1) fun k2 x hs2 hx => ?_)
    exact q k2 tk0 x (fun c o h1 _ h2 _ e => hs2 _ _ h2 (hs1.extBut _ _ h1 e)) hx
  | true =>
    simp only [if_true]
    refine wpAny_bind (wpAny_rule (wpAny_bind (wpAny_field (s := ⟨k1, g, d, tk0, os⟩) hz1 rfl (x := .ref TO) rfl ?_)))
    refine wpAny_bind (wpAny_setField_rec (s := ⟨k1, g, d, tk0, os⟩) hz1 (by simp) fun k2 hz2 hs2 => ?_)
    replace hz2 : ZpAt k2 zz TI TO .ellipsis f1 := hz2
    replace hs2 : Heap.SameBut zz k1 k2 := hs2
    refine wpAny_bind ?_
    simp only [List.zipIdx_cons, List.zipIdx_nil, List.forIn_cons, List.forIn_nil]
    refine wpAny_bind (wpAny_bind (wpAny_onRaise ?_))
    show wpAny _ _ (Builtin.SmallTypes.nextOf (.ref j1) >>= _) _ _ ⟨k2, g, d, tk0, os⟩
    refine wpAny_bind (D1.done ⟨k2, g, d, tk0, os⟩ _ _ (D1.over (D1.over e1 hs1 S.zf1) hs2 S.zf1) fun k3 x hs3 hx => ?_)
    replace hs3 : Heap.ExtBut j1 k2 k3 := hs3
    obtain ⟨ox, hox, hcx⟩ := hx
    replace hox : k3.get? x = some ox := hox
    have hz3 : ZpAt k3 zz TI TO .ellipsis f1 := hs3 _ _ zj1 hz2
    have hxz : x ≠ zz := fun z => by
      subst z
      rw [hz3] at hox
      cases hox
      simp at hcx
    refine wpAny_setField_rec (s := ⟨k3, g, d, tk0, os⟩) hz3 (by simp) fun k4 _ hs4 => ?_
    replace hs4 : Heap.SameBut zz k3 k4 := hs4
    exact q k4 tk0 x (fun c o h1 _ h2 _ e => hs4.extBut _ _ h1 (hs3 _ _ h2 (hs2.extBut _ _ h1 (hs1.extBut _ _ h1 e)))) ⟨ox, hs4.extBut _ _ hxz hox, hcx⟩
end
end BW

namespace BW
open PySem PySem.Spec PyProof.Rows L2
/-! ### enumerate of a zip of two tuples -/
section
variable {prog : Program} {w : World} {A : Around} {E : Value → Shared → Prop} {s : Shared} {en zz TI TO j1 j2 : Addr} {fp1 fp2 : List Addr} {n1 n2 i : Nat} {P1 P2 : Nat → Value → Prop} {St1 St2 : Nat → Heap → Prop} {a1 a2 : Value} {F0 old : Value} {f : Bool}
theorem zp_type (hz : ZpAt s.heap zz TI TO F0 f) : s.TypeIs (.ref zz) "zip" := ⟨_, hz, rfl⟩
theorem en_next {Q : Value → Shared → Prop} (S : ZipSep2 zz TI TO j1 j2 fp1 fp2) (D1 : Draws prog w A.in1 j1 fp1 n1 P1 St1) (D2 : Draws prog w A.in1 j2 fp2 n2 P2 St2)
    (he : IsEnum s.heap en zz (i : Nat) old) (z1 : en ≠ zz) (z2 : en ≠ TO) (z3 : en ∉ fp1) (z4 : en ∉ fp2) (hz : ZpAt s.heap zz TI TO F0 f) (hf : ZpF F0) (hI : IsTupOf2 s.heap TI (.ref j1) (.ref j2)) (hO : IsTupOf2 s.heap TO a1 a2) (e1 : St1 i s.heap) (e2 : St2 i s.heap) (l1 : i < n1) (l2 : i < n2)
    (q : ∀ x1 x2 k tk t0 F0' f', P1 i x1 → P2 i x2 → ZpAt k zz TI TO F0' f' → ZpF F0' → (∃ b1 b2, IsTupOf2 k TO b1 b2) → St1 (i + 1) k → St2 (i + 1) k → IsTupOf2 k s.heap.objs.size x1 x2 → IsTupOf2 k (s.heap.objs.size + 1) (.int (i : Nat) t0) (.ref s.heap.objs.size) →
      IsEnumOut k en zz ((i : Int) + 1) (.ref s.heap.objs.size) (s.heap.objs.size + 1) → (∀ c o, c ≠ en → c ≠ zz → c ≠ TO → c ≠ j1 → c ≠ j2 → s.heap.get? c = some o → k.get? c = some o) → Q (.ref (s.heap.objs.size + 1)) { s with heap := k, toks := tk }) :
    wpAny (model prog w) A (Builtin.«enumerate.__next__» ⟨[.ref en], []⟩) (fun r t => ∃ v, r = .done (.ret v) ∧ Q v t) E s := by
  obtain ⟨k0, g, d, tk0, os⟩ := s
  have zi1 : en ≠ j1 := fun z => z3 (by rw [z]; exact S.mem1)
  have zi2 : en ≠ j2 := fun z => z4 (by rw [z]; exact S.mem2)
  show wpAny _ _ (field (.ref en) 2 >>= _) _ _ ⟨k0, g, d, tk0, os⟩
  refine wpAny_bind (wpAny_field he rfl (x := .ref zz) rfl ?_)
  show wpAny _ _ (Builtin.SmallTypes.nextOf (.ref zz) >>= _) _ _ ⟨k0, g, d, tk0, os⟩
  refine wpAny_bind ?_
  unfold Builtin.SmallTypes.nextOf
  have hty : Shared.TypeIs ⟨k0, g, d, tk0, os⟩ (.ref zz) "zip" := ⟨_, hz, rfl⟩
  refine wpAny_bind (wpAny_callSpecial?_slot (name := Str.ofString "__next__") hty PySem.F.slot_zip_next (wpAny_call_entry PySem.F.slot_zip_next hty PySem.F.entry_zip_next
    (zp_next S D1 D2 hz hf hI hO e1 e2 l1 l2 fun x1 x2 k1 tk F0' f' p1 p2 hz1 hf1 hO1 c1 c2 hT1 sz1 up1 => wpAny_pure ?_) (PySem.F.args_zip_next_1 _)))
  replace sz1 : k1.objs.size = k0.objs.size + 1 := sz1
  replace hT1 : IsTupOf2 k1 k0.objs.size x1 x2 := hT1
  have he1 : IsEnum k1 en zz (i : Nat) old := up1 en _ z1 z2 zi1 zi2 he
  have el : en < k0.objs.size := Heap.lt_size he
  show wpAny _ _ (field (.ref en) 3 >>= _) _ _ ⟨k1, g, d, tk, os⟩
  refine wpAny_bind (wpAny_field he1 rfl (x := rawInt (i : Nat)) rfl ?_)
  show wpAny _ _ (field (.ref en) 4 >>= _) _ _ ⟨k1, g, d, tk, os⟩
  refine wpAny_bind (wpAny_field he1 rfl (x := .none) rfl ?_)
  show wpAny _ _ (mkInt (i : Nat) >>= _) _ _ ⟨k1, g, d, tk, os⟩
  refine wpAny_bind (wpAny_mkInt ?_)
  show wpAny _ _ (setField (.ref en) 3 (rawInt ((i : Int) + 1)) >>= _) _ _ ⟨k1, g, d, tk + 1, os⟩
  refine wpAny_bind (wpAny_setField_rec he1 (by simp) fun k2 he2 hs2 => ?_)
  replace hs2 : Heap.SameBut en k1 k2 := hs2
  replace he2 : IsEnum k2 en zz ((i : Int) + 1) old := he2
  show wpAny _ _ (setField (.ref en) 4 .none >>= _) _ _ ⟨k2, g, d, tk + 1, os⟩
  refine wpAny_bind (wpAny_setField_rec he2 (by simp) fun k3 he3 hs3 => ?_)
  replace hs3 : Heap.SameBut en k2 k3 := hs3
  replace he3 : IsEnum k3 en zz ((i : Int) + 1) old := he3
  show wpAny _ _ (newTuple [.int (i : Nat) tk, .ref k0.objs.size] >>= _) _ _ ⟨k3, g, d, tk + 1, os⟩
  refine wpAny_bind (wpAny_newTuple ?_)
  have sz3 : k3.objs.size = k0.objs.size + 1 := by rw [hs3.1, hs2.1, sz1]
  show wpAny _ _ (Builtin.SmallTypes.ownedTupleIsFree (.ref en) >>= _) _ _ ⟨k3.push { cls := .type "tuple", data := .seq #[.int (i : Nat) tk, .ref k0.objs.size] }, g, d, tk + 1, os⟩
  have he4 : IsEnum (k3.push { cls := .type "tuple", data := .seq #[.int (i : Nat) tk, .ref k0.objs.size] }) en zz ((i : Int) + 1) old := Heap.get?_push_of_some _ he3
  have hT4 : IsTupOf2 (k3.push { cls := .type "tuple", data := .seq #[.int (i : Nat) tk, .ref k0.objs.size] }) k3.objs.size (.int (i : Nat) tk) (.ref k0.objs.size) := Heap.get?_push_size _ rfl
  have up4 : ∀ c o, c ≠ en → k1.get? c = some o → (k3.push { cls := .type "tuple", data := .seq #[.int (i : Nat) tk, .ref k0.objs.size] }).get? c = some o := fun c o h e => Heap.get?_push_of_some _ (hs3.extBut _ _ h (hs2.extBut _ _ h e))
  rw [sz3] at hT4 ⊢
  generalize k3.push { cls := .type "tuple", data := .seq #[.int (i : Nat) tk, .ref k0.objs.size] } = k4 at he4 hT4 up4
  refine wpAny_bind ?_
  unfold Builtin.SmallTypes.ownedTupleIsFree
  refine wpAny_bind (wpAny_field he4 rfl (x := .none) rfl (wpAny_pure ?_))
  simp only [if_true]
  refine wpAny_bind (wpAny_rule (wpAny_bind (wpAny_field (s := ⟨k4, g, d, tk + 1, os⟩) he4 rfl (x := old) rfl ?_)))
  refine wpAny_bind (wpAny_setField_rec (s := ⟨k4, g, d, tk + 1, os⟩) he4 (by simp) fun k5 he5 hs5 => ?_)
  replace hs5 : Heap.SameBut en k4 k5 := hs5
  replace he5 : IsEnum k5 en zz ((i : Int) + 1) (.ref k0.objs.size) := he5
  show wpAny _ _ (Builtin.SmallTypes.ownedTupleHandOut (.ref en) (.ref (k0.objs.size + 1)) >>= _) _ _ ⟨k5, g, d, tk + 1, os⟩
  refine wpAny_bind ?_
  unfold Builtin.SmallTypes.ownedTupleHandOut
  refine wpAny_bind (wpAny_setField_rec he5 (by simp) fun k6 he6 hs6 => ?_)
  replace hs6 : Heap.SameBut en k5 k6 := hs6
  replace he6 : IsEnumOut k6 en zz ((i : Int) + 1) (.ref k0.objs.size) (k0.objs.size + 1) := he6
  refine wpAny_setField_rec he6 (by simp) fun k7 he7 hs7 => ?_
  replace hs7 : Heap.SameBut en k6 k7 := hs7
  replace he7 : IsEnumOut k7 en zz ((i : Int) + 1) (.ref k0.objs.size) (k0.objs.size + 1) := he7
  have up7 : ∀ c o, c ≠ en → k4.get? c = some o → k7.get? c = some o := fun c o h e => hs7.extBut _ _ h (hs6.extBut _ _ h (hs5.extBut _ _ h e))
  have up17 : ∀ c o, c ≠ en → k1.get? c = some o → k7.get? c = some o := fun c o h e => up7 c o h (up4 c o h e)
  refine wpAny_bind (wpAny_letGo (wpAny_pure ⟨_, rfl, ?_⟩))
  obtain ⟨b1, b2, hO1⟩ := hO1
  exact q x1 x2 k7 _ tk F0' f' p1 p2 (up17 _ _ z1.symm hz1) hf1 ⟨b1, b2, up17 _ _ z2.symm hO1⟩ (D1.frame _ _ _ c1 fun b hb o e => up17 b o (fun z => z3 (z ▸ hb)) e) (D2.frame _ _ _ c2 fun b hb o e => up17 b o (fun z => z4 (z ▸ hb)) e)
    (up17 _ _ (Nat.ne_of_gt el) hT1) (up7 _ _ (Nat.ne_of_gt (Nat.lt_succ_of_lt el)) hT4) he7 fun c o h0 h1 h2 h3 h4 e => up17 c o h0 (up1 c o h1 h2 h3 h4 e)
end
end BW

namespace BW
open PySem PySem.Spec PyProof.Rows L2
section
variable {prog : Program} {w : World} {A : Around} {E : Value → Shared → Prop} {s : Shared} {en zz TI TO j1 j2 : Addr} {fp1 fp2 : List Addr} {n1 n2 i : Nat} {P1 P2 : Nat → Value → Prop} {St1 St2 : Nat → Heap → Prop} {a1 a2 : Value} {F0 old : Value} {f : Bool}
theorem en_end {Q : Fin → Shared → Prop} {c : Int} (S : ZipSep2 zz TI TO j1 j2 fp1 fp2) (D1 : Draws prog w A.in1 j1 fp1 n1 P1 St1)
    (he : IsEnum s.heap en zz c old) (hz : ZpAt s.heap zz TI TO F0 f) (hf : ZpF F0) (hI : IsTupOf2 s.heap TI (.ref j1) (.ref j2)) (hO : IsTupOf2 s.heap TO a1 a2) (e1 : St1 n1 s.heap)
    (q : ∀ k tk x, (∀ c o, c ≠ zz → c ≠ TO → c ≠ j1 → c ≠ j2 → s.heap.get? c = some o → k.get? c = some o) → (∃ o, k.get? x = some o ∧ o.cls = .type "StopIteration") → E (.ref x) { s with heap := k, toks := tk }) :
    wpAny (model prog w) A (Builtin.«enumerate.__next__» ⟨[.ref en], []⟩) Q E s := by
  obtain ⟨k0, g, d, tk0, os⟩ := s
  show wpAny _ _ (field (.ref en) 2 >>= _) _ _ ⟨k0, g, d, tk0, os⟩
  refine wpAny_bind (wpAny_field he rfl (x := .ref zz) rfl ?_)
  show wpAny _ _ (Builtin.SmallTypes.nextOf (.ref zz) >>= _) _ _ ⟨k0, g, d, tk0, os⟩
  refine wpAny_bind ?_
  unfold Builtin.SmallTypes.nextOf
  have hty : Shared.TypeIs ⟨k0, g, d, tk0, os⟩ (.ref zz) "zip" := ⟨_, hz, rfl⟩
  exact wpAny_bind (wpAny_callSpecial?_slot (name := Str.ofString "__next__") hty PySem.F.slot_zip_next (wpAny_call_entry PySem.F.slot_zip_next hty PySem.F.entry_zip_next
    (zp_end S D1 hz hf hI hO e1 fun k tk x up hx => q k tk x up hx) (PySem.F.args_zip_next_1 _)))
theorem pn_next {Q : Option Value → Shared → Prop} (S : ZipSep2 zz TI TO j1 j2 fp1 fp2) (D1 : Draws prog w A.in1.in1 j1 fp1 n1 P1 St1) (D2 : Draws prog w A.in1.in1 j2 fp2 n2 P2 St2)
    (he : IsEnum s.heap en zz (i : Nat) old) (z1 : en ≠ zz) (z2 : en ≠ TO) (z3 : en ∉ fp1) (z4 : en ∉ fp2) (hz : ZpAt s.heap zz TI TO F0 f) (hf : ZpF F0) (hI : IsTupOf2 s.heap TI (.ref j1) (.ref j2)) (hO : IsTupOf2 s.heap TO a1 a2) (e1 : St1 i s.heap) (e2 : St2 i s.heap) (l1 : i < n1) (l2 : i < n2)
    (q : ∀ x1 x2 k tk t0 F0' f', P1 i x1 → P2 i x2 → ZpAt k zz TI TO F0' f' → ZpF F0' → (∃ b1 b2, IsTupOf2 k TO b1 b2) → St1 (i + 1) k → St2 (i + 1) k → IsTupOf2 k s.heap.objs.size x1 x2 → IsTupOf2 k (s.heap.objs.size + 1) (.int (i : Nat) t0) (.ref s.heap.objs.size) →
      IsEnumOut k en zz ((i : Int) + 1) (.ref s.heap.objs.size) (s.heap.objs.size + 1) → (∀ c o, c ≠ en → c ≠ zz → c ≠ TO → c ≠ j1 → c ≠ j2 → s.heap.get? c = some o → k.get? c = some o) → Q (some (.ref (s.heap.objs.size + 1))) { s with heap := k, toks := tk }) :
    wpAny (model prog w) A (pyNext (.ref en)) Q E s := by
  have hT : s.TypeIs (.ref en) "enumerate" := ⟨_, he, rfl⟩
  unfold pyNext
  refine wpAny_bind (wpAny_attempt (wpAny_callSpecial?_slot (name := Str.ofString "__next__") hT PySem.F.slot_enumerate_next (wpAny_call_entry PySem.F.slot_enumerate_next hT PySem.F.entry_enumerate_next ?_ (PySem.F.args_enumerate_next_1 _))))
  exact en_next S D1 D2 he z1 z2 z3 z4 hz hf hI hO e1 e2 l1 l2 fun x1 x2 k tk t0 F0' f' p1 p2 h1 h2 h3 h4 h5 h6 h7 h8 h9 => wpAny_pure (q x1 x2 k tk t0 F0' f' p1 p2 h1 h2 h3 h4 h5 h6 h7 h8 h9)
theorem pn_end {Q : Option Value → Shared → Prop} {c : Int} (S : ZipSep2 zz TI TO j1 j2 fp1 fp2) (D1 : Draws prog w A.in1.in1 j1 fp1 n1 P1 St1)
    (he : IsEnum s.heap en zz c old) (hz : ZpAt s.heap zz TI TO F0 f) (hf : ZpF F0) (hI : IsTupOf2 s.heap TI (.ref j1) (.ref j2)) (hO : IsTupOf2 s.heap TO a1 a2) (e1 : St1 n1 s.heap)
    (q : ∀ k tk, (∀ c o, c ≠ zz → c ≠ TO → c ≠ j1 → c ≠ j2 → s.heap.get? c = some o → k.get? c = some o) → Q none { s with heap := k, toks := tk }) : wpAny (model prog w) A (pyNext (.ref en)) Q E s := by
  have hT : s.TypeIs (.ref en) "enumerate" := ⟨_, he, rfl⟩
  unfold pyNext
  refine wpAny_bind (wpAny_attempt (wpAny_callSpecial?_slot (name := Str.ofString "__next__") hT PySem.F.slot_enumerate_next (wpAny_call_entry PySem.F.slot_enumerate_next hT PySem.F.entry_enumerate_next ?_ (PySem.F.args_enumerate_next_1 _))))
  refine en_end S D1 he hz hf hI hO e1 fun k tk x up hx => ?_
  obtain ⟨o, ho, hc⟩ := hx
  exact wpAny_bind (wpAny_isInstance (T := "StopIteration") (b := true) ⟨o, ho, hc⟩ isSubtype_stop (wpAny_pure (q k tk up)))
end
/-! enumerate(a zip) is made -/
theorem meets_enumZ (zz TI TO : Addr) :
    Meets (Builtin.«enumerate.__new__» ⟨[.type "enumerate", .ref zz], []⟩) (fun _ R s => IsZip s.heap zz TI TO .none ∧
      R (.ok (.ret (.ref s.heap.objs.size))) { s with heap := s.heap.push { cls := .type "enumerate", data := .fields #[.none, .bool false, .ref zz, rawInt 0, .none, .none] } }) :=
  .of_wp fun prog w A R s h => by
    obtain ⟨hp, g, d, tk, os⟩ := s
    obtain ⟨h1, h⟩ := h
    have sub := sub_enumerate
    have q1 : ∀ {A' : Around} {E : Value → Shared → Prop} {Q : Value → Shared → Prop}, Q (.ref zz) ⟨hp, g, d, tk, os⟩ → wpAny (model prog w) A' (pyIter (.ref zz)) Q E ⟨hp, g, d, tk, os⟩ := fun q => wpAny_pyIter_zip (s := ⟨hp, g, d, tk, os⟩) h1 q
    wp_walk using q1
    refine wpAny_stack_any fun st => wpAny_pure ?_
    split
    · rename_i c _ _ _ _ _
      cases (c == Value.type "enumerate") <;> (wp_walk using q1; exact ⟨_, rfl, h⟩)
    · wp_walk using q1
      exact ⟨_, rfl, h⟩
theorem call_enumZ {prog : Program} {w : World} {A : Around} {E : Value → Shared → Prop} {s : Shared} {zz TI TO : Addr} {Q : Value → Shared → Prop} (hz : IsZip s.heap zz TI TO .none)
    (h : ∀ k, IsEnum k s.heap.objs.size zz 0 .none → (∀ b o, s.heap.get? b = some o → k.get? b = some o) → Q (.ref s.heap.objs.size) { s with heap := k }) :
    wpAny (model prog w) A (call (.type "enumerate") [.ref zz]) Q E s := by
  refine callType_new PySem.F.called_enumerate (by decide) (PySem.F.typeCall_enumerate_1 _) (PySem.F.newCall_enumerate_1 _) (fun obj => PySem.F.args_object_init_2 obj _) PySem.F.entry_enumerate_new (meets_enumZ zz TI TO) ⟨hz, ?_⟩
  have he : IsEnum (s.heap.push { cls := .type "enumerate", data := .fields #[.none, .bool false, .ref zz, rawInt 0, .none, .none] }) s.heap.objs.size zz 0 .none := Heap.get?_push_size _ rfl
  exact ⟨⟨_, he, rfl⟩, h _ he fun b o e => Heap.get?_push_of_some _ e⟩
/-- records have turned, new things are tracked -/
theorem turnedX {X : Cx} {pins : List (Addr × Obj)} {σ : L2.St} {H H' : Hp} {s : Shared} {k : Heap} {t' : Nat} {ch : List Addr} (I : Inv X pins σ H s) (up : ∀ b o, b ∉ ch → s.heap.get? b = some o → k.get? b = some o) (hf : ∀ b ∈ ch, FpOk X pins H b)
    (hx : ∀ b o, H b = some o → H' b = some o) (hn : ∀ b, b < s.heap.objs.size → H b = none → H' b = none) (hok : HOk X.prog X.w H' k) : Inv X pins σ H' { s with heap := k, toks := t' } := by
  refine I.step (g' := s.gens) (d' := s.drawn) (ch := ch) (fun b hb => ⟨(hf b hb).2.2.2.1, (hf b hb).2.1, (hf b hb).2.2.2.2.1, (hf b hb).2.2.2.2.2⟩) (fun b o _ _ hc e _ => up b o hc e) (fun b o _ _ hc e _ => ⟨o.slots, up b o hc e⟩)
    (fun b o _ e n => hn b (Heap.lt_size e) n) (fun b o hc e => ⟨o, up b o hc e⟩) (fun b xs e => hx b _ e) (fun b o u e => hx b _ e) (fun b ps e => ⟨#[], by rw [hx b _ e]; simp⟩) (fun m hm => ?_) hok I.bare
  obtain ⟨o, es, ep, ho, r⟩ := hm
  exact ⟨o, es, ep, up _ o (fun z => (hf _ z).2.1 rfl) ho, r⟩
def IeZ (K : PySem.W.Frag) (a b : Addr) (xs ys : List V) : It :=
  ⟨fun i H => SqT K H a xs ∧ SqT K H b ys ∧ i < xs.length ∧ i < ys.length,
    fun i H v H' => ∃ T1 T x y, v = .ref T ∧ xs[i]? = some x ∧ ys[i]? = some y ∧ T ≠ T1 ∧ H T1 = none ∧ H T = none ∧ H' = upd (upd H T1 (.tup [x, y])) T (.tup [.int (i : Nat), .ref T1]),
    fun i H => SqT K H a xs ∧ SqT K H b ys ∧ i = xs.length⟩
structure EzSep (en zz TI TO j1 j2 a b : Addr) : Prop where
  S : ZipSep2 zz TI TO j1 j2 [j1, a] [j2, b]
  z1 : en ≠ zz
  z2 : en ≠ TO
  z3 : en ∉ [j1, a]
  z4 : en ∉ [j2, b]
  z5 : en ≠ TI
  a1 : a ≠ j1
  b1 : b ≠ j2
theorem turn_ez {P : Program} {w : World} {K : PySem.W.Frag} {elts : List Expr} {kk : Nat} {tpos : Pos} {xs ys : List V} {en zz TI TO j1 j2 a b : Addr} (Z : EzSep en zz TI TO j1 j2 a b) :
    Turn P w K (.Tuple elts kk tpos) (IeZ K a b xs ys) [en, zz, TI, TO, j1, j2] en (fun i h => (∃ old, IsEnum h en zz (i : Nat) old) ∧ (∃ F0 f, ZpAt h zz TI TO F0 f ∧ ZpF F0) ∧ IsTupOf2 h TI (.ref j1) (.ref j2) ∧ (∃ b1 b2, IsTupOf2 h TO b1 b2) ∧ h.IsTupleIter j1 a i ∧ h.IsTupleIter j2 b i) where
  mem := List.mem_cons_self ..
  obj := fun i h st c hc => by
    obtain ⟨⟨old, he⟩, ⟨F0, f, hz, _⟩, hI, ⟨b1, b2, hO⟩, ⟨o1, e1, _, d1⟩, ⟨o2, e2, _, d2⟩⟩ := st
    have hc' : c = en ∨ c = zz ∨ c = TI ∨ c = TO ∨ c = j1 ∨ c = j2 := by simpa using hc
    rcases hc' with q | q | q | q | q | q
    · rw [q]; exact ⟨_, he, fun v z => nomatch z⟩
    · rw [q]; exact ⟨_, hz, fun v z => nomatch z⟩
    · rw [q]; exact ⟨_, hI, fun v z => nomatch z⟩
    · rw [q]; exact ⟨_, hO, fun v z => nomatch z⟩
    · rw [q]; exact ⟨o1, e1, fun v z => by rw [d1] at z; cases z⟩
    · rw [q]; exact ⟨o2, e2, fun v z => by rw [d2] at z; cases z⟩
  keep := fun i h h' st k => by
    obtain ⟨⟨old, he⟩, ⟨F0, f, hz, hf⟩, hI, ⟨b1, b2, hO⟩, h1, h2⟩ := st
    exact ⟨⟨old, k en (by simp) _ he⟩, ⟨F0, f, k zz (by simp) _ hz, hf⟩, k TI (by simp) _ hI, ⟨b1, b2, k TO (by simp) _ hO⟩, h1.at fun o q => k j1 (by simp) o q, h2.at fun o q => k j2 (by simp) o q⟩
  item := by
    intro X hP hw hK hc i pins s σ H E I hf st hg
    subst hP hw hK
    obtain ⟨⟨old, he⟩, ⟨F0, f, hz, hzf⟩, hI, ⟨b1, b2, hO⟩, h1, h2⟩ := st
    obtain ⟨hqx, hqy, l1, l2⟩ := hg
    obtain ⟨its, rv, p, _⟩ := I.tuple hqx
    obtain ⟨its2, rv2, p2, _⟩ := I.tuple hqy
    have len1 := rv.length
    have len2 := rv2.length
    obtain ⟨u, hu, ru⟩ := rv.get (List.getElem?_eq_getElem l1)
    obtain ⟨u2, hu2, ru2⟩ := rv2.get (List.getElem?_eq_getElem l2)
    have D1 := Draws.tuple (prog := X.prog) (w := X.w) (A := X.A.in1.in1) (I.ok.hd hc) j1 a Z.a1 its.toArray
    have D2 := Draws.tuple (prog := X.prog) (w := X.w) (A := X.A.in1.in1) (I.ok.hd hc) j2 b Z.b1 its2.toArray
    refine pn_next Z.S D1 D2 he Z.z1 Z.z2 Z.z3 Z.z4 hz hzf hI hO ⟨h1, p⟩ ⟨h2, p2⟩ (by simp; omega) (by simp; omega) fun x1 x2 k tk t0 F0' f' q1 q2 hz' hf' hO' c1 c2 hT1 hT he' up => ?_
    have hx1 : x1 = u := by
      have e1 : its[i]? = some x1 := by simpa using q1
      rw [hu] at e1
      exact (Option.some.inj e1).symm
    have hx2 : x2 = u2 := by
      have e1 : its2[i]? = some x2 := by simpa using q2
      rw [hu2] at e1
      exact (Option.some.inj e1).symm
    subst hx1 hx2
    have el : en < s.heap.objs.size := Heap.lt_size he
    refine ⟨_, rfl, wpAny_letOwnedTupleGo_enum (s := { s with heap := k, toks := tk }) he' fun k' he'' sb => ?_⟩
    have sb' : Heap.SameBut en k k' := sb
    have upk : ∀ c o, c ≠ en → k.get? c = some o → k'.get? c = some o := fun c o hc e => sb'.extBut _ _ hc e
    have up' : ∀ c o, c ∉ [en, zz, TI, TO, j1, j2] → s.heap.get? c = some o → k'.get? c = some o := fun c o hc e => by
      simp only [List.mem_cons, List.not_mem_nil, or_false, not_or] at hc
      exact upk c o hc.1 (up c o hc.1 hc.2.1 hc.2.2.2.1 hc.2.2.2.2.1 hc.2.2.2.2.2 e)
    have f0 : H s.heap.objs.size = none := I.hok.fresh (Nat.le_refl _)
    have f1 : H (s.heap.objs.size + 1) = none := I.hok.fresh (Nat.le_succ _)
    have hT1' : IsTupOf2 k' s.heap.objs.size x1 x2 := upk _ _ (Nat.ne_of_gt el) hT1
    have hT' : IsTupOf2 k' (s.heap.objs.size + 1) (.int (i : Nat) t0) (.ref s.heap.objs.size) := upk _ _ (Nat.ne_of_gt (Nat.lt_succ_of_lt el)) hT
    have hx : ∀ c o, H c = some o → upd (upd H s.heap.objs.size (.tup [xs[i], ys[i]])) (s.heap.objs.size + 1) (.tup [.int (i : Nat), .ref s.heap.objs.size]) c = some o := fun c o e => by
      have hne1 : c ≠ s.heap.objs.size + 1 := ne_of_none e f1
      have hne0 : c ≠ s.heap.objs.size := ne_of_none e f0
      rw [upd_ne hne1, upd_ne hne0]
      exact e
    refine ⟨.ref (s.heap.objs.size + 1), _, turnedX (s := s) (k := k') (t' := tk) (ch := [en, zz, TI, TO, j1, j2]) I up' hf hx (fun c hc e => ?_) (fun c o e => ?_), rfl, ⟨s.heap.objs.size, s.heap.objs.size + 1, _, _, rfl, List.getElem?_eq_getElem l1, List.getElem?_eq_getElem l2, Nat.succ_ne_self _, f0, f1, rfl⟩, ⟨⟨.ref s.heap.objs.size, ?_⟩, ⟨F0', f', upk _ _ Z.z1.symm hz', hf'⟩, upk _ _ Z.z5.symm (up _ _ Z.z5.symm Z.S.TIz Z.S.TITO Z.S.TIi1 Z.S.TIi2 hI), ?_, ?_, ?_⟩, fun c hc => ?_⟩
    · rw [upd_ne (show c ≠ s.heap.objs.size + 1 by omega), upd_ne (show c ≠ s.heap.objs.size by omega)]
      exact e
    · by_cases e1 : c = s.heap.objs.size + 1
      · subst e1
        rw [upd_same] at e
        cases e
        exact ⟨by show 2 ≤ sizeLine; decide, _, .cons ⟨t0, rfl⟩ (.cons rfl .nil), ⟨_, hT', rfl, _, rfl⟩⟩
      · rw [upd_ne e1] at e
        by_cases e2 : c = s.heap.objs.size
        · subst e2
          rw [upd_same] at e
          cases e
          exact ⟨by show 2 ≤ sizeLine; decide, _, .cons ru (.cons ru2 .nil), ⟨_, hT1', rfl, _, rfl⟩⟩
        · rw [upd_ne e2] at e
          refine (I.hok c o e).stay (fun b v hb q => up' b v (fun z => ?_) q) (fun b q => hx b _ q) fun b zs q => hx b _ q
          have hn := (hf b z).1
          rcases hb with z2 | z2
          · rw [z2, e] at hn
            cases hn
          · rw [z2] at hn
            cases hn
    · have e1 : ((i + 1 : Nat) : Int) = (i : Int) + 1 := by omega
      rw [e1]
      exact he''
    · obtain ⟨b1, b2, hO'⟩ := hO'
      exact ⟨b1, b2, upk _ _ Z.z2.symm hO'⟩
    · exact c1.1.at fun o q => upk j1 o (fun z => Z.z3 (by rw [← z]; simp)) q
    · exact c2.1.at fun o q => upk j2 o (fun z => Z.z4 (by rw [← z]; simp)) q
    · have hlt : c < s.heap.objs.size := by
        obtain ⟨o1, q1, _⟩ := h1
        obtain ⟨o2, q2, _⟩ := h2
        have hc' : c = en ∨ c = zz ∨ c = TI ∨ c = TO ∨ c = j1 ∨ c = j2 := by simpa using hc
        rcases hc' with q | q | q | q | q | q
        · rw [q]; exact el
        · rw [q]; exact Heap.lt_size hz
        · rw [q]; exact Heap.lt_size hI
        · rw [q]; exact Heap.lt_size hO
        · rw [q]; exact Heap.lt_size q1
        · rw [q]; exact Heap.lt_size q2
      rw [upd_ne (Nat.ne_of_lt (Nat.lt_succ_of_lt hlt)), upd_ne (Nat.ne_of_lt hlt)]
      exact (hf c hc).1
  done := by
    intro X hP hw hK hc i pins s σ H E I hf st hg
    subst hP hw hK
    obtain ⟨⟨old, he⟩, ⟨F0, f, hz, hzf⟩, hI, ⟨b1, b2, hO⟩, h1, h2⟩ := st
    obtain ⟨hqx, hqy, l1⟩ := hg
    obtain ⟨its, rv, p, _⟩ := I.tuple hqx
    have len1 := rv.length
    have hi : i = its.toArray.size := by simp; omega
    subst hi
    have D1 := Draws.tuple (prog := X.prog) (w := X.w) (A := X.A.in1.in1) (I.ok.hd hc) j1 a Z.a1 its.toArray
    refine pn_end Z.S D1 he hz hzf hI hO ⟨h1, p⟩ fun k tk up => ⟨rfl, turnedX (ch := [en, zz, TI, TO, j1, j2]) I (fun c o hc e => ?_) hf (fun _ _ e => e) (fun _ _ e => e) fun c o e => ?_⟩
    · simp only [List.mem_cons, List.not_mem_nil, or_false, not_or] at hc
      exact up c o hc.2.1 hc.2.2.2.1 hc.2.2.2.2.1 hc.2.2.2.2.2 e
    · refine (I.hok c o e).stay (fun b v hb q => ?_) (fun b q => q) fun b zs q => q
      have nb : b ∉ [en, zz, TI, TO, j1, j2] := fun z => by
        have hn := (hf b z).1
        rcases hb with z2 | z2
        · rw [z2, e] at hn
          cases hn
        · rw [z2] at hn
          cases hn
      simp only [List.mem_cons, List.not_mem_nil, or_false, not_or] at nb
      exact up b v nb.2.1 nb.2.2.2.1 nb.2.2.2.2.1 nb.2.2.2.2.2 q
  self := fun A i s Q E st h => by
    obtain ⟨⟨old, he⟩, _⟩ := st
    exact wpAny_pyIter_enum he h
end BW

namespace BW
open PySem PySem.Spec PyProof.Rows L2
/-! ### a zip object, tracked until it is walked -/
/-- things of ours that are told by a fact alone may be forgotten -/
theorem unt {X : Cx} {pins : List (Addr × Obj)} {σ : L2.St} {H H' : Hp} {s : Shared} (I : Inv X pins σ H s) (h : ∀ b, H' b = H b ∨ (H' b = none ∧ ∃ φ, H b = some (.ext φ))) : Inv X pins σ H' s := by
  have nn : ∀ b, H b = none → H' b = none := fun b e => by
    rcases h b with z | ⟨z, _⟩
    · rw [z]; exact e
    · exact z
  have tt : ∀ b o, H b = some o → (∀ φ, o ≠ .ext φ) → H' b = some o := fun b o e ne => by
    rcases h b with z | ⟨_, φ, z⟩
    · rw [z]; exact e
    · rw [e] at z
      exact absurd (Option.some.inj z) (ne φ)
  refine ⟨I.ok, I.os, I.bare, ⟨I.base.keep, I.base.slot, fun b o e n hx => nn b (I.base.free b o e n hx), I.base.there, fun b xs e => tt b _ (I.base.tups b xs e) (fun _ z => nomatch z), fun b o u e => tt b _ (I.base.frzs b o u e) (fun _ z => nomatch z), fun b ps e => ?_⟩, I.loc, I.cell, nn _ I.free, fun x c e => nn c (I.freeC x c e), fun p hp => ?_, fun b o e => ?_, I.len⟩
  · obtain ⟨more, z⟩ := I.base.tbls b ps e
    exact ⟨more, tt b _ z (fun _ z => nomatch z)⟩
  · obtain ⟨e, n, r⟩ := I.pin p hp
    exact ⟨e, nn _ n, r⟩
  · have e2 : H b = some o := by
      rcases h b with z | ⟨z, _⟩
      · rw [← z]; exact e
      · rw [z] at e
        cases e
    exact (I.hok b o e2).stay (fun c u _ q => q) (fun c q => tt c _ q (fun _ z => nomatch z)) fun c xs q => tt c _ q (fun _ z => nomatch z)
theorem fpX {X : Cx} {pins : List (Addr × Obj)} {σ : L2.St} {H H' : Hp} {s : Shared} {b : Addr} {o : HO} (I : Inv X pins σ H s) (hb : H b = some o) (h0 : X.s_0.heap.objs.size ≤ b) (hn : H' b = none) : FpOk X pins H' b := by
  refine ⟨hn, fun z => ?_, fun z => ?_, .inr h0, fun x c e z => ?_, fun p hp z => ?_⟩
  · rw [z, I.free] at hb
    cases hb
  · obtain ⟨_, ob, ho, _⟩ := I.ok.funs.mem z
    exact absurd (Nat.lt_of_lt_of_le (Heap.lt_size ho) h0) (Nat.lt_irrefl _)
  · have := I.freeC x c e
    rw [z, hb] at this
    cases this
  · have := (I.pin p hp).2.1
    rw [z, hb] at this
    cases this
def zx (p1 p2 : Heap → Prop) (H : Hp) (n : Nat) : Hp := upd (upd (upd (upd (upd H n (.ext p1)) (n + 1) (.ext p2)) (n + 2) (.ext fun h => IsPair h (n + 2) (.ref n) (.ref (n + 1)))) (n + 3) (.ext fun h => ∃ x y, IsPair h (n + 3) x y)) (n + 4) (.ext fun h => IsZip h (n + 4) (n + 2) (n + 3) .none)
theorem zx_lt {p1 p2 : Heap → Prop} {H : Hp} {n c : Nat} (h : c < n) : zx p1 p2 H n c = H c := by
  unfold zx
  rw [upd_ne (show c ≠ n + 4 by omega), upd_ne (show c ≠ n + 3 by omega), upd_ne (show c ≠ n + 2 by omega), upd_ne (show c ≠ n + 1 by omega), upd_ne (show c ≠ n by omega)]
theorem zx_gt {p1 p2 : Heap → Prop} {H : Hp} {n c : Nat} (h : n + 4 < c) : zx p1 p2 H n c = H c := by
  unfold zx
  rw [upd_ne (show c ≠ n + 4 by omega), upd_ne (show c ≠ n + 3 by omega), upd_ne (show c ≠ n + 2 by omega), upd_ne (show c ≠ n + 1 by omega), upd_ne (show c ≠ n by omega)]
theorem zx_0 {p1 p2 : Heap → Prop} {H : Hp} {n : Nat} : zx p1 p2 H n n = some (.ext p1) := by
  unfold zx
  rw [upd_ne (show n ≠ n + 4 by omega), upd_ne (show n ≠ n + 3 by omega), upd_ne (show n ≠ n + 2 by omega), upd_ne (show n ≠ n + 1 by omega), upd_same]
theorem zx_1 {p1 p2 : Heap → Prop} {H : Hp} {n : Nat} : zx p1 p2 H n (n + 1) = some (.ext p2) := by
  unfold zx
  rw [upd_ne (show n + 1 ≠ n + 4 by omega), upd_ne (show n + 1 ≠ n + 3 by omega), upd_ne (show n + 1 ≠ n + 2 by omega), upd_same]
theorem zx_2 {p1 p2 : Heap → Prop} {H : Hp} {n : Nat} : zx p1 p2 H n (n + 2) = some (.ext fun h => IsPair h (n + 2) (.ref n) (.ref (n + 1))) := by
  unfold zx
  rw [upd_ne (show n + 2 ≠ n + 4 by omega), upd_ne (show n + 2 ≠ n + 3 by omega), upd_same]
theorem zx_3 {p1 p2 : Heap → Prop} {H : Hp} {n : Nat} : zx p1 p2 H n (n + 3) = some (.ext fun h => ∃ x y, IsPair h (n + 3) x y) := by
  unfold zx
  rw [upd_ne (show n + 3 ≠ n + 4 by omega), upd_same]
theorem zx_4 {p1 p2 : Heap → Prop} {H : Hp} {n : Nat} : zx p1 p2 H n (n + 4) = some (.ext fun h => IsZip h (n + 4) (n + 2) (n + 3) .none) := by
  unfold zx
  rw [upd_same]
theorem five {n c : Nat} (P : Nat → Prop) (h0 : P n) (h1 : P (n + 1)) (h2 : P (n + 2)) (h3 : P (n + 3)) (h4 : P (n + 4)) (a : n ≤ c) (b : c ≤ n + 4) : P c := by
  obtain e | e | e | e | e : c = n ∨ c = n + 1 ∨ c = n + 2 ∨ c = n + 3 ∨ c = n + 4 := by omega
  all_goals rw [e]; assumption
/-- all five are forgotten -/
theorem zx_unt {X : Cx} {pins : List (Addr × Obj)} {σ : L2.St} {H : Hp} {s : Shared} {n : Nat} {p1 p2 : Heap → Prop} (I : Inv X pins σ (zx p1 p2 H n) s) (hf : ∀ c : Nat, n ≤ c → H c = none) : Inv X pins σ H s := by
  refine unt I fun (b : Nat) => ?_
  by_cases h1 : b < n
  · exact .inl (zx_lt h1).symm
  · by_cases h2 : n + 4 < b
    · exact .inl (zx_gt h2).symm
    · refine .inr ⟨hf b (by omega), ?_⟩
      exact five (n := n) (c := b) (fun c => ∃ φ, zx p1 p2 H n c = some (.ext φ)) ⟨_, zx_0⟩ ⟨_, zx_1⟩ ⟨_, zx_2⟩ ⟨_, zx_3⟩ ⟨_, zx_4⟩ (by omega) (by omega)
theorem zx_fp {X : Cx} {pins : List (Addr × Obj)} {σ : L2.St} {H : Hp} {s : Shared} {n : Nat} {p1 p2 : Heap → Prop} (I : Inv X pins σ (zx p1 p2 H n) s) (h0 : X.s_0.heap.objs.size ≤ n) (hf : ∀ c : Nat, n ≤ c → H c = none) {c : Nat} (a : n ≤ c) (b : c ≤ n + 4) : FpOk X pins H c := by
  refine five (n := n) (c := c) (fun c => FpOk X pins H c) ?_ ?_ ?_ ?_ ?_ a b
  · exact fpX I zx_0 h0 (hf _ (Nat.le_refl _))
  · exact fpX I zx_1 (Nat.le_trans h0 (by omega)) (hf _ (by omega))
  · exact fpX I zx_2 (Nat.le_trans h0 (by omega)) (hf _ (by omega))
  · exact fpX I zx_3 (Nat.le_trans h0 (by omega)) (hf _ (by omega))
  · exact fpX I zx_4 (Nat.le_trans h0 (by omega)) (hf _ (by omega))
/-- .. and come -/
theorem zx_laid {X : Cx} {pins : List (Addr × Obj)} {σ : L2.St} {H : Hp} {s : Shared} {k : Heap} {p1 p2 : Heap → Prop} (I : Inv X pins σ H s) (up : ∀ b o, s.heap.get? b = some o → k.get? b = some o)
    (o1 : ObjOk X.prog X.w (zx p1 p2 H s.heap.objs.size) k s.heap.objs.size (.ext p1)) (o2 : ObjOk X.prog X.w (zx p1 p2 H s.heap.objs.size) k (s.heap.objs.size + 1) (.ext p2)) (hI : IsPair k (s.heap.objs.size + 2) (.ref s.heap.objs.size) (.ref (s.heap.objs.size + 1))) (hO : ∃ x y, IsPair k (s.heap.objs.size + 3) x y)
    (hz : IsZip k (s.heap.objs.size + 4) (s.heap.objs.size + 2) (s.heap.objs.size + 3) .none) : Inv X pins σ (zx p1 p2 H s.heap.objs.size) { s with heap := k } := by
  have fr : ∀ c : Nat, s.heap.objs.size ≤ c → H c = none := fun c hc => I.hok.fresh hc
  have hx : ∀ b o, H b = some o → zx p1 p2 H s.heap.objs.size b = some o := fun (b : Nat) o e => by
    have hlt : b < s.heap.objs.size := by
      refine Nat.lt_of_not_le fun z => ?_
      rw [fr b z] at e
      cases e
    rw [zx_lt hlt]
    exact e
  refine turnedX (s := s) (t' := s.toks) (ch := []) I (fun b o _ e => up b o e) (fun b hb => nomatch hb) hx (fun b hb e => by rw [zx_lt hb]; exact e) fun (c : Nat) o e => ?_
  by_cases h1 : c < s.heap.objs.size
  · rw [zx_lt h1] at e
    exact (I.hok c o e).stay (fun b u _ q => up b u q) (fun b q => hx b _ q) fun b xs q => hx b _ q
  · by_cases h2 : s.heap.objs.size + 4 < c
    · rw [zx_gt h2, fr c (by omega)] at e
      cases e
    · revert e
      refine five (n := s.heap.objs.size) (c := c) (fun c => zx p1 p2 H s.heap.objs.size c = some o → ObjOk X.prog X.w (zx p1 p2 H s.heap.objs.size) k c o) ?_ ?_ ?_ ?_ ?_ (by omega) (by omega)
      · intro e
        rw [zx_0] at e
        cases e
        exact o1
      · intro e
        rw [zx_1] at e
        cases e
        exact o2
      · intro e
        rw [zx_2] at e
        cases e
        exact ⟨hI, ⟨_, hI⟩, fun h1 h2 q kk => kk _ q⟩
      · intro e
        rw [zx_3] at e
        cases e
        obtain ⟨x, y, hO⟩ := hO
        exact ⟨⟨x, y, hO⟩, ⟨_, hO⟩, fun h1 h2 ⟨x, y, q⟩ kk => ⟨x, y, kk _ q⟩⟩
      · intro e
        rw [zx_4] at e
        cases e
        exact ⟨hz, ⟨_, hz⟩, fun h1 h2 q kk => kk _ q⟩
def tZpL (X : Cx) (ta : TA) : TE := fun σ H Q => ta σ H fun vs H1 => ∃ a b xs ys, vs = [.ref a, .ref b] ∧ SqL X.K H1 a xs ∧ SqL X.K H1 b ys ∧ ∀ n : Nat, X.s_0.heap.objs.size ≤ n → (∀ c : Nat, n ≤ c → H1 c = none) → a < n → b < n → Q (.ref (n + 4)) (zx (fun h => h.IsListIter n a 0) (fun h => h.IsListIter (n + 1) b 0) H1 n)
def tZpT (X : Cx) (ta : TA) : TE := fun σ H Q => ta σ H fun vs H1 => ∃ a b xs ys, vs = [.ref a, .ref b] ∧ SqT X.K H1 a xs ∧ SqT X.K H1 b ys ∧ ∀ n : Nat, X.s_0.heap.objs.size ≤ n → (∀ c : Nat, n ≤ c → H1 c = none) → a < n → b < n → Q (.ref (n + 4)) (zx (fun h => h.IsTupleIter n a 0) (fun h => h.IsTupleIter (n + 1) b 0) H1 n)
section
variable {X : Cx} {e e2 : Expr} {ta : TA} {p pos : Pos}
theorem pe_zpL (hg : Gl X "zip") (hm : X.mg "zip" = none) (ha : PA X [e, e2] ta) (hs : starEach [e, e2] X.env = (false, eval e X.env) :: starEach [e2] X.env := by rfl) (hpl : (backTo pos (starEach [e2] X.env)).any (·.1) = false := by rfl) : PE X (.Call (.Name "zip" p) [e, e2] [] pos) (tZpL X ta) := by
  refine ⟨fun pins s σ H Q I h => ?_⟩
  refine Call_ (ld_blt I hg hm PyProof.Rows.boot_zip (PyProof.Rows.callWith_type1 (thn (ha.run pos pins s σ H _ I h) fun us s1 ⟨vs, H1, I1, r1, a, b, xs, ys, ex, hqx, hqy, q⟩ => ?_) hs hpl))
  subst ex
  cases r1 with
  | cons r rr =>
    cases rr with
    | cons r' rr =>
      cases rr
      cases r
      cases r'
      obtain ⟨its, rv, p1, _⟩ := I1.list hqx
      obtain ⟨its2, rv2, p2, _⟩ := I1.list hqy
      refine call_zip_2 p1.isList p2.isList fun k hz hTI hTO h1 h2 hsz hk => ?_
      have g1 := h1
      have g2 := h2
      obtain ⟨q1, e1, _⟩ := g1
      obtain ⟨q2, e2, _⟩ := g2
      refine ⟨.ref (s1.heap.objs.size + 4), _, zx_laid I1 hk ⟨h1, ⟨q1, e1⟩, fun _ _ z kk => z.at kk⟩ ⟨h2, ⟨q2, e2⟩, fun _ _ z kk => z.at kk⟩ hTI ⟨_, _, hTO⟩ hz, rfl, q s1.heap.objs.size I1.sz (fun c hc => I1.hok.fresh hc) p1.lt p2.lt⟩
theorem pe_zpT (hg : Gl X "zip") (hm : X.mg "zip" = none) (ha : PA X [e, e2] ta) (hs : starEach [e, e2] X.env = (false, eval e X.env) :: starEach [e2] X.env := by rfl) (hpl : (backTo pos (starEach [e2] X.env)).any (·.1) = false := by rfl) : PE X (.Call (.Name "zip" p) [e, e2] [] pos) (tZpT X ta) := by
  refine ⟨fun pins s σ H Q I h => ?_⟩
  refine Call_ (ld_blt I hg hm PyProof.Rows.boot_zip (PyProof.Rows.callWith_type1 (thn (ha.run pos pins s σ H _ I h) fun us s1 ⟨vs, H1, I1, r1, a, b, xs, ys, ex, hqx, hqy, q⟩ => ?_) hs hpl))
  subst ex
  cases r1 with
  | cons r rr =>
    cases rr with
    | cons r' rr =>
      cases rr
      cases r
      cases r'
      obtain ⟨its, rv, p1, _⟩ := I1.tuple hqx
      obtain ⟨its2, rv2, p2, _⟩ := I1.tuple hqy
      refine RZ.call_zipT p1 p2 fun k hz hTI hTO h1 h2 hsz hk => ?_
      have g1 := h1
      have g2 := h2
      obtain ⟨q1, e1, _⟩ := g1
      obtain ⟨q2, e2, _⟩ := g2
      have lt1 : a < s1.heap.objs.size := p1.elim fun o z => Heap.lt_size z.1
      have lt2 : b < s1.heap.objs.size := p2.elim fun o z => Heap.lt_size z.1
      refine ⟨.ref (s1.heap.objs.size + 4), _, zx_laid I1 hk ⟨h1, ⟨q1, e1⟩, fun _ _ z kk => z.at kk⟩ ⟨h2, ⟨q2, e2⟩, fun _ _ z kk => z.at kk⟩ hTI ⟨_, _, hTO⟩ hz, rfl, q s1.heap.objs.size I1.sz (fun c hc => I1.hok.fresh hc) lt1 lt2⟩
end
end BW

namespace BW
open PySem PySem.Spec PyProof.Rows L2
/-- what an enumerate over a zip of tuples is to give -/
def qEz (X : Cx) (R : It → Hp → Prop) : List V → Hp → Prop := fun vs H5 => ∃ (n : Nat) (H1 : Hp) (a b : Nat) (xs ys : List V), vs = [.ref (n + 4)] ∧ H5 = zx (fun h => h.IsTupleIter n a 0) (fun h => h.IsTupleIter (n + 1) b 0) H1 n ∧ X.s_0.heap.objs.size ≤ n ∧ (∀ c : Nat, n ≤ c → H1 c = none) ∧ a < n ∧ b < n ∧ R (IeZ X.K a b xs ys) H1
theorem ez_sep {m n a b : Nat} (l : n + 4 < m) (la : a < n) (lb : b < n) : EzSep m (n + 4) (n + 2) (n + 3) n (n + 1) a b := by
  refine ⟨⟨?_, ?_, ?_, ?_, ?_, ?_, ?_, ?_, ?_, ?_, ?_, ?_, ?_⟩, ?_, ?_, ?_, ?_, ?_, ?_, ?_⟩
  all_goals first
    | (show @Ne Nat _ _; omega)
    | exact .head _
    | (intro hh; simp only [List.mem_cons, List.not_mem_nil, or_false] at hh; rcases hh with hh | hh <;> (have hh : @Eq Nat _ _ := hh; omega))
theorem pi_ez {X : Cx} {e e2 : Expr} {ta : TA} {p p2 pos pos2 tpos : Pos} {elts : List Expr} {kk : Nat} (hgE : Gl X "enumerate") (hmE : X.mg "enumerate" = none) (hgZ : Gl X "zip") (hmZ : X.mg "zip" = none) (ha : PA X [e, e2] ta)
    (hs : starEach [e, e2] X.env = (false, eval e X.env) :: starEach [e2] X.env := by rfl) (hpl : (backTo pos2 (starEach [e2] X.env)).any (·.1) = false := by rfl) (hz1 : starEach [.Call (.Name "zip" p2) [e, e2] [] pos2] X.env = (false, eval (.Call (.Name "zip" p2) [e, e2] [] pos2) X.env) :: starEach [] X.env := by rfl) :
    PI X (.Tuple elts kk tpos) (.Call (.Name "enumerate" p) [.Call (.Name "zip" p2) [e, e2] [] pos2] [] pos) (fun σ H R => tZpT X ta σ H fun v H5 => qEz X R [v] H5) := by
  refine ⟨fun pins s σ H R I h => ?_⟩
  refine Call_ (ld_blt I hgE hmE boot_enumerate (PyProof.Rows.callWith_type1 (thn ((pa_cons (pe_zpT hgZ hmZ ha hs hpl) pa_nil hz1).run pos pins s σ H (qEz X R) I h) fun us s1 ⟨vs, H5, I5, r5, n, H1, a, b, xs, ys, ev, eH, h0, fr, la, lb, q⟩ => ?_) hz1 rfl))
  subst ev eH
  obtain rfl := Vals.ref1 r5
  have k0 := (I5.hok n _ zx_0).1
  have k1 := (I5.hok (n + 1) _ zx_1).1
  have k2 := (I5.hok (n + 2) _ zx_2).1
  have k3 := (I5.hok (n + 3) _ zx_3).1
  have k4 := (I5.hok (n + 4) _ zx_4).1
  have I1 := zx_unt I5 fr
  have l4 : n + 4 < s1.heap.objs.size := Heap.lt_size k4
  refine call_enumZ k4 fun k he hk => wpAny_pyIter_enum he ?_
  have Z : EzSep s1.heap.objs.size (n + 4) (n + 2) (n + 3) n (n + 1) a b := by
    exact ez_sep l4 la lb
  refine ⟨s1.heap.objs.size, [s1.heap.objs.size, n + 4, n + 2, n + 3, n, n + 1], _, _, H1, rfl, I1.kept (t' := s1.toks) hk, turn_ez Z, ⟨⟨.none, he⟩, ⟨.none, false, hk _ _ k4, .inl rfl⟩, hk _ _ k2, k3.elim fun x z => z.elim fun y z => ⟨x, y, hk _ _ z⟩, k0.at fun o z => hk _ _ z, k1.at fun o z => hk _ _ z⟩, fun c hc => ?_, q⟩
  have hc' : c = s1.heap.objs.size ∨ c = n + 4 ∨ c = n + 2 ∨ c = n + 3 ∨ c = n ∨ c = n + 1 := by simpa using hc
  rcases hc' with z | z | z | z | z | z
  · rw [z]; exact I1.fpOk (Nat.le_refl _) (I1.hok.fresh (Nat.le_refl _))
  · rw [z]; exact zx_fp I5 h0 fr (by omega) (by omega)
  · rw [z]; exact zx_fp I5 h0 fr (by omega) (by omega)
  · rw [z]; exact zx_fp I5 h0 fr (by omega) (by omega)
  · rw [z]; exact zx_fp I5 h0 fr (by omega) (by omega)
  · rw [z]; exact zx_fp I5 h0 fr (by omega) (by omega)
section
variable {X : Cx} {ρ : Rho} {μ : Mu} {a b elt : Expr} {J : Jm} {rest : List Stmt}
theorem im_ez {p p2 pos pos2 tpos : Pos} {elts : List Expr} {kk : Nat} {P : Mu → List PyData → Prop} (hgE : Gl X "enumerate") (hmE : X.mg "enumerate" = none) (hgZ : Gl X "zip") (hmZ : X.mg "zip" = none)
    (h : Dm X ρ μ a (TupP fun μ1 ds => Dm X ρ μ1 b (TupP fun μ2 es => ds.length = es.length ∧ P μ2 (enumD (zipD ds es)))))
    (hs : starEach [a, b] X.env = (false, eval a X.env) :: starEach [b] X.env := by rfl) (hs2 : starEach [b] X.env = (false, eval b X.env) :: starEach [] X.env := by rfl) (hpl : (backTo pos2 (starEach [b] X.env)).any (·.1) = false := by rfl) (hz1 : starEach [.Call (.Name "zip" p2) [a, b] [] pos2] X.env = (false, eval (.Call (.Name "zip" p2) [a, b] [] pos2) X.env) :: starEach [] X.env := by rfl) :
    Im X ρ μ (.Tuple elts kk tpos) (.Call (.Name "enumerate" p) [.Call (.Name "zip" p2) [a, b] [] pos2] [] pos) P := fun R F H as σ S Rk q => by
  refine Wi.of (pi_ez hgE hmE hgZ hmZ (pa_cons (We.pe X a) (pa_cons (We.pe X b) pa_nil hs2) hs) hs hpl hz1) ?_
  refine h R F H as σ S _ fun v F1 H1 as1 μ1 r1 S1 x1 o1 ⟨ds, er, h1⟩ => ?_
  subst er
  refine h1 R F1 H1 as1 σ S1 _ fun w F2 H2 as2 μ2 r2 S2 x2 o2 ⟨es, er, hl, h2⟩ => ?_
  subst er
  obtain ⟨a', xs, rfl, g1, g2⟩ := Rp.tupE (o1.ext x2)
  obtain ⟨b', ys, rfl, g3, g4⟩ := Rp.tupE o2
  have e1 := g2.length
  have e2 := g4.length
  refine ⟨a', b', xs, ys, rfl, st_up S2.fh g1, st_up S2.fh g3, fun n h0 fr la lb => ⟨n, H2, a', b', xs, ys, rfl, rfl, h0, fr, la, lb, q _ F2 H2 as2 μ2 _ S2 (x1.trans x2) ?_ h2⟩⟩
  unfold Yl
  rw [enumD_len, zipD_len, ← hl, Nat.min_self, ← e1]
  refine ⟨fun i H hi e => ⟨st_up e g1, st_up e g3, hi, by omega⟩, fun H e => ⟨st_up e g1, st_up e g3, rfl⟩, fun i H x H' hi e y => ?_⟩
  obtain ⟨T1, T, x', y', k1, k2, k3, k4, k5, k6, k7⟩ := y
  obtain ⟨d, d1, d2⟩ := g2.get' k2
  obtain ⟨d', d3, d4⟩ := g4.get' k3
  exact ⟨_, enumD_get (zipD_get d1 d3), .inr (.inr (.inr (.inr ⟨T1, T, [x', y'], [d, d'], .int (i : Nat), rfl, ⟨_, .int _, k1, k4, k5, k6, k7⟩, .cons d2 (.cons d4 .nil)⟩)))⟩
/-- rows = zip(a, b); xs.append([elt for .. in rows]) -/
theorem ds_zipRows {scope : Scope} {own : List (Str × Nat)} {i j n : Nat} {y z : Str} {py py2 pz pf pz2 spos apos lpos cpos epos tpos : Pos} {elts : List Expr} {kk : Nat} (hN : X.N.Nodup) (ok : BlkOk X.N X.env.scope scope own) (hgZ : Gl X "zip") (hmZ : X.mg "zip" = none)
    (hy : X.N[i]? = some y) (hz : X.N[j]? = some z) (hr : ρ[j]? = some (some (.own n))) (hij : i ≠ j) (hli : Nat.blt i ρ.length = true)
    (h : Dm X ρ μ a (LstP fun μ1 ds => Dm X ρ μ1 b (LstP fun μ2 es => (∃ rs0, μ2[n]? = some (.L rs0)) ∧ ∀ zv : Addr, (zipD ds es).length ≤ 1000000 ∧ ∃ I : Nat → Mu → List Rv → Prop, I 0 μ2 [] ∧ Lc X (ρ.set i (some (.raw (.ref zv)))) scope (own.map (·.2)) (.Tuple elts kk tpos) elt [] (zipD ds es) I ∧
      ∀ μ' acc, I (zipD ds es).length μ' acc → ∃ (dsr : List PyData) (rs : List Rv), acc = dsr.map Rv.dat ∧ μ'[n]? = some (.L rs) ∧ rs.length ≤ 1000 ∧ Ds X (ρ.set i (some (.raw (.ref zv)))) (μ'.set n (.L (rs ++ [.dat (.list dsr)]))) rest J)))
    (hs : starEach [a, b] X.env = (false, eval a X.env) :: starEach [b] X.env := by rfl) (hs2 : starEach [b] X.env = (false, eval b X.env) :: starEach [] X.env := by rfl) (hpl : (backTo pz2 (starEach [b] X.env)).any (·.1) = false := by rfl)
    (w1 : swapsWithSole [.Name y py] (.Call (.Name "zip" pz) [a, b] [] pz2) spos.line X.env = pure false := by rfl) (w2 : swappedStores [.Name y py] (.Call (.Name "zip" pz) [a, b] [] pz2) X.env = pure none := by rfl) (w3 : (assignEach [.Name y py] X.env).map (·.2) = [assign (.Name y py) X.env] := by rfl)
    (hx : Loc X.env.scope y := by first | exact Or.inl rfl | exact Or.inr rfl) (hf : X.fn y = true ∨ X.env.scope.names.lookup y = some .local := by first | exact .inl rfl | exact .inr rfl | assumption)
    (v1 : Vis X.env.scope y := by first | exact Or.inl rfl | exact Or.inr (Or.inl rfl) | exact Or.inr (Or.inr rfl)) (v2 : (y == ("__debug__" : Str)) = false := by decide) (v3 : (y == ("__classdict__" : Str)) = false := by decide)
    (u1 : Vis X.env.scope z := by first | exact Or.inl rfl | exact Or.inr (Or.inl rfl) | exact Or.inr (Or.inr rfl)) (u2 : (z == ("__debug__" : Str)) = false := by decide) (u3 : (z == ("__classdict__" : Str)) = false := by decide)
    (hc : X.calm = true := by rfl) (hfo : ∀ x, foldedSetIterable (.Name y py2) X.env x = pure x := by intro _; rfl)
    (hbase : attributeBase (.Name z pf) "append" X.env (eval (.Name z pf) X.env) = eval (.Name z pf) X.env := by rfl) (hfew : ((backTo cpos (starEach [.ListComp elt [⟨.Tuple elts kk tpos, .Name y py2, [], 0⟩] scope lpos] X.env)).all (fun x => !x.1) && (backToKw cpos (keywordEach [] X.env)).all (fun x => x.1.isSome)
      && decide ([(.ListComp elt [⟨.Tuple elts kk tpos, .Name y py2, [], 0⟩] scope lpos : Expr)].length + ([] : List Keyword).length + (if ([] : List Keyword).isEmpty then 0 else 1) < 30)) = true := by rfl)
    (hline : (apos.endLine == cpos.line) = true := by rfl) (hs3 : starEach [.ListComp elt [⟨.Tuple elts kk tpos, .Name y py2, [], 0⟩] scope lpos] X.env = (false, eval (.ListComp elt [⟨.Tuple elts kk tpos, .Name y py2, [], 0⟩] scope lpos) X.env) :: starEach [] X.env := by rfl)
    (w4 : swapsWith (.Call (.Attribute (.Name z pf) "append" apos) [.ListComp elt [⟨.Tuple elts kk tpos, .Name y py2, [], 0⟩] scope lpos] [] cpos) none epos.line X.env = pure false := by rfl) :
    Ds X ρ μ (.Assign [.Name y py] (.Call (.Name "zip" pz) [a, b] [] pz2) spos :: .Expr (.Call (.Attribute (.Name z pf) "append" apos) [.ListComp elt [⟨.Tuple elts kk tpos, .Name y py2, [], 0⟩] scope lpos] [] cpos) epos :: rest) J := fun R F H as σ S D jk => by
  refine Wb.of (pss_cons (ps_asg (pe_zpL hgZ hmZ (pa_cons (We.pe X a) (pa_cons (We.pe X b) pa_nil hs2) hs) hs hpl) (pg_name hN hy hx hf) w1 w2 w3) (pss_cons (ps_expr (pe_bm PySem.F.plainAttrs_list PySem.F.slot_list_append PySem.F.type_list_append mt_append (pe_var hz u1 u2 u3) (pa_cons (pe_lcM hN ok hc hfo) pa_nil hs3) hbase hfew hline hs3 rfl) w4) (Wb.ps X rest))) ?_
  refine h R F H as σ S _ fun v F1 H1 as1 μ1 r1 S1 x1 o1 ⟨ds, er, h1⟩ => ?_
  subst er
  refine h1 R F1 H1 as1 σ S1 _ fun w F2 H2 as2 μ2 r2 S2 x2 o2 ⟨es, er, ⟨rs0, hm0⟩, h2⟩ => ?_
  subst er
  obtain ⟨a', xs, rfl, g1, g2⟩ := Rp.lstE (o1.ext x2)
  obtain ⟨b', ys, rfl, g3, g4⟩ := Rp.lstE o2
  refine ⟨a', b', xs, ys, rfl, sq_up S2.fh g1, sq_up S2.fh g3, fun n0 h0 fr la lb => ?_⟩
  have S3 : Sta X.K R F2 H2 as2 (σ.set i (some (.ref (n0 + 4)))) (ρ.set i (some (.raw (.ref (n0 + 4))))) μ2 := S2.store okR (Nat.le_of_ble_eq_true hli)
  obtain ⟨vf, hv1, hv2⟩ := S2.slt j _ hr
  obtain ⟨af, ha1, rfl⟩ := hv2
  obtain ⟨vs0, k1, _⟩ := S2.cel n af _ ha1 hm0
  have laf : af < n0 := Nat.lt_of_not_le fun z => by
    rw [fr af z] at k1
    cases k1
  obtain ⟨hlz, I, i0, iL, iD⟩ := h2 (n0 + 4)
  have key : ∀ Q : VK, (∀ D' F' H' as' μ' ws acc, H2 D' = none → Sta X.K (upd R D' (.lst ws)) F' H' as' (σ.set i (some (.ref (n0 + 4)))) (ρ.set i (some (.raw (.ref (n0 + 4))))) μ' → Ext F2 as2 F' as' → Paired (ROk X.K F' as') ws acc → I (zipD ds es).length μ' acc → Q (.ref D') H') → tLcM X scope (own.map (·.2)) (.Tuple elts kk tpos) (.Name y py2) elt [] (σ.set i (some (.ref (n0 + 4)))) (zx (fun h => h.IsListIter n0 a' 0) (fun h => h.IsListIter (n0 + 1) b' 0) H2 n0) Q := by
    intro Q qk
    show Wi X (.Tuple elts kk tpos) (.Name y py2) _ _ _
    intro pins s I5
    have hi : i < σ.length := by
      rw [S2.sl]
      exact Nat.le_of_ble_eq_true hli
    refine thn ((pe_var hy v1 v2 v3).run pins s _ _ (fun v H' => v = .ref (n0 + 4) ∧ H' = zx (fun h => h.IsListIter n0 a' 0) (fun h => h.IsListIter (n0 + 1) b' 0) H2 n0) I5 ⟨_, List.getElem?_set_self hi, rfl, rfl⟩) fun u s1 ⟨v, H', I6, rv, ev, eH⟩ => ?_
    subst ev eH
    cases rv
    have q0 := (I6.hok n0 _ zx_0).1
    have q1 := (I6.hok (n0 + 1) _ zx_1).1
    have q2 := (I6.hok (n0 + 2) _ zx_2).1
    have q3 := (I6.hok (n0 + 3) _ zx_3).1
    have q4 := (I6.hok (n0 + 4) _ zx_4).1
    refine wpAny_pyIter_zip q4 ⟨n0 + 4, [n0 + 4, n0 + 2, n0 + 3, n0, n0 + 1], _, _, H2, rfl, zx_unt I6 fr, turn_zip (PySem.W.ktu_apart n0 a' b' la lb), ⟨q4, q2, q3, q0, q1⟩, fun c hc => ?_, ?_⟩
    · have hc' : c = n0 + 4 ∨ c = n0 + 2 ∨ c = n0 + 3 ∨ c = n0 ∨ c = n0 + 1 := by simpa using hc
      rcases hc' with z | z | z | z | z
      · rw [z]; exact zx_fp I6 h0 fr (by omega) (by omega)
      · rw [z]; exact zx_fp I6 h0 fr (by omega) (by omega)
      · rw [z]; exact zx_fp I6 h0 fr (by omega) (by omega)
      · rw [z]; exact zx_fp I6 h0 fr (by omega) (by omega)
      · rw [z]; exact zx_fp I6 h0 fr (by omega) (by omega)
    · intro D' hD
      exact lc_run (Q := Q) (C := fun _ => True) iL S3 i0 hlz ((yl_zipL g1 g2 g3 g4).mono (fun _ z => z.1) fun _ _ _ _ _ _ z => z) (fun _ _ _ _ _ _ _ _ _ _ => True.intro) hD fun F' H' as' μ' ws acc S' x' pa _ hI => qk D' F' H' as' μ' ws acc hD S' x' pa hI
  refine ⟨.ref af, by rw [List.getElem?_set_ne hij]; exact hv1, .inl ⟨rfl, vs0, .inl (.inl ?_)⟩, ?_⟩
  · show zx _ _ H2 n0 af = _
    rw [zx_lt laf]
    exact k1
  refine key _ fun D' F' H' as' μ' ws acc hD S' x' pa hI => ?_
  obtain ⟨dsr, rs, rfl, hm, hl, hrest⟩ := iD μ' acc hI
  have hF := S'.asideIs.2
  have hR : R D' = none := fresh_of S3.rh hD
  have S4 := S'.asideZ hR
  have g5 : Rp X.K (upd F' D' (.lst ws)) (.ref D') (.list dsr) := .lst (.inl (.inl upd_same)) ((rpA_of pa).mono (Gw.of (same_upd hF)))
  have xx : Ext F2 as2 (upd F' D' (.lst ws)) as' := x'.trans ⟨same_upd hF, List.prefix_refl _⟩
  have ha2 := pre_get x'.p ha1
  obtain ⟨vs, e1, e2, e3, e4⟩ := S4.cel n af _ ha2 hm
  refine ⟨af, vs, .ref D', rfl, rfl, e1, small1000 (by rw [paired_len e4]; exact hl), ?_⟩
  exact hrest R _ _ as' _ (S4.set (c := .L _) ha2 e2 e3 ⟨_, upd_same, e2, e3, e4.snoc (okD g5)⟩) D (jk.ext ((x1.trans x2).trans xx))
end
end BW

namespace BW
open PySem PySem.Spec PyProof.Rows L2
def fixA (f : Fr) (pu : Nat → Int) (st : Nat → Nat → Rat) : Nat → Nat → Rat := fun m i => fixP f pu m i + fixS f st m i
section
variable {P : Program} {w : World} {K : PySem.W.Frag} {mg : Str → Option Value} {base : Heap}
def tf_all : Tf := fun ds G => ∃ f h J pu gv st, ds = [frD f, .tuple (hgL h), loadD J pu f.nd.length f.mb.length, gmD gv, stD st f.mb.length] ∧ FrC f ∧ HgOk f h ∧ LoadOk J pu ∧ GvOk f gv ∧ (gv.map fun p => wK p.1).Nodup ∧ (∀ i l, RtOk (st i l)) ∧ (∀ m i, Bd 1000 (fixP f pu m i)) ∧ (∀ m i, Bd 1000 (fixS f st m i)) ∧ RespOk f h J (fixA f pu st) gv ∧ ∀ u, Sol f h J (fixA f pu st) gv u → G (endsD f h (fixA f pu st) u)
theorem can_all (T : Txt K mg) (c_need : Can P w K mg base "need" 6 p_need (PureSp K tf_need)) (c_nl : Can P w K mg base "need_load" 3 p_need_load (PureSp K tf_need_load)) (c_nm : Can P w K mg base "need_moves" 43 p_need_moves (PureSp K tf_need_moves)) (c_ns : Can P w K mg base "need_strains" 43 p_need_strains (PureSp K tf_need_strains)) (c_pushed : Can P w K mg base "pushed" 42 p_pushed (PureSp K tf_pushed)) (c_strained : Can P w K mg base "strained" 43 p_strained (PureSp K tf_strained)) (c_plus : Can P w K mg base "plus" 42 p_plus (PureSp K tf_plus)) (c_response : Can P w K mg base "response" 47 p_response (PureSp K tf_response)) (c_am : Can P w K mg base "as_moves" 1 p_as_moves (PureSp K tf_as_moves)) : Can P w K mg base "all_forces" 48 p_all_forces (PureSp K tf_all) := by
  refine can_pure 61 T sc_all_forces (fun _ _ _ _ _ _ us hl => match us, hl with | [_, _, _, _, _], _ => rfl) (fun ds G h => by obtain ⟨f, h, J, pu, gv, st, rfl, _⟩ := h; rfl) fun fa cdv B outer s H E hr ds G h => ?_
  obtain ⟨f, h, J, pu, gv, st, rfl, hC, hO, hL, hg, hnd, hq, hP, hS, hR, hG⟩ := h
  have h8 := hC.n8
  have hW := hR.w
  have hm8 := hW.m
  have hp : ∀ i, sml (pu i) := fun i => by
    have := hL.p i
    unfold sml
    omega
  refine ds_expr (dm_call c_need (hr.mono (by decide)) rfl (ac (nm 0 (dmm (a1 (nm 1 (dmm ⟨f, h, rfl, hC, hO, ?_⟩)))))))
  refine ds_expr (dm_call c_nl (hr.mono (by decide)) rfl (ac (nm 0 (dmm (a1 (nm 2 (dmm ⟨f, J, pu, rfl, hL, h8, hC.m8, ?_⟩)))))))
  refine ds_expr (dm_call c_nm (hr.mono (by decide)) rfl (ac (nm 0 (dmm (a1 (nm 3 (dmm ⟨f, gv, rfl, hR.hd, hg, ?_⟩)))))))
  refine ds_expr (dm_call c_ns (hr.mono (by decide)) rfl (ac (nm 0 (dmm (a1 (nm 4 (dmm ⟨f, st, rfl, hC.m8, hq, ?_⟩)))))))
  refine ds_asg (dm_lstO (am_nil ⟨by simp, gm_name sc_all_forces.nd (i := 5) rfl ?_⟩))
  refine ds_for PassesOwn.never (im_ez rfl T.b_enumerate rfl T.b_zip (ixT (nm 2 ⟨_, _, rfl, rfl, tmm (nm 4 (tmm ?_))⟩)))
  refine ⟨by simp, ?_⟩
  rw [show zipD ((List.range f.mb.length).map fun i => PyData.int (pu i)) ((List.range f.mb.length).map fun i => PyData.tuple [rt (st i 0), rt (st i 1)]) = _ from zip_maps _ _ _, enumD_range]
  refine ⟨fun k ρ μ => (∃ o6 o7 o8 o9 o10 o11, ρ = [some (.dat (frD f)), some (.dat (.tuple (hgL h))), some (.dat (loadD J pu f.nd.length f.mb.length)), some (.dat (gmD gv)), some (.dat (stD st f.mb.length)), some (.own 0), o6, o7, o8, o9, o10, o11]) ∧ μ = [.L ((List.range k).map fun m => .dat (.list (eD (fixA f pu st m) 6)))], ⟨⟨_, _, _, _, _, _, rfl⟩, rfl⟩, ?_, ?_⟩
  · rintro k d ρ μ hd ⟨⟨o6, o7, o8, o9, o10, o11, rfl⟩, rfl⟩
    have hk : k < f.mb.length := by
      have := (List.getElem?_eq_some_iff.mp hd).1
      simpa using this
    rw [List.getElem?_map, List.getElem?_range hk] at hd
    obtain rfl := Option.some.inj hd
    have hMb := List.getElem?_eq_getElem hk
    have ok := hW.ok _ (List.getElem_mem hk)
    have eP : fixP f pu k = pushV (pu k) (lM f f.mb[k]) := by
      funext i
      unfold fixP
      rw [hMb]
    have eS : fixS f st k = strainV f.mb[k].k f.mb[k].s (lM f f.mb[k]) (st k 0) (st k 1) := by
      funext i
      unfold fixS
      rw [hMb]
    refine gm_of_j (js := [6, 7, 8]) (gj_tup (gjs_cons (gj_name (i := 6) sc_all_forces.nd rfl (gjs_cons (gj_tup (gjs_cons (gj_name (i := 7) sc_all_forces.nd rfl (gjs_cons (gj_name (i := 8) sc_all_forces.nd rfl (gjs_nil (gjs_nil ?_)))))))))))
    refine ds_zipRows (own := [("one", 10), ("other", 11)]) (i := 9) (j := 5) (n := 0) sc_all_forces.nd (blkOk_by (by kernel_rfl)) rfl T.b_zip rfl rfl rfl (by decide) rfl ?_
    refine dm_call c_pushed (hr.mono (by decide)) rfl (ac (nm 0 (dmm (ac (nm 6 (dmm (a1 (nm 7 (dmm ⟨f, k, f.mb[k], _, _, pu k, rfl, ok.at hMb, ok.farS, hp k, lm ?_⟩)))))))))
    refine dm_call c_strained (hr.mono (by decide)) rfl (ac (nm 0 (dmm (ac (nm 6 (dmm (a1 (nm 8 (dmm ⟨f, k, f.mb[k], _, _, _, _, rfl, ok.at hMb, ok.far0, ok.farS, ok.k, ok.st, (hq k 0).bd.mono (by decide), (hq k 1).bd.mono (by decide), lm ?_⟩)))))))))
    refine ⟨⟨_, rfl⟩, fun zv => ?_⟩
    change LcP _ _ _ _ _ _ _ _ _ _
    rw [show zipD (eD (pushV (pu k) (far (ndA f f.mb[k].i) (ndA f f.mb[k].j))) 6) (eD (strainV f.mb[k].k f.mb[k].s (far (ndA f f.mb[k].i) (ndA f f.mb[k].j)) (st k 0) (st k 1)) 6) = (List.range 6).map (fun i => PyData.tuple [rt (fixP f pu k i), rt (fixS f st k i)]) by rw [eP, eS]; exact zip_maps _ _ 6]
    refine lc_mapL (List.range 6) _ (fun i => rt (fixA f pu st k i)) (by decide) (fun i hi b => ?_) ⟨eD (fixA f pu st k) 6, _, rfl, rfl, by simp; omega, ds_nil ⟨⟨_, _, _, _, _, _, rfl⟩, ?_⟩⟩
    · refine gj_tup (gjs_cons (gj_name (i := 10) sc_all_forces.nd rfl (gjs_cons (gj_name (i := 11) sc_all_forces.nd rfl (gjs_nil ?_)))))
      intro b
      exact dm_call (X := Bk _ _ b) c_plus (hr.mono (by decide)) rfl (ac (nm 10 (dmm (a1 (nm 11 (dmm ⟨_, _, rfl, (hP k i).sm (by decide), (hS k i).sm (by decide), rfl, rfl⟩))))))
    · rw [List.range_succ (n := k), List.map_append (l₁ := List.range k)]
      rfl
  · rintro ρ μ ⟨⟨o6, o7, o8, o9, o10, o11, rfl⟩, rfl⟩
    rw [List.length_map, List.length_range]
    refine ds_frzL (n := 0) ((List.range f.mb.length).map fun m => .list (eD (fixA f pu st m) 6)) rfl (by simp) ?_
    refine ds_ret (ixT (dm_call c_response hr rfl (ac (nm 0 (dmm (ac (nm 1 (dmm (ac (ixT (nm 2 ⟨_, _, rfl, rfl, dmm (ac (nz 5 (dmm (a1 (dm_call c_am (hr.mono (by decide)) rfl (a1 (nm 3 (dmm ⟨gv, rfl, hnd, hR.gl, dmm ?_⟩))))))))⟩)))))))))))
    exact resp_of hR fun d u hS => ⟨_, _, rfl, rfl, _, rfl, hG u hS⟩
end
end BW

namespace BW
open PySem PySem.Spec PyProof.Rows L2
/-! ### defs that change their caller's own list, the first argument -/
/-- the law's row: the script, how many have been taken, the seed, what is left -/
def Row (rs : List Rv) : Prop := ∃ (sc : List Int) (i s b : Int), rs = [.dat (.list (sc.map .int)), .dat (.int i), .dat (.int s), .dat (.int b)] ∧ sc.length ≤ 1000 ∧ 0 ≤ i ∧ 0 ≤ s ∧ s < 2147483648
theorem Row.dat {rs : List Rv} (h : Row rs) : ∀ r ∈ rs, ∃ d, r = .dat d := by
  obtain ⟨sc, i, s, b, rfl, _⟩ := h
  intro r hr
  simp at hr
  rcases hr with rfl | rfl | rfl | rfl <;> exact ⟨_, rfl⟩
def RowSp (K : PySem.W.Frag) (A : Tf) : Sp := fun vs H Q _ => ∃ (R F : Hp) (a : Addr) (ws vs' : List V) (rs : List Rv) (ds : List PyData) (G : PyData → Prop), vs = .ref a :: vs' ∧ H a = some (.lst ws) ∧ F a = none ∧ R a = none ∧ Same R H ∧ Same F H ∧ (∀ a, R a = none ∨ nT (F a)) ∧ Row rs ∧ Paired (ROk K F []) ws rs ∧ RpA K F vs' ds ∧ A ds G ∧
  ∀ v F' H' d ws' rs', Same R H' → Same F F' → Same F' H' → (∀ a, R a = none ∨ nT (F' a)) → F' a = none → H' a = some (.lst ws') → Row rs' → Paired (ROk K F' []) ws' rs' → Rp K F' v d → G d → Q v H'
theorem row_pair {K : PySem.W.Frag} {F : Hp} {as as' : List Addr} {ws : List V} {rs : List Rv} (h : Row rs) (p : Paired (ROk K F as) ws rs) : Paired (ROk K F as') ws rs := by
  have hd := h.dat
  clear h
  induction p with
  | nil => exact .nil
  | @cons v r vs rs h t ih =>
    refine .cons ?_ (ih fun r hr => hd r (List.mem_cons_of_mem _ hr))
    obtain ⟨d, rfl⟩ := hd r (List.mem_cons_self ..)
    exact h
section
variable {X : Cx} {ρ : Rho} {μ : Mu} {P : PR} {e : Expr} {es : List Expr} {x : Str} {p pos : Pos} {k : Nat} {ps : List Str} {A : Tf}
theorem call_row {R F H : Hp} {as : List Addr} {σ : L2.St} {v0 : V} {vs : List V} {ds : List PyData} {n : Nat} {rs : List Rv} {Q : VK} {E : XK} {K : PySem.W.Frag} (S : Sta K R F H as σ ρ μ) (ok : ROk K F as v0 (.own n)) (hn : μ[n]? = some (.L rs)) (hrow : Row rs) (r : RpA K F vs ds) (h : A ds fun d => ∀ rs', Row rs' → P (μ.set n (.L rs')) (.dat d)) (q : Post K R F as σ ρ P Q) : RowSp K A (v0 :: vs) H Q E := by
  obtain ⟨a, ha, rfl⟩ := ok
  obtain ⟨ws0, g1, g2, g3, g4⟩ := S.cel n a _ ha hn
  have haa : a ∈ as := List.mem_of_getElem? ha
  refine ⟨fun b => if b ∈ as ∧ F b = none ∧ b ≠ a then H b else R b, F, a, ws0, vs, rs, ds, _, rfl, g1, g2, ?_, fun b o h => ?_, S.fh, fun b => ?_, hrow, row_pair hrow g4, r, h, fun v F' H' d ws' rs' h1 h2 h3 h4 ha1 ha2 hrow' hp' h5 h6 => ?_⟩
  · show (if a ∈ as ∧ F a = none ∧ a ≠ a then H a else R a) = none
    rw [if_neg (fun z => z.2.2 rfl)]
    exact g3
  · by_cases c : b ∈ as ∧ F b = none ∧ b ≠ a
    · have h' : (if b ∈ as ∧ F b = none ∧ b ≠ a then H b else R b) = some o := h
      rw [if_pos c] at h'
      exact h'
    · have h' : (if b ∈ as ∧ F b = none ∧ b ≠ a then H b else R b) = some o := h
      rw [if_neg c] at h'
      exact S.rh b o h'
  · show (if b ∈ as ∧ F b = none ∧ b ≠ a then H b else R b) = none ∨ nT (F b)
    by_cases c : b ∈ as ∧ F b = none ∧ b ≠ a
    · exact .inr (.inl c.2.1)
    · rw [if_neg c]
      exact S.dj b
  · have rh : Same R H' := fun b o e => by
      refine h1 b o ?_
      show (if b ∈ as ∧ F b = none ∧ b ≠ a then H b else R b) = some o
      by_cases c : b ∈ as ∧ F b = none ∧ b ≠ a
      · rw [if_pos c]
        exact S.rh b o e
      · rw [if_neg c]
        exact e
    have dj : ∀ b, R b = none ∨ nT (F' b) := fun b => by
      have z : (if b ∈ as ∧ F b = none ∧ b ≠ a then H b else R b) = none ∨ nT (F' b) := h4 b
      rcases z with z | z
      · by_cases c : b ∈ as ∧ F b = none ∧ b ≠ a
        · rw [if_pos c] at z
          exact .inl (fresh_of S.rh z)
        · rw [if_neg c] at z
          exact .inl z
      · exact .inr z
    have hnl : n < μ.length := by rw [← S.len]; exact (List.getElem?_eq_some_iff.mp ha).1
    refine q v F' H' as (μ.set n (.L rs')) (.dat d) ⟨rh, h3, dj, S.nd, by rw [List.length_set]; exact S.len, fun m b c e1 e2 => ?_, fun i r' e => ?_, S.sl⟩ ⟨h2, List.prefix_refl _⟩ h5 (h6 rs' hrow')
    · by_cases hm : m = n
      · subst hm
        rw [ha] at e1
        cases e1
        rw [List.getElem?_set_self hnl] at e2
        cases e2
        exact ⟨ws', ha2, ha1, g3, row_pair hrow' hp'⟩
      rw [List.getElem?_set_ne (Ne.symm hm)] at e2
      have hba : b ≠ a := fun z => by
        subst z
        exact hm (nd_ix S.nd e1 ha)
      have hc := S.cel m b c e1 e2
      have hb : b ∈ as := List.mem_of_getElem? e1
      have stay : F b = none → (∀ o, H b = some o → H' b = some o) ∧ (H b ≠ none → (∀ xs, H b ≠ some (.tup xs)) → F' b = none) := fun hF => by
        have e3 : (if b ∈ as ∧ F b = none ∧ b ≠ a then H b else R b) = H b := if_pos ⟨hb, hF, hba⟩
        have go : ∀ o, H b = some o → H' b = some o := fun o ho => h1 b o (by show (if b ∈ as ∧ F b = none ∧ b ≠ a then H b else R b) = some o; rw [e3]; exact ho)
        refine ⟨fun o ho => go o ho, fun hn ht => ?_⟩
        have z : (if b ∈ as ∧ F b = none ∧ b ≠ a then H b else R b) = none ∨ nT (F' b) := h4 b
        rw [e3] at z
        rcases z.resolve_left hn with z | ⟨xs, z⟩
        · exact z
        · exfalso
          have z2 := h3 b _ z
          cases q : H b with
          | none => exact hn q
          | some o =>
            rw [go o q] at z2
            cases z2
            exact ht xs q
      cases c with
      | L rs =>
        obtain ⟨ws, g1, g2, g3, g4⟩ := hc
        have st := stay g2
        exact ⟨ws, st.1 _ g1, st.2 (by rw [g1]; exact fun z => nomatch z) (by rw [g1]; exact fun _ z => nomatch z), g3, Paired.mapP g4 fun _ _ z => z.mono (Gw.of h2) (List.prefix_refl _)⟩
      | M kvs =>
        obtain ⟨ws, g1, g2, g3, g4⟩ := hc
        have st := stay g2
        exact ⟨ws, st.1 _ g1, st.2 (by rw [g1]; exact fun z => nomatch z) (by rw [g1]; exact fun _ z => nomatch z), g3, Paired.mapP g4 fun _ _ z => ⟨z.1, z.2.mono (Gw.of h2) (List.prefix_refl _)⟩⟩
      | Q od vs kvs =>
        obtain ⟨g1, g2, g3, g4⟩ := hc
        have st := stay g2
        exact ⟨st.1 _ g1, st.2 (by rw [g1]; exact fun z => nomatch z) (by rw [g1]; exact fun _ z => nomatch z), g3, Paired.mapP g4 fun _ _ z => ⟨z.1, z.2.mono (Gw.of h2) (List.prefix_refl _)⟩⟩
      | Z d =>
        obtain ⟨g1, g2⟩ := hc
        exact ⟨fun z => g1 (fresh_of h2 z), g2.mono (Gw.of h2)⟩
    · obtain ⟨v, e1, e2⟩ := S.slt i r' e
      exact ⟨v, e1, e2.mono (Gw.of h2) (List.prefix_refl _)⟩
/-- f(row, ..) -/
theorem dm_callR (C : Can X.prog X.w X.K X.mg X.base x k ps (RowSp X.K A)) (hr : Room k X.A) (hg : Gl X x) (h : Am X ρ μ (e :: es) fun μ1 rs => ∃ n ds cs, rs = .own n :: ds.map Rv.dat ∧ μ1[n]? = some (.L cs) ∧ Row cs ∧ A ds fun d => ∀ cs', Row cs' → P (μ1.set n (.L cs')) (.dat d)) (hdb : (x == ("__debug__" : Str)) = false := by decide)
    (he : starEach (e :: es) X.env = (false, eval e X.env) :: starEach es X.env := by rfl) (hpl : (backTo pos (starEach es X.env)).any (·.1) = false := by rfl) (hx : X.xe = fun _ _ => False := by rfl) : Dm X ρ μ (.Call (.Name x p) (e :: es) [] pos) P := fun R F H as σ S Q q => by
  obtain ⟨f, fd, G, hm, hk, hb⟩ := C.ex
  refine We.of (pe_call G hr hg hm hk hb .nil pass0 (Wa.pa X (e :: es)) hdb he hpl) ?_
  refine h R F H as σ S _ fun vs F1 H1 as1 μ1 rs S1 x1 o1 h1 => ?_
  obtain ⟨n, ds, cs, rfl, hn, hrow, h1⟩ := h1
  rw [List.append_nil]
  cases o1 with
  | cons o1 o2 => exact call_row S1 o1 hn hrow (rpA_of o2) h1 (q.ext x1)
end
/-- what a body is to give -/
abbrev retR (G : PyData → Prop) : Jm := { nx := fun _ _ => False, rt := fun μ r => ∃ d, r = .dat d ∧ G d ∧ ∃ rs, μ[0]? = some (.L rs) ∧ Row rs }
theorem row_fn {P : Program} {w : World} {K : PySem.W.Frag} {mg : Str → Option Value} {base : Heap} {x qual : Str} {params : Arguments} {body : List Stmt} {scope : Scope} {f : Addr} {fd : FuncData} {N ps : List Str} {k : Nat} {T : Tf} (F : FunD K x qual params body scope [] [] f fd) (S : FnScope N ps scope)
    (hT : ∀ ds G, T ds G → ds.length + 1 = ps.length)
    (hbody : ∀ (cdv : Value) (A : Around) (outer : List Env) (s : Shared) (H : Hp) (E : XK), Room k (A.deeper (envOfC qual scope s.heap.objs.size f cdv)) → ∀ ds G rs, Row rs → T ds G →
      Ds (XOf P w K mg base N qual scope f cdv A outer s H E) (some (.own 0) :: ds.map (fun d => some (Rv.dat d)) ++ List.replicate (N.length - (ds.length + 1)) none) [.L rs] body (retR G)) : FnOk P w K mg base CX0 (k + 1) f fd ps (RowSp K T) := by
  refine F.ok S (fun vs H Q E h => ?_) fun cdv A outer s H vs Q E hr h => ?_
  · obtain ⟨R, F, a, ws, vs', rs, ds, G, rfl, _, _, _, _, _, _, _, _, r, hA, _⟩ := h
    rw [List.length_cons, r.length]
    exact hT ds G hA
  · obtain ⟨R, F, a, ws, vs', rs, ds, G, rfl, ha1, ha2, ha3, h1, h2, h3, hrow, hp, r, hA, hQ⟩ := h
    refine ⟨_, PSs.nox (Wb.ps _ _), ?_⟩
    have hl : L2.start N (.ref a :: vs') = some (.ref a) :: vs'.map some ++ List.replicate (N.length - (ds.length + 1)) none := by
      unfold L2.start
      rw [List.length_cons, r.length]
      rfl
    rw [hl]
    refine hbody cdv A outer s H E hr ds G rs hrow hA R F H [a] _ ⟨h1, h2, h3, by simp, rfl, fun n b c e1 e2 => ?_, fun i q e => ?_, ?_⟩ _ ⟨?_, ?_, ?_, ?_⟩
    · cases n with
      | zero =>
        cases e1
        cases e2
        exact ⟨ws, ha1, ha2, ha3, row_pair hrow hp⟩
      | succ n => simp at e1
    · cases i with
      | zero =>
        cases e
        exact ⟨.ref a, rfl, a, rfl, rfl⟩
      | succ i => exact rho_args r i q e
    · simp [r.length]
    · intro σ' F' H' as' ρ' μ' S' x' g
      exact g.elim
    · rintro v F' H' as' σ' ρ' μ' r' S' x' o ⟨d, rfl, g, rs', hm, hrow'⟩
      have ha : as'[0]? = some a := pre_get x'.p rfl
      obtain ⟨ws', g1, g2, g3, g4⟩ := S'.cel 0 a _ ha hm
      exact hQ v F' H' d ws' rs' S'.rh x'.f S'.fh S'.dj g2 g1 hrow' (row_pair hrow' g4) o g
    · intro σ' F' H' as' ρ' μ' S' x' g
      exact g.elim
    · intro σ' F' H' as' ρ' μ' S' x' g
      exact g.elim
section
variable {P : Program} {w : World} {K : PySem.W.Frag} {mg : Str → Option Value} {base : Heap}
theorem can_row {x : Str} {st : Nat} {N ps : List Str} {k : Nat} {A : Tf} (i : Nat) (T : Txt K mg) (S : FnScope N ps (defScope (top st)))
    (hb : ∀ (kV doc pm : Value) (an : Option Addr) (cdv ct : Value) (us : List Value), us.length = ps.length → bindArgs (PySem.W.fnOf x x (defArgs (top st)) (defBody (top st)) (defScope (top st)) .none kV doc pm an cdv ct) ⟨us, []⟩ = pure (ps.zip us))
    (hT : ∀ ds G, A ds G → ds.length + 1 = ps.length)
    (hbody : ∀ (f : Addr) (cdv : Value) (B : Around) (outer : List Env) (s : Shared) (H : Hp) (E : XK), Room k (B.deeper (envOfC x (defScope (top st)) s.heap.objs.size f cdv)) → ∀ ds G rs, Row rs → A ds G →
      Ds (XOf P w K mg base N x (defScope (top st)) f cdv B outer s H E) (some (.own 0) :: ds.map (fun d => some (Rv.dat d)) ++ List.replicate (N.length - (ds.length + 1)) none) [.L rs] (defBody (top st)) (retR G)) (hi : fn[i]? = some (dOf x st) := by rfl) : Can P w K mg base x (k + 1) ps (RowSp K A) := by
  obtain ⟨fd, F⟩ := T.df i _ hi
  exact ⟨_, fd, row_fn F S hT fun cdv B outer s H E hr ds G rs hR hA => hbody _ cdv B outer s H E hr ds G rs hR hA, T.gl i _ hi, F.kp, F.bindsN hb⟩
end
/-! ### keys that are written as tuples -/
section
variable {X : Cx} {ρ : Rho} {μ : Mu} {a b c e f tg o i : Expr} {es : List Expr} {x : Str} {p pos : Pos} {J : Jm} {rest : List Stmt} {P : PR}
theorem keyV {K : PySem.W.Frag} {F : Hp} {as : List Addr} {vs : List V} {k : List Key} (h : Paired (ROk K F as) vs ((k.map kD).map Rv.dat)) : vs = k.map kV := rpA_key (rpA_of h)
theorem tm_dinT {kk : Nat} {pt : Pos} {f : Mu → Bool → Prop} (hu : X.A.units + 1 < cLine) (h : Am X ρ μ es fun μ1 rs => ∃ k : List Key, rs = (k.map kD).map Rv.dat ∧ k.length ≤ 1000 ∧ Dm X ρ μ1 o fun μ2 r2 => ∃ kvs, DctR μ2 r2 kvs ∧ f μ2 (lk kvs k).isSome) (hm : behindInMarks .In o = false := by rfl) : Tm X ρ μ (.Compare (.Tuple es kk pt) [.In] [o] pos) f := fun R F H as σ S Q q => by
  refine Wt.of (pt_cmp (pc_din hu (pe_tup (Wa.pa X es)) (We.pe X o)) hm) ?_
  refine h R F H as σ S _ fun vs F1 H1 as1 μ1 rs S1 x1 o1 h1 => ?_
  obtain ⟨k, rfl, hl, h1⟩ := h1
  obtain rfl := keyV o1
  refine ⟨Nat.le_of_lt (small1000 (by rw [List.length_map]; exact hl)), fun p hp => ?_⟩
  have x1' := x1.trans ⟨same_upd (fresh_of S1.fh hp) (o := .tup (k.map kV)), List.prefix_refl _⟩
  refine h1 R _ _ as1 σ (S1.laid hp (.tup (k.map kV))) _ fun w F2 H2 as2 μ2 r2 S2 x2 o2 h2 => ?_
  obtain ⟨kvs, hd, h2⟩ := h2
  obtain ⟨a, ws, rfl, g1, g2⟩ := hd.rd S2 o2
  have hb : F2 p = some (.tup (k.map kV)) := x2.f _ _ upd_same
  refine ⟨a, valV ws k, rfl, dget_of g1 (S2.fh _ _ hb), _, rfl, ?_⟩
  have e : (valV ws k).isSome = (lk kvs k).isSome := by
    rcases lk_pair (k := k) g2 with ⟨e1, e2⟩ | ⟨u, d, e1, e2, e3⟩
    · rw [e1, e2]
      rfl
    · rw [e1, e2]
      rfl
  rw [e]
  exact q _ F2 H2 as2 μ2 S2 (x1'.trans x2) h2
theorem ds_dputT {p2 pt : Pos} {kk : Nat} (hu : X.A.units + 1 < cLine) (h : Dm X ρ μ e fun μ1 r0 => Dm X ρ μ1 o fun μ2 r1 => Am X ρ μ2 es fun μ3 rs => ∃ n k kvs, r1 = .own n ∧ rs = (k.map kD).map Rv.dat ∧ k.length ≤ 1000 ∧ μ3[n]? = some (.M kvs) ∧ kvs.length ≤ 1000 ∧ Ds X ρ (μ3.set n (.M (pk kvs k r0))) rest J)
    (hs : swapsWith e (some (.Subscript o (.Tuple es kk pt) p2)) pos.line X.env = pure false := by rfl) : Ds X ρ μ (.Assign [.Subscript o (.Tuple es kk pt) p2] e pos :: rest) J :=
  ds_cons_of (ps_dput hu (We.pe X o) (pe_tup (Wa.pa X es)) (We.pe X e) hs) fun R F H as σ S D j => by
    refine h R F H as σ S _ fun v F1 H1 as1 μ1 r0 S1 x1 o1 h1 => ?_
    refine h1 R F1 H1 as1 σ S1 _ fun w F2 H2 as2 μ2 r1 S2 x2 o2 h2 => ?_
    refine h2 R F2 H2 as2 σ S2 _ fun us F3 H3 as3 μ3 rs S3 x3 o3 h3 => ?_
    obtain ⟨n, k, kvs, rfl, rfl, hl1, hn, hl, h3⟩ := h3
    obtain rfl := keyV o3
    refine ⟨Nat.le_of_lt (small1000 (by rw [List.length_map]; exact hl1)), fun p hp => ?_⟩
    have S4 := S3.laid hp (.tup (k.map kV))
    have x4 : Ext F3 as3 (upd F3 p (.tup (k.map kV))) as3 := ⟨same_upd (fresh_of S3.fh hp), List.prefix_refl _⟩
    obtain ⟨a, ha, rfl⟩ := (o2.ext x3).ext x4
    obtain ⟨ws, e1, e2, e3, e4⟩ := S4.cel n a _ ha hn
    have hp : KP (ROk X.K _ as3) ws kvs := e4
    refine ⟨a, _, rfl, .inr ⟨ws, k, p, e1, rfl, upd_same, small1000 (by rw [kp_len hp]; exact hl), rfl⟩, ?_⟩
    exact h3 R _ _ as3 σ (S4.set ha e2 e3 ⟨_, upd_same, e2, e3, pk_pair hp (((o1.ext x2).ext x3).ext x4)⟩) D (j.ext (((x1.trans x2).trans x3).trans x4))
end
end BW

namespace BW
open PySem PySem.Spec PyProof.Rows L2
section
variable {X : Cx} {ρ : Rho} {μ : Mu} {a b c e f tg o i : Expr} {es : List Expr} {x : Str} {p pos : Pos} {J : Jm} {rest : List Stmt} {Q : PR}
/-- x[i] of a list of our own, the index written -/
theorem ixO {i : Int} {j} {ip : Pos} (h : Dm X ρ μ a fun μ1 r => ∃ n rs d, r = .own n ∧ μ1[n]? = some (.L rs) ∧ atI rs i = some d ∧ Q μ1 d) : Dm X ρ μ (.Subscript a (.Constant (.int i) j ip) pos) Q :=
  dm_ix (h.imp fun _ _ ⟨_, _, _, e, h0, h1, h2⟩ => by subst e; exact dm_int (im (ixp_o h0 h1 h2)))
end
section
variable {P : Program} {w : World} {K : PySem.W.Frag} {mg : Str → Option Value} {base : Heap}
def tf_taken : Tf := fun ds G => ∃ m : Int, ds = [.int m] ∧ 0 < m ∧ ∀ t, 0 ≤ t → t < m → G (.int t)
theorem can_taken (T : Txt K mg) (z : Seer K mg) (ht : P.given.tree = none) : Can P w K mg base "_law_taken" 41 p_law_taken (RowSp K tf_taken) := by
  refine can_row 62 T sc_law_taken (fun _ _ _ _ _ _ us hl => match us, hl with | [_, _], _ => rfl) (fun ds G h => by obtain ⟨m, rfl, _⟩ := h; rfl) fun fa cdv B outer s H E hr ds G rs hrow h => ?_
  obtain ⟨m, rfl, hm, hG⟩ := h
  obtain ⟨sc, i, sd, b, rfl, hsc, hi, hs0, hs1⟩ := hrow
  have hd : (B.deeper (envOfC "_law_taken" (defScope (top 88)) s.heap.objs.size fa cdv)).depth + 100 < recursionLimit := by
    have := hr.dp
    omega
  have hmod : ∀ v : Int, G (.int (v % m)) := fun v => hG _ (Int.emod_nonneg v (by omega)) (Int.emod_lt_of_pos v hm)
  have hm0 : m ≠ 0 := by omega
  have hseed : ∀ v : Int, 0 ≤ v % 2147483647 ∧ v % 2147483647 < 2147483648 := fun v => ⟨Int.emod_nonneg v (by decide), Int.lt_trans (Int.emod_lt_of_pos v (by decide)) (by decide)⟩
  have hsm : CMulB sd 48271 := CMulB.of (a := 31) (b := 16) (by omega) (by decide) (by decide)
  refine ds_if (tm_cmp op_gt (nomark _) (ixO (nm 0 ⟨0, _, _, rfl, rfl, rfl, dm_int (opd_B0 (bm ⟨fun hk => ?_, fun hk => ?_⟩))⟩)))
  · refine ds_asg (dm_bin op_mod (dm_int1 rfl T.b_int (ixO (nm 0 ⟨0, _, _, rfl, rfl, rfl, dmm (nm 1 (opd_I hm (gm_name sc_law_taken.nd (i := 2) rfl ?_)))⟩))))
    refine ds_asg (dm_bin (op_fdivP z ht (l := outer) rfl rfl rfl hd) (ixO (nm 0 ⟨0, _, _, rfl, rfl, rfl, nm 1 (opd_I hm0 (gm_of_j (js := []) (gj_sub (nm 0 (dm_int (im ⟨0, _, 3, rfl, rfl, rfl, ?_⟩))))))⟩)))
    exact ds_ret (nm 2 ⟨_, rfl, hmod b, _, rfl, sc, i, sd, _, rfl, hsc, hi, hs0, hs1⟩)
  refine ds_nil (ds_asg (dm_bin op_add (ixO (nm 0 ⟨0, _, _, rfl, rfl, rfl, dm_int (opd_I0 (gm_of_j (js := []) (gj_sub (nm 0 (dm_int (im ⟨0, _, 1, rfl, rfl, rfl, ?_⟩))))))⟩))))
  refine ds_if (tm_cmp op_gt (nomark _) (ixO (nm 0 ⟨0, _, _, rfl, rfl, rfl, dm_len rfl T.b_len (ixO (nm 0 ⟨0, _, _, rfl, rfl, rfl, _, .dat rfl, opd_B0 (bm ⟨fun hk2 => ?_, fun hk2 => ?_⟩)⟩))⟩)))
  · refine ds_asg (dm_bin op_mod (dm_int1 rfl T.b_int (dm_bin op_add (dm_bin op_mulB (ixO (nm 0 ⟨0, _, _, rfl, rfl, rfl, dm_int (opd_I hsm (dm_int (opd_I0 (dmm (dm_int (opd_I (by decide) (gm_of_j (js := []) (gj_sub (nm 0 (dm_int (im ⟨0, _, 2, rfl, rfl, rfl, ?_⟩)))))))))))⟩))))))
    exact ds_ret (dm_bin op_mod (dm_int1 rfl T.b_int (dm_bin (op_fdivP z ht (l := outer) rfl rfl rfl hd) (ixO (nm 0 ⟨0, _, _, rfl, rfl, rfl, dm_int (opd_I (by decide) (dmm (nm 1 (opd_I hm ⟨_, rfl, hmod _, _, rfl, sc, _, _, b, rfl, hsc, by omega, (hseed _).1, (hseed _).2⟩))))⟩)))))
  refine ds_nil ?_
  have hlen : i + 1 ≤ (sc.length : Int) := by
    simp at hk2
    omega
  have hix : i.toNat < sc.length := by omega
  have hat : atI (sc.map PyData.int) (i + 1 - 1) = some (.int sc[i.toNat]) := by
    rw [show i + 1 - 1 = ((i.toNat : Nat) : Int) by omega]
    exact atI_map (List.getElem?_eq_getElem hix)
  generalize sc[i.toNat] = cell at hat
  refine ds_asg (ixE (ixO (nm 0 ⟨0, _, _, rfl, rfl, rfl, dm_bin op_sub (ixO (nm 0 ⟨0, _, _, rfl, rfl, rfl, dm_int (opd_I0 (im ⟨_, _, .inr rfl, hat, gm_name sc_law_taken.nd (i := 3) rfl ?_⟩))⟩))⟩)))
  refine ds_asg (dm_bin op_mod (dm_int1 rfl T.b_int (dm_bin op_add (dm_bin op_add (dm_bin op_mulB (ixO (nm 0 ⟨0, _, _, rfl, rfl, rfl, dm_int (opd_I hsm (nm 3 (opd_I0 (dm_int (opd_I0 (dmm (dm_int (opd_I (by decide) (gm_of_j (js := []) (gj_sub (nm 0 (dm_int (im ⟨0, _, 2, rfl, rfl, rfl, ?_⟩)))))))))))))⟩)))))))
  refine ds_if (tm_cmp op_ge (nomark _) (nm 3 (dm_bin op_pow (dm_int (dm_int (opd_I ⟨by decide, by decide, by decide⟩ (opd_B0 (bm ⟨fun hk3 => ?_, fun hk3 => ?_⟩))))))))
  · refine ds_asg (dm_bin (op_fdivP z ht (l := outer) rfl rfl rfl hd) (nm 3 (nm 1 (opd_I hm0 (gm_of_j (js := []) (gj_sub (nm 0 (dm_int (im ⟨0, _, 3, rfl, rfl, rfl, ?_⟩)))))))))
    refine ds_nil ?_
    refine ds_ret (dm_bin op_mod (dm_int1 rfl T.b_int (nm 3 (dmm ?_))))
    exact nm 1 (opd_I hm ⟨_, rfl, hmod _, _, rfl, sc, _, _, _, rfl, hsc, by omega, (hseed _).1, (hseed _).2⟩)
  · refine ds_nil ?_
    refine ds_ret (dm_bin op_mod (dm_int1 rfl T.b_int (nm 3 (dmm ?_))))
    exact nm 1 (opd_I hm ⟨_, rfl, hmod _, _, rfl, sc, _, _, _, rfl, hsc, by omega, (hseed _).1, (hseed _).2⟩)
end
end BW

namespace BW
open PySem PySem.Spec PyProof.Rows L2
section
variable {X : Cx} {ρ : Rho} {μ : Mu} {a b c e f tg o i : Expr} {es : List Expr} {x : Str} {p pos : Pos} {J : Jm} {rest : List Stmt} {Q : PR}
theorem kit_any2 {K : PySem.W.Frag} {t a b : String} {r s : Bool} (h1 : kitB t a = some r) (h2 : kitB t b = some s) : PySem.W.kitAny K (.type t) [.type a, .type b] = some (r || s) :=
  kitAny_cons (kit_ty h1) (fun e => kitAny_cons (kit_ty h2) (fun e2 => by subst e e2; rfl) (fun e2 => by subst e e2; rfl)) (fun e => by subst e; rfl)
/-- isinstance(a, (A, B)) -/
theorem dm_isiT {A B : String} {y z : Str} {py pz pt : Pos} {kk : Nat} (hg : Gl X "isinstance") (hm : X.mg "isinstance" = none) (hgA : Gl X y) (hmA : X.mg y = none) (hvA : bootBuiltins y = some (.type A)) (hgB : Gl X z) (hmB : X.mg z = none) (hvB : bootBuiltins z = some (.type B))
    (h : Dm X ρ μ a (DatP fun μ1 d => noD d = true ∧ ∃ k1 k2, kitB (dTy d) A = some k1 ∧ kitB (dTy d) B = some k2 ∧ Q μ1 (.dat (.bool (k1 || k2)))))
    (hs : starEach [a, .Tuple [.Name y py, .Name z pz] kk pt] X.env = (false, eval a X.env) :: starEach [.Tuple [.Name y py, .Name z pz] kk pt] X.env := by rfl) (hs2 : starEach [.Tuple [.Name y py, .Name z pz] kk pt] X.env = (false, eval (.Tuple [.Name y py, .Name z pz] kk pt) X.env) :: starEach [] X.env := by rfl) (hpl : (backTo pos (starEach [.Tuple [.Name y py, .Name z pz] kk pt] X.env)).any (·.1) = false := by rfl)
    (hs3 : starEach [.Name y py, .Name z pz] X.env = (false, eval (.Name y py) X.env) :: starEach [.Name z pz] X.env := by rfl) (hs4 : starEach [.Name z pz] X.env = (false, eval (.Name z pz) X.env) :: starEach [] X.env := by rfl)
    (hn : y ≠ "__name__" := by decide) (hb : (y == ("__debug__" : Str)) = false := by decide) (hn2 : z ≠ "__name__" := by decide) (hb2 : (z == ("__debug__" : Str)) = false := by decide) : Dm X ρ μ (.Call (.Name "isinstance" p) [a, .Tuple [.Name y py, .Name z pz] kk pt] [] pos) Q := fun R F H as σ S Q' q => by
  refine We.of (pe_callB call_isiT hg hm (by decide +kernel) (pa_cons (We.pe X a) (pa_cons (pe_tup (Wa.pa X [.Name y py, .Name z pz])) pa_nil hs2) hs) (by decide) (by decide) hs hpl) ?_
  refine h R F H as σ S _ fun v F1 H1 as1 μ1 r S1 x1 o1 ⟨d, er, hd, k1, k2, e1, e2, h1⟩ => ?_
  subst er
  refine (am_cons (P := fun μ2 rs => μ2 = μ1 ∧ rs = [.raw (.ty A), .raw (.ty B)]) (dm_blt (v := .ty A) hgA hmA hvA rfl (am_cons (dm_blt (v := .ty B) hgB hmB hvB rfl (am_nil ⟨rfl, rfl⟩) hn2 hb2) hs4) hn hb) hs3) R F1 H1 as1 σ S1 _ fun vs F2 H2 as2 μ2 rs S2 x2 o2 ⟨er, es⟩ => ?_
  subst er es
  obtain ⟨v1, v2, rfl, g1, g2⟩ := paired2 o2
  obtain rfl : v1 = .ty A := g1
  obtain rfl : v2 = .ty B := g2
  refine ⟨Nat.le_of_lt (small1000 (show 2 ≤ 1000 by decide)), fun p hp => ?_⟩
  have S3 := S2.laid hp (.tup [.ty A, .ty B])
  have x3 : Ext F2 as2 (upd F2 p (.tup [.ty A, .ty B])) as2 := ⟨same_upd (fresh_of S2.fh hp), List.prefix_refl _⟩
  have o3 : Rp X.K (upd F2 p (.tup [.ty A, .ty B])) v d := (o1.ext x2).ext x3
  exact ⟨v, p, [.ty A, .ty B], _, [.type A, .type B], _, rfl, upd_same, .cons (.ty A) (.cons (.ty B) .nil), tyx S3.fh o3 hd, kit_any2 e1 e2, q _ _ _ as2 _ (.dat (.bool _)) S3 ((x1.trans x2).trans x3) (okD (.bl _)) h1⟩
theorem opd_isN {j : Int} (h : Q μ (.dat (.bool false))) : OpD X ρ (fun x y H Q => y = .non ∧ Q (.bl (decide (x = .non))) H) μ (.dat (.int j)) (.dat .none) Q := fun R F H as σ y z S o1 o2 Q' q => by
  obtain rfl := Rp.intE o1
  cases o2
  exact ⟨rfl, q _ F H as μ (.dat (.bool _)) S (Ext.refl F as) (okD (.bl _)) h⟩
end
section
variable {P : Program} {w : World} {K : PySem.W.Frag} {mg : Str → Option Value} {base : Heap}
def tf_pick : Tf := fun ds G => ∃ es : List PyData, ds = [.list es] ∧ es ≠ [] ∧ ∀ (i : Nat) (d : PyData), es[i]? = some d → G d
theorem can_pick (T : Txt K mg) (c_taken : Can P w K mg base "_law_taken" 41 p_law_taken (RowSp K tf_taken)) : Can P w K mg base "_law_pick" 42 p_law_pick (RowSp K tf_pick) := by
  refine can_row 63 T sc_law_pick (fun _ _ _ _ _ _ us hl => match us, hl with | [_, _], _ => rfl) (fun ds G h => by obtain ⟨m, rfl, _⟩ := h; rfl) fun fa cdv B outer s H E hr ds G rs hrow h => ?_
  obtain ⟨es, rfl, hne, hG⟩ := h
  refine ds_ret (ixE (nm 1 (dm_callR c_taken hr rfl (am_cons (nm 0 (am_cons (dm_len rfl T.b_len (nm 1 ⟨_, .dat rfl, am_nil ⟨0, [.int _], _, rfl, rfl, hrow, _, rfl, ?_, fun t t0 t1 cs' hcs => ?_⟩⟩))))))))
  · have : 0 < es.length := List.length_pos_iff.mpr hne
    simp
    omega
  · rw [List.length_map] at t1
    have ht : t.toNat < es.length := by omega
    have e : atI es t = some es[t.toNat] := by
      have e : t = ((t.toNat : Nat) : Int) := by omega
      have := atI_nat (List.getElem?_eq_getElem ht)
      rw [← e] at this
      exact this
    exact im ⟨es, _, .inr rfl, e, _, rfl, hG t.toNat _ (List.getElem?_eq_getElem ht), _, rfl, hcs⟩
def tf_signed : Tf := fun ds G => ∃ m : Int, ds = [.int m] ∧ 0 ≤ m ∧ m < 1000000 ∧ ∀ t, -m ≤ t → t ≤ m → G (.int t)
theorem can_signed (T : Txt K mg) (c_taken : Can P w K mg base "_law_taken" 41 p_law_taken (RowSp K tf_taken)) : Can P w K mg base "_law_signed" 42 p_law_signed (RowSp K tf_signed) := by
  refine can_row 64 T sc_law_signed (fun _ _ _ _ _ _ us hl => match us, hl with | [_, _], _ => rfl) (fun ds G h => by obtain ⟨m, rfl, _⟩ := h; rfl) fun fa cdv B outer s H E hr ds G rs hrow h => ?_
  obtain ⟨m, rfl, h0, h1, hG⟩ := h
  have hcm : CMulB 2 m := CMulB.of (a := 3) (b := 20) (by decide) (by omega) (by decide)
  refine ds_ret (dm_bin op_sub (dm_callR c_taken hr rfl (am_cons (nm 0 (am_cons (dm_bin op_add (dm_bin op_mulB (dm_int (nm 1 (opd_I hcm (dm_int (opd_I0 (am_nil ⟨0, [.int _], _, rfl, rfl, hrow, _, rfl, ?_, fun t t0 t1 cs' hcs => nm 1 (opd_I0 ⟨_, rfl, hG _ ?_ ?_, _, rfl, hcs⟩)⟩)))))))))))))
  all_goals omega
def tf_lgcd : Tf := fun ds G => ∃ m n : Int, ds = [.int m, .int n] ∧ 0 ≤ m ∧ 0 ≤ n ∧ G (.int (Int.gcd m n))
theorem can_lgcd (T : Txt K mg) : Can P w K mg base "_law_gcd" 1 p_law_gcd (PureSp K tf_lgcd) := by
  refine can_pure 66 T sc_law_gcd (fun _ _ _ _ _ _ us hl => match us, hl with | [_, _], _ => rfl) (fun ds G h => by obtain ⟨m, n, rfl, _⟩ := h; rfl) fun f cdv B outer s H E hr ds G h => ?_
  obtain ⟨m, n, rfl, hm, hn, hG⟩ := h
  refine ds_while PassesOwn.never (fun k ρ μ => ∃ a b : Int, 0 ≤ a ∧ 0 ≤ b ∧ k = b.toNat ∧ Int.gcd a b = Int.gcd m n ∧ ρ = [some (.dat (.int a)), some (.dat (.int b))] ∧ μ = []) _ ⟨m, n, hm, hn, rfl, rfl, rfl, rfl⟩ ?_
  rintro k ρ μ ⟨a, b, ha, hb, rfl, hg, rfl, rfl⟩
  refine tm_cmp op_ne (nomark _) (nm 1 (dm_int (opd_neI (bm ⟨fun hk => ?_, fun hk => ?_⟩))))
  · have hb0 : b ≠ 0 := by simpa using hk
    refine two_par sc_law_gcd.nd (i := 0) (j := 1) rfl rfl (by decide) (am_cons (nm 1 (am_cons (dm_bin op_modN (dm_int1 rfl T.b_int (nm 0 (dmm ?_)))))))
    refine nm 1 (opd_I hb0 (am_nil ⟨_, _, rfl, ?_⟩))
    refine ds_nil ⟨(a.fmod b).toNat, ?_, b, a.fmod b, hb, ?_, rfl, (gcd_step hb).trans hg, rfl, rfl⟩
    · rw [Int.fmod_eq_emod_of_nonneg _ hb]
      have := Int.emod_lt_of_pos a (show 0 < b by omega)
      omega
    · rw [Int.fmod_eq_emod_of_nonneg _ hb]
      exact Int.emod_nonneg a hb0
  · have hb0 : b = 0 := by simpa using hk
    subst hb0
    refine ds_ret (nm 0 ⟨_, rfl, ?_⟩)
    have e : (a : Int) = (Int.gcd m n : Nat) := by
      rw [← hg]
      simp [Int.gcd_zero_right]
      omega
    rw [e]
    exact hG
def tf_lowest : Tf := fun ds G => ∃ m n : Int, ds = [.int m, .int n] ∧ 0 < n ∧ G (rt (Rat.divInt m n))
theorem can_lowest (T : Txt K mg) (z : Seer K mg) (ht : P.given.tree = none) (c_gcd : Can P w K mg base "_law_gcd" 1 p_law_gcd (PureSp K tf_lgcd)) : Can P w K mg base "_law_lowest" 41 p_law_lowest (PureSp K tf_lowest) := by
  refine can_pure 67 T sc_law_lowest (fun _ _ _ _ _ _ us hl => match us, hl with | [_, _], _ => rfl) (fun ds G h => by obtain ⟨m, n, rfl, _⟩ := h; rfl) fun f cdv B outer s H E hr ds G h => ?_
  obtain ⟨m, n, rfl, hn, hG⟩ := h
  have hd : (B.deeper (envOfC "_law_lowest" (defScope (top 93)) s.heap.objs.size f cdv)).depth + 100 < recursionLimit := by
    have := hr.dp
    omega
  have e0 : (Int.gcd (if m < 0 then -m else m) n) = Int.gcd m n := by
    split
    · exact Int.neg_gcd
    · rfl
  refine ds_asg (dm_call c_gcd (hr.mono (by decide)) rfl (ac (dm_abs rfl T.b_abs (nm 0 (im (dmm (a1 (nm 1 (dmm ⟨_, n, rfl, ?_, by omega, gm_name sc_law_lowest.nd (i := 2) rfl ?_⟩)))))))))
  · split <;> omega
  rw [e0]
  obtain ⟨e1, e2⟩ := rat_pos (m := m) hn
  have hg : (Int.gcd m n : Int) ≠ 0 := by
    have := Int.gcd_ne_zero_right (a := m) (show n ≠ 0 by omega)
    omega
  refine ds_ret (dm_tup (ac (dm_bin (op_fdivP z ht (l := outer) rfl rfl rfl hd) (nm 0 (nm 2 (opd_I hg (dmm ?_)))))))
  refine a1 (dm_bin (op_fdivP z ht (l := outer) rfl rfl rfl hd) (nm 1 (nm 2 (opd_I hg (dmm ⟨by simp, _, rfl, ?_⟩)))))
  rw [e1, e2]
  exact hG
theorem can_lplus (T : Txt K mg) (c_low : Can P w K mg base "_law_lowest" 41 p_law_lowest (PureSp K tf_lowest)) : Can P w K mg base "_law_plus" 42 p_law_plus (PureSp K tf_plus) := by
  refine can_pure 68 T sc_law_plus (fun _ _ _ _ _ _ us hl => match us, hl with | [_, _], _ => rfl) (fun ds G h => by obtain ⟨m, n, rfl, _⟩ := h; rfl) fun f cdv B outer s H E hr ds G h => ?_
  obtain ⟨a, b, rfl, ha, hb, hG⟩ := h
  refine ds_ret (dm_call c_low hr rfl (ac (dm_bin op_add (dm_bin op_mulB (ixT (nm 0 ⟨_, _, rfl, rfl, ixT (nm 1 ⟨_, _, rfl, rfl, opd_I (ha.mulD hb) ?_⟩)⟩))))))
  refine dm_bin op_mulB (ixT (nm 1 ⟨_, _, rfl, rfl, ixT (nm 0 ⟨_, _, rfl, rfl, opd_I (hb.mulD ha) (opd_I0 (dmm ?_))⟩)⟩))
  refine a1 (dm_bin op_mulB (ixT (nm 0 ⟨_, _, rfl, rfl, ixT (nm 1 ⟨_, _, rfl, rfl, opd_I (ha.mulDD hb) (dmm ⟨_, _, rfl, ?_, _, rfl, ?_⟩)⟩)⟩)))
  · have h1 := a.den_pos
    have h2 := b.den_pos
    exact Int.mul_pos (by omega) (by omega)
  · rw [rt_add]
    exact hG
theorem can_ltotal (T : Txt K mg) (c_plus : Can P w K mg base "_law_plus" 42 p_law_plus (PureSp K tf_plus)) : Can P w K mg base "_law_total" 43 p_law_total (PureSp K tf_total) := by
  refine can_pure 69 T sc_law_total (fun _ _ _ _ _ _ us hl => match us, hl with | [_], _ => rfl) (fun ds G h => by obtain ⟨m, b, rfl, _⟩ := h; rfl) fun f cdv B outer s H E hr ds G h => ?_
  obtain ⟨qs, b, rfl, hq, hl, hb, hG⟩ := h
  refine ds_asg (dm_tup (ac (dm_int (dmm (a1 (dm_int (dmm ⟨by simp, gm_name sc_law_total.nd (i := 1) rfl ?_⟩)))))))
  change Ds _ [_, some (.dat (rt (sums (qs.take 0)))), _] _ _ _
  refine ds_for PassesOwn.never (im_list (nm 0 (lm ⟨fun i ρ μ => ∃ o, ρ = [some (.dat (.list (qs.map rt))), some (.dat (rt (sums (qs.take i)))), o] ∧ μ = [], ⟨_, rfl, rfl⟩, ?_, ?_⟩)))
  · rintro i d ρ μ hd ⟨o, rfl, rfl⟩
    rw [List.getElem?_map] at hd
    obtain ⟨q, hq1, rfl⟩ := Option.map_eq_some_iff.mp hd
    obtain ⟨hi, hq2⟩ := List.getElem?_eq_some_iff.mp hq1
    have hmem : q ∈ qs := List.mem_of_getElem? hq1
    refine gm_name sc_law_total.nd (i := 2) rfl ?_
    have hle : i * (b + 1) + 1 ≤ 40000000 := Nat.le_trans (Nat.add_le_add_right (Nat.mul_le_mul_right _ (Nat.le_of_lt hi)) 1) hl
    refine ds_asg (dm_call c_plus hr rfl (ac (nm 1 (dmm (a1 (nm 2 (dmm ⟨_, _, rfl, (sums_bd qs hq i (Nat.le_of_lt hi)).sm hle, (hq q hmem).sm hb, gm_name sc_law_total.nd (i := 1) rfl ?_⟩)))))))
    refine ds_nil ⟨some (.dat (rt q)), ?_, rfl⟩
    rw [List.take_succ_eq_append_getElem hi, sums_snoc, hq2]
    rfl
  · rintro ρ μ ⟨o, rfl, rfl⟩
    rw [List.length_map, List.take_length]
    exact ds_ret (nm 1 ⟨_, rfl, hG⟩)
end
end BW

namespace BW
open PySem PySem.Spec PyProof.Rows L2
/-- tuples of tuples .. of whole numbers -/
def lev : Nat → PyData → Prop
  | 0, d => ∃ i, d = .int i
  | n + 1, d => ∃ ds, d = .tuple ds ∧ ds.length ≤ 1000 ∧ noDA ds = true ∧ ∀ x ∈ ds, lev n x
section
variable {P : Program} {w : World} {K : PySem.W.Frag} {mg : Str → Option Value} {base : Heap}
def tf_alike (n : Nat) : Tf := fun ds G => ∃ d, ds = [d, d] ∧ lev n d ∧ G (.bool true)
theorem can_alike0 (T : Txt K mg) : Can P w K mg base "_law_alike" 1 p_law_alike (PureSp K (tf_alike 0)) := by
  refine can_pure 65 T sc_law_alike (fun _ _ _ _ _ _ us hl => match us, hl with | [_, _], _ => rfl) (fun ds G h => by obtain ⟨m, rfl, _⟩ := h; rfl) fun f cdv B outer s H E hr ds G h => ?_
  obtain ⟨_, rfl, ⟨i, rfl⟩, hG⟩ := h
  refine ds_if (tm_val (dm_isiT (A := "tuple") (B := "list") rfl T.b_isinstance rfl T.b_tuple (by decide +kernel) rfl T.b_list (by decide +kernel) (nm 1 (dmm (d := .int i) ⟨rfl, false, false, (by decide +kernel : kitB "int" "tuple" = some false), (by decide +kernel : kitB "int" "list" = some false), bm ⟨(fun z => nomatch z), fun _ => ds_nil ?_⟩⟩))))
  refine ds_if (tm_w (wm_or2 (tm_cmp op_isN (nomark _) (nm 1 (dm_none (opd_isN (bm ⟨(fun z => nomatch z), fun _ => ?_⟩)))))))
  refine tm_val (dm_isi (T := "str") rfl T.b_isinstance rfl T.b_str (by decide +kernel) (nm 1 (dmm (d := .int i) ⟨rfl, false, (by decide +kernel : kitB "int" "str" = some false), bm ⟨(fun z => nomatch z), fun _ => ds_nil ?_⟩⟩)))
  refine ds_ret (dm_and (dm_isi (T := "int") rfl T.b_isinstance rfl T.b_int (by decide +kernel) (nm 0 (dmm (d := .int i) ⟨rfl, true, (by decide +kernel : kitB "int" "int" = some true), bm ⟨fun _ => ?_, (fun z => nomatch z)⟩⟩))))
  refine dm_and (dm_cmp op_eq (nomark _) (dm_isi (T := "bool") rfl T.b_isinstance rfl T.b_bool (by decide +kernel) (nm 0 (dmm (d := .int i) ⟨rfl, false, (by decide +kernel : kitB "int" "bool" = some false), ?_⟩))))
  refine dm_isi (T := "bool") rfl T.b_isinstance rfl T.b_bool (by decide +kernel) (nm 1 (dmm (d := .int i) ⟨rfl, false, (by decide +kernel : kitB "int" "bool" = some false), opd_eqB (bm ⟨fun _ => ?_, (fun z => nomatch z)⟩)⟩))
  refine dm_one (dm_cmp op_eq (nomark _) (nm 0 (nm 1 ?_)))
  refine opd_eqI (i := i) (j := i) ⟨_, rfl, ?_⟩
  rw [decide_eq_true rfl]
  exact hG
theorem lev_noD : ∀ (n : Nat) (d : PyData), lev n d → noD d = true
  | 0, d, h => by
    obtain ⟨i, rfl⟩ := h
    rfl
  | n + 1, d, h => by
    obtain ⟨ds, rfl, _, h1, _⟩ := h
    simp only [noD]
    exact h1
theorem can_alike1 (n k : Nat) (T : Txt K mg) (c : Can P w K mg base "_law_alike" k p_law_alike (PureSp K (tf_alike n))) (hk : 1 ≤ k) : Can P w K mg base "_law_alike" (k + 1) p_law_alike (PureSp K (tf_alike (n + 1))) := by
  refine can_pure 65 T sc_law_alike (fun _ _ _ _ _ _ us hl => match us, hl with | [_, _], _ => rfl) (fun ds G h => by obtain ⟨m, rfl, _⟩ := h; rfl) fun f cdv B outer s H E hr ds G h => ?_
  obtain ⟨_, rfl, ⟨es, rfl, hl, hno, hes⟩, hG⟩ := h
  have hd : noD (.tuple es) = true := by
    simp only [noD]
    exact hno
  have k1 : kitB (dTy (.tuple es)) "tuple" = some true := (by decide +kernel : kitB "tuple" "tuple" = some true)
  have k2 : kitB (dTy (.tuple es)) "list" = some false := (by decide +kernel : kitB "tuple" "list" = some false)
  refine ds_if (tm_val (dm_isiT (A := "tuple") (B := "list") rfl T.b_isinstance rfl T.b_tuple (by decide +kernel) rfl T.b_list (by decide +kernel) (nm 1 (dmm (d := .tuple es) ⟨hd, true, false, k1, k2, bm ⟨fun _ => ?_, (fun z => nomatch z)⟩⟩))))
  refine ds_if (tm_w (wm_or2 (tm_not (tm_val (dm_isiT (A := "tuple") (B := "list") rfl T.b_isinstance rfl T.b_tuple (by decide +kernel) rfl T.b_list (by decide +kernel) (nm 0 (dmm (d := .tuple es) ⟨hd, true, false, k1, k2, bm ⟨(fun z => nomatch z), fun _ => ?_⟩⟩)))))))
  refine tm_cmp op_ne (nomark _) (dm_isi (T := "list") rfl T.b_isinstance rfl T.b_list (by decide +kernel) (nm 0 (dmm (d := .tuple es) ⟨hd, false, k2, ?_⟩)))
  refine dm_isi (T := "list") rfl T.b_isinstance rfl T.b_list (by decide +kernel) (nm 1 (dmm (d := .tuple es) ⟨hd, false, k2, opd_neB (bm ⟨(fun z => nomatch z), fun _ => ds_nil ?_⟩)⟩))
  refine ds_if (tm_cmp op_ne (nomark _) (dm_len rfl T.b_len (nm 0 ⟨_, .dat rfl, dm_len rfl T.b_len (nm 1 ⟨_, .dat rfl, opd_neI (bm ⟨fun hk => ?_, fun _ => ds_nil ?_⟩)⟩)⟩)))
  · simp at hk
  refine ds_ret (dm_cmp (op_eqD (Nat.lt_of_succ_lt (u65 hr))) (nomark _) (dm_lc (own := [("_law_k", 2)]) sc_law_alike.nd (blkOk_by (by kernel_rfl)) (im_range1 rfl T.b_range (dm_len rfl T.b_len (nm 1 ⟨_, .dat rfl, ?_⟩)))))
  rw [List.length_map]
  refine im ⟨by omega, by omega, ?_⟩
  rw [Int.toNat_natCast, show rangeD 0 es.length = _ from rangeD_map 0 es.length, List.map_map]
  have hgt : ∀ i (h : i < es.length), atI es (((0 + i : Nat) : Nat) : Int) = some es[i] := fun i h => by
    rw [Nat.zero_add]
    exact atI_nat (List.getElem?_eq_getElem h)
  refine lc_filt (List.range es.length) _ (fun i => .int ((0 + i : Nat) : Int)) (fun _ => false) (by simp; omega) (fun i hi b => gj_name (i := 2) sc_law_alike.nd rfl (fun b => ?_)) ⟨_, rfl, ?_⟩
  · have hi' := List.mem_range.mp hi
    refine tm_not (tm_val (dm_call (X := Bk _ _ b) c (hr.mono (by omega)) rfl (ac (ixE (nm 0 (nm 2 (im ⟨_, _, .inl rfl, hgt i hi', dmm (a1 (ixE (nm 1 (nm 2 (im ⟨_, _, .inl rfl, hgt i hi', dmm ?_⟩)))))⟩)))))))
    exact ⟨es[i], rfl, hes _ (List.getElem_mem hi'), _, rfl, rfl, (fun z => nomatch z), fun _ => rfl⟩
  · rw [show (List.range es.length).filter (fun _ => false) = [] from List.filter_eq_nil_iff.mpr fun _ _ z => Bool.false_ne_true z]
    exact dm_lst (an ⟨by simp, opd_eqD (by rfl) (by rfl) ⟨_, rfl, hG⟩⟩)
end
end BW

namespace BW
open PySem PySem.Spec PyProof.Rows L2
theorem pick_fun {T : Type} (g : T → PyData) (C : T → Prop) (t0 : T) (h0 : C t0) : ∀ (ds : List PyData), (∀ d ∈ ds, ∃ t, C t ∧ d = g t) → ∃ F : Nat → T, (∀ i, C (F i)) ∧ ds = (List.range ds.length).map fun i => g (F i)
  | [], _ => ⟨fun _ => t0, fun _ => h0, rfl⟩
  | d :: ds, h => by
    obtain ⟨t, h1, rfl⟩ := h d (List.mem_cons_self ..)
    obtain ⟨F, h2, h3⟩ := pick_fun g C t0 h0 ds fun d hd => h d (List.mem_cons_of_mem _ hd)
    refine ⟨fun i => match i with | 0 => t | i + 1 => F i, fun i => ?_, ?_⟩
    · cases i with
      | zero => exact h1
      | succ i => exact h2 i
    · rw [List.length_cons, List.range_succ_eq_map, List.map_cons, List.map_map]
      congr 1
section
variable {X : Cx} {ρ : Rho} {μ : Mu} {scope : Scope} {vs : List Nat} {tg elt : Expr} {α : Type}
/-- a comprehension that draws: M gives the cells where the row is cs -/
theorem lc_draw {P : Mu → List Rv → Prop} (M : List Rv → Mu) (cs0 : List Rv) (D : PyData → Prop) (xs : List α) (g : α → PyData) (hl : xs.length ≤ 1000000) (hrow : Row cs0)
    (step : ∀ cs, Row cs → ∀ x ∈ xs, ∀ b : Bx, Gj (Bk X scope b) (wipeR ρ vs) (M cs) tg vs (.dat (g x)) fun ρ2 μ2 => ∀ b : Bx, Dm (Bk X scope b) ρ2 μ2 elt fun μ4 r => ∃ cs' d, μ4 = M cs' ∧ Row cs' ∧ r = .dat d ∧ D d)
    (fin : ∀ cs (ds : List PyData), Row cs → ds.length = xs.length → (∀ d ∈ ds, D d) → P (M cs) (ds.map Rv.dat)) : LcP X ρ scope vs tg elt [] P (M cs0) (xs.map g) := by
  refine ⟨by rw [List.length_map]; exact hl, fun i μ' acc => ∃ cs, ∃ ds : List PyData, μ' = M cs ∧ Row cs ∧ acc = ds.map Rv.dat ∧ ds.length = i ∧ ∀ d ∈ ds, D d, ⟨cs0, [], rfl, hrow, rfl, rfl, fun _ h => nomatch h⟩, ?_, ?_⟩
  · rintro i d μ' acc hd ⟨cs, ds, rfl, hr, rfl, hlen, hD⟩ _ b
    rw [List.getElem?_map] at hd
    obtain ⟨x, hx, rfl⟩ := Option.map_eq_some_iff.mp hd
    refine fun R F H as σ v S o Q q => step cs hr x (List.mem_of_getElem? hx) b R F H as σ v S o Q fun σ' F' H' as' ρ' μ' S' x' a' n' => q σ' F' H' as' ρ' μ' S' x' a' ?_
    intro b2
    show (true = true → _) ∧ (true = false → _)
    refine ⟨fun _ b3 => (n' b3).imp ?_, fun z => nomatch z⟩
    rintro μ4 r ⟨cs', d, rfl, hr', rfl, hd'⟩
    refine ⟨cs', ds ++ [d], rfl, hr', by rw [List.map_append]; rfl, by rw [List.length_append, hlen]; rfl, fun z hz => ?_⟩
    rcases List.mem_append.mp hz with hz | hz
    · exact hD z hz
    · rw [List.mem_singleton.mp hz]
      exact hd'
  · rintro μ' acc ⟨cs, ds, rfl, hr, rfl, hlen, hD⟩
    exact fin cs ds hr (by rw [hlen, List.length_map]) hD
end
section
variable {P : Program} {w : World} {K : PySem.W.Frag} {mg : Str → Option Value} {base : Heap}
def tf_joints : Tf := fun ds G => ∃ f, ds = [frD f] ∧ f.nd.length ≤ 8 ∧ ∀ J : Nat → Nat → Int, (∀ i l, -9 ≤ J i l ∧ J i l ≤ 9) → G (jD J f.nd.length)
theorem can_joints (T : Txt K mg) (c_pick : Can P w K mg base "_law_pick" 42 p_law_pick (RowSp K tf_pick)) (c_signed : Can P w K mg base "_law_signed" 42 p_law_signed (RowSp K tf_signed)) : Can P w K mg base "_law_joints" 43 p_law_joints (RowSp K tf_joints) := by
  refine can_row 71 T sc_law_joints (fun _ _ _ _ _ _ us hl => match us, hl with | [_, _], _ => rfl) (fun ds G h => by obtain ⟨m, rfl, _⟩ := h; rfl) fun fa cdv B outer s H E hr ds G rs hrow h => ?_
  obtain ⟨f, rfl, h8, hG⟩ := h
  refine ds_asg (dm_callR c_pick hr rfl (am_cons (nm 0 (am_cons (dm_lst (ac (dm_int (dmm (a1 (dm_int (dmm ⟨by simp, am_nil ⟨0, [.list _], _, rfl, rfl, hrow, _, rfl, by simp, fun i d hid cs' hcs => ?_⟩⟩)))))))))))
  have : ∃ m : Int, d = .int m ∧ 0 ≤ m ∧ m ≤ 9 := by
    match i, hid with
    | 0, e => exact ⟨2, (Option.some.inj e).symm, by decide, by decide⟩
    | 1, e => exact ⟨9, (Option.some.inj e).symm, by decide, by decide⟩
    | i + 2, e => simp at e
  obtain ⟨m, rfl, m0, m9⟩ := this
  refine gm_name sc_law_joints.nd (i := 2) rfl ?_
  refine ds_ret (dm_tuple rfl T.b_tuple (dm_lc (own := [("_law_node", 3)]) sc_law_joints.nd (blkOk_by (by kernel_rfl)) (im_tup (ixT (nm 1 ⟨_, _, rfl, rfl, tmm ?_⟩)))))
  refine lc_draw (fun cs => [.L cs]) cs' (fun d => ∃ r : Nat → Int, (∀ l, -9 ≤ r l ∧ r l ≤ 9) ∧ d = .tuple ((List.range 3).map fun l => .int (r l))) f.nd pD (by omega) hcs (fun cs hc x hx b => ?_) (fun cs ds hc hl hD => ?_)
  · refine gj_name (i := 3) sc_law_joints.nd rfl (fun b => ?_)
    refine dm_tuple (X := Bk _ _ b) rfl T.b_tuple (dm_lc (X := Bk _ _ b) (own := [("_law_part", 4)]) sc_law_joints.nd (blkOk_by (by kernel_rfl)) (im_range1 rfl T.b_range (dm_int (im ⟨by decide, by decide, ?_⟩))))
    rw [show rangeD 0 (Int.toNat 3) = _ from rangeD_map 0 3, List.map_map]
    refine lc_draw (X := Bk _ _ b) (fun cs => [.L cs]) cs (fun d => ∃ t : Int, (-9 ≤ t ∧ t ≤ 9) ∧ d = .int t) (List.range 3) _ (by decide) hc (fun cs hc x hx b => ?_) (fun cs ds hc hl hD => ?_)
    · refine gj_name (i := 4) sc_law_joints.nd rfl (fun b => ?_)
      refine dm_callR (X := Bk _ _ b) c_signed hr rfl (am_cons (nm 0 (am_cons (nm 2 (am_nil ⟨0, [.int m], _, rfl, rfl, hc, m, rfl, m0, by omega, fun t t0 t1 cs' hcs => ⟨_, _, rfl, hcs, rfl, t, by omega, rfl⟩⟩)))))
    · obtain ⟨r, hr1, hr2⟩ := pick_fun (fun t : Int => PyData.int t) (fun t => -9 ≤ t ∧ t ≤ 9) 0 (by decide) ds hD
      rw [hl] at hr2
      exact ⟨_, rfl, _, TupR.lst, _, _, rfl, hc, rfl, r, hr1, by rw [hr2]; rfl⟩
  · obtain ⟨J, hJ1, hJ2⟩ := pick_fun (fun r : Nat → Int => PyData.tuple ((List.range 3).map fun l => .int (r l))) (fun r => ∀ l, -9 ≤ r l ∧ r l ≤ 9) (fun _ => 0) (fun _ => (by decide : (-9 : Int) ≤ 0 ∧ (0 : Int) ≤ 9)) ds hD
    rw [hl] at hJ2
    exact ⟨_, rfl, _, TupR.lst, _, rfl, by rw [hJ2]; exact hG J hJ1, _, rfl, hc⟩
end
end BW

namespace BW
open PySem PySem.Spec PyProof.Rows L2
def QOk (q : Rat) : Prop := q.num.natAbs ≤ 5 ∧ q.den ≤ 4
theorem QOk.of {t d : Int} (h0 : -5 ≤ t) (h1 : t ≤ 5) (h2 : 0 < d) (h3 : d ≤ 4) : QOk (Rat.divInt t d) := by
  obtain ⟨e1, e2⟩ := rat_pos (m := t) h2
  have g0 : (0 : Int) < (Int.gcd t d : Int) := by
    have := Int.gcd_pos_of_ne_zero_right t (show d ≠ 0 by omega)
    omega
  have d1 := Int.gcd_dvd_left t d
  have d2 := Int.gcd_dvd_right t d
  rw [Int.fdiv_eq_ediv_of_dvd d1] at e1
  rw [Int.fdiv_eq_ediv_of_dvd d2] at e2
  obtain ⟨k, hk⟩ := d1
  obtain ⟨l, hl⟩ := d2
  generalize (Int.gcd t d : Int) = g at *
  have e3 : t / g = k := by
    rw [hk]
    exact Int.mul_ediv_cancel_left _ (by omega)
  have e4 : d / g = l := by
    rw [hl]
    exact Int.mul_ediv_cancel_left _ (by omega)
  have b1 : k.natAbs ≤ t.natAbs := by
    rw [hk, Int.natAbs_mul]
    exact Nat.le_mul_of_pos_left _ (by omega)
  have b2 : l.natAbs ≤ d.natAbs := by
    rw [hl, Int.natAbs_mul]
    exact Nat.le_mul_of_pos_left _ (by omega)
  rw [e3] at e1
  rw [e4] at e2
  constructor <;> omega
section
variable {P : Program} {w : World} {K : PySem.W.Frag} {mg : Str → Option Value} {base : Heap}
def tf_lload : Tf := fun ds G => ∃ f, ds = [frD f] ∧ f.nd.length ≤ 8 ∧ f.mb.length ≤ 8 ∧ ∀ (J : Nat → Nat → Int) (pu : Nat → Int), (∀ i l, -9 ≤ J i l ∧ J i l ≤ 9) → (∀ i, -6 ≤ pu i ∧ pu i ≤ 6) → G (loadD J pu f.nd.length f.mb.length)
theorem can_lload (T : Txt K mg) (c_taken : Can P w K mg base "_law_taken" 41 p_law_taken (RowSp K tf_taken)) (c_signed : Can P w K mg base "_law_signed" 42 p_law_signed (RowSp K tf_signed)) (c_joints : Can P w K mg base "_law_joints" 43 p_law_joints (RowSp K tf_joints)) : Can P w K mg base "_law_load" 44 p_law_load (RowSp K tf_lload) := by
  refine can_row 72 T sc_law_load (fun _ _ _ _ _ _ us hl => match us, hl with | [_, _], _ => rfl) (fun ds G h => by obtain ⟨m, rfl, _⟩ := h; rfl) fun fa cdv B outer s H E hr ds G rs hrow h => ?_
  obtain ⟨f, rfl, h8, m8, hG⟩ := h
  refine ds_asg (dm_tuple rfl T.b_tuple (dm_lc (own := [("_law_member", 3)]) sc_law_load.nd (blkOk_by (by kernel_rfl)) (im_tup (ixT (nm 1 ⟨_, _, rfl, rfl, tmm ?_⟩)))))
  refine lc_draw (fun cs => [.L cs]) rs (fun d => ∃ t : Int, (-6 ≤ t ∧ t ≤ 6) ∧ d = .int t) f.mb mD (by omega) hrow (fun cs hc x hx b => ?_) (fun cs ds hc hl hD => ?_)
  · refine gj_name (i := 3) sc_law_load.nd rfl (fun b => ?_)
    refine dm_if (tm_cmp op_eq (nomark _) (dm_callR (X := Bk _ _ b) c_taken (hr.mono (by decide)) rfl (am_cons (nm 0 (am_cons (dm_int (am_nil ⟨0, [.int 2], _, rfl, rfl, hc, 2, rfl, by decide, fun t t0 t1 cs' hcs => dm_int (opd_eqI (bm ⟨fun _ => ?_, fun _ => ?_⟩))⟩)))))))
    · exact dm_callR (X := Bk _ _ b) c_signed (hr.mono (by decide)) rfl (am_cons (nm 0 (am_cons (dm_int (am_nil ⟨0, [.int 6], _, rfl, rfl, hcs, 6, rfl, by decide, by decide, fun t t0 t1 cs' hcs => ⟨_, _, rfl, hcs, rfl, t, ⟨t0, t1⟩, rfl⟩⟩)))))
    · exact dm_int ⟨_, _, rfl, hcs, rfl, 0, by decide, rfl⟩
  obtain ⟨pu, hp1, hp2⟩ := pick_fun (fun t : Int => PyData.int t) (fun t => -6 ≤ t ∧ t ≤ 6) 0 (by decide) ds hD
  rw [hl] at hp2
  refine ⟨_, rfl, _, TupR.lst, gm_name sc_law_load.nd (i := 2) rfl ?_⟩
  refine ds_ret (dm_tup (ac (dm_callR c_joints hr rfl (am_cons (nm 0 (am_cons (nm 1 (am_nil ⟨0, [frD f], _, rfl, rfl, hc, f, rfl, h8, fun J hJ cs' hcs => dmm (a1 (nm 2 (dmm ⟨by simp, ?_⟩)))⟩))))))))
  exact ⟨_, rfl, by rw [hp2]; exact hG J pu hJ hp1, _, rfl, hcs⟩
def tf_lratios : Tf := fun ds G => ds = [.int 2, .int 4] ∧ ∀ a b, QOk a → QOk b → G (.tuple [rt a, rt b])
theorem can_lratios (T : Txt K mg) (c_taken : Can P w K mg base "_law_taken" 41 p_law_taken (RowSp K tf_taken)) (c_signed : Can P w K mg base "_law_signed" 42 p_law_signed (RowSp K tf_signed)) (c_low : Can P w K mg base "_law_lowest" 41 p_law_lowest (PureSp K tf_lowest)) : Can P w K mg base "_law_ratios" 43 p_law_ratios (RowSp K tf_lratios) := by
  refine can_row 74 T sc_law_ratios (fun _ _ _ _ _ _ us hl => match us, hl with | [_, _, _], _ => rfl) (fun ds G h => by obtain ⟨rfl, _⟩ := h; rfl) fun fa cdv B outer s H E hr ds G rs hrow h => ?_
  obtain ⟨rfl, hG⟩ := h
  refine ds_ret (dm_tuple rfl T.b_tuple (dm_lc (own := [("_law_at", 3)]) sc_law_ratios.nd (blkOk_by (by kernel_rfl)) (im_range1 rfl T.b_range (nm 1 (im ⟨?_, ?_, ?_⟩)))))
  · decide
  · decide
  rw [show rangeD 0 (Int.toNat 2) = _ from rangeD_map 0 2, List.map_map]
  refine lc_draw (fun cs => [.L cs]) rs (fun d => ∃ q : Rat, QOk q ∧ d = rt q) (List.range 2) _ (by decide) hrow (fun cs hc x hx b => ?_) (fun cs ds hc hl hD => ?_)
  · refine gj_name (i := 3) sc_law_ratios.nd rfl (fun b => ?_)
    refine dm_call (X := Bk _ _ b) c_low (hr.mono (by decide)) rfl (ac (dm_callR (X := Bk _ _ b) c_signed hr rfl (am_cons (nm 0 (am_cons (nm 2 (am_nil ⟨0, [.int 4], _, rfl, rfl, hc, 4, rfl, by decide, by decide, fun t t0 t1 cs' hcs => ?_⟩)))))))
    refine dmm (a1 (dm_bin op_add (dm_int (dm_callR (X := Bk _ _ b) c_taken (hr.mono (by decide)) rfl (am_cons (nm 0 (am_cons (dm_int (am_nil ⟨0, [.int 3], _, rfl, rfl, hcs, 3, rfl, by decide, fun u u0 u1 cs' hcs => opd_I0 (dmm ⟨_, _, rfl, ?_, ?_⟩)⟩)))))))))
    · omega
    · exact ⟨_, _, rfl, hcs, rfl, _, QOk.of (by omega) (by omega) (by omega) (by omega), rfl⟩
  · match ds, hl, hD with
    | [d1, d2], _, hD =>
      obtain ⟨a, ha, rfl⟩ := hD d1 (by simp)
      obtain ⟨b, hb, rfl⟩ := hD d2 (by simp)
      exact ⟨_, rfl, _, TupR.lst, _, rfl, hG a b ha hb, _, rfl, hc⟩
def tf_lstrains : Tf := fun ds G => ∃ f, ds = [frD f] ∧ f.mb.length ≤ 8 ∧ ∀ st : Nat → Nat → Rat, (∀ i l, QOk (st i l)) → G (stD st f.mb.length)
theorem can_lstrains (T : Txt K mg) (c_taken : Can P w K mg base "_law_taken" 41 p_law_taken (RowSp K tf_taken)) (c_ratios : Can P w K mg base "_law_ratios" 43 p_law_ratios (RowSp K tf_lratios)) : Can P w K mg base "_law_strains" 44 p_law_strains (RowSp K tf_lstrains) := by
  refine can_row 77 T sc_law_strains (fun _ _ _ _ _ _ us hl => match us, hl with | [_, _], _ => rfl) (fun ds G h => by obtain ⟨m, rfl, _⟩ := h; rfl) fun fa cdv B outer s H E hr ds G rs hrow h => ?_
  obtain ⟨f, rfl, m8, hG⟩ := h
  have q0 : QOk 0 := ⟨by decide, by decide⟩
  refine ds_ret (dm_tuple rfl T.b_tuple (dm_lc (own := [("_law_member", 2)]) sc_law_strains.nd (blkOk_by (by kernel_rfl)) (im_tup (ixT (nm 1 ⟨_, _, rfl, rfl, tmm ?_⟩)))))
  refine lc_draw (fun cs => [.L cs]) rs (fun d => ∃ r : Nat → Rat, (∀ l, QOk (r l)) ∧ d = .tuple [rt (r 0), rt (r 1)]) f.mb mD (by omega) hrow (fun cs hc x hx b => ?_) (fun cs ds hc hl hD => ?_)
  · refine gj_name (i := 2) sc_law_strains.nd rfl (fun b => ?_)
    refine dm_if (tm_cmp op_eq (nomark _) (dm_callR (X := Bk _ _ b) c_taken (hr.mono (by decide)) rfl (am_cons (nm 0 (am_cons (dm_int (am_nil ⟨0, [.int 2], _, rfl, rfl, hc, 2, rfl, by decide, fun t t0 t1 cs' hcs => dm_int (opd_eqI (bm ⟨fun _ => ?_, fun _ => ?_⟩))⟩)))))))
    · exact dm_callR (X := Bk _ _ b) c_ratios hr rfl (am_cons (nm 0 (am_cons (dm_int (am_cons (dm_int (am_nil ⟨0, [.int 2, .int 4], _, rfl, rfl, hcs, rfl, fun x y hx hy cs' hcs => ⟨_, _, rfl, hcs, rfl, fun l => if l = 0 then x else y, fun l => by dsimp only; split; exact hx; exact hy, rfl⟩⟩)))))))
    · exact dm_tup (ac (dm_tup (ac (dm_int (dmm (a1 (dm_int (dmm ⟨by simp, dmm (a1 (dm_tup (ac (dm_int (dmm (a1 (dm_int (dmm ⟨by simp, dmm ⟨by simp, _, _, rfl, hcs, rfl, fun _ => 0, fun _ => q0, rfl⟩⟩))))))))⟩))))))))
  obtain ⟨st, hp1, hp2⟩ := pick_fun (fun r : Nat → Rat => PyData.tuple [rt (r 0), rt (r 1)]) (fun r => ∀ l, QOk (r l)) (fun _ => 0) (fun _ => q0) ds hD
  rw [hl] at hp2
  exact ⟨_, rfl, _, TupR.lst, _, rfl, by rw [hp2]; exact hG st hp1, _, rfl, hc⟩
end
end BW

namespace BW
open PySem PySem.Spec PyProof.Rows L2
theorem pk_mapd {α β : Type} (g : α → β) (kds : List (List Key × α)) (k : List Key) (v : α) : pk (kds.map fun p => (p.1, g p.2)) k (g v) = (pk kds k v).map fun p => (p.1, g p.2) := by
  unfold pk
  rw [List.any_map]
  have e : ((fun kv : List Key × β => decide (kv.1 = k)) ∘ fun p : List Key × α => (p.1, g p.2)) = fun kv => decide (kv.1 = k) := rfl
  rw [e]
  split
  · rw [List.map_map, List.map_map]
    apply List.map_congr_left
    intro p _
    simp only [Function.comp]
    split <;> rfl
  · rw [List.map_append]
    rfl
theorem pk_le {α : Type} (kds : List (List Key × α)) (k : List Key) (v : α) : (pk kds k v).length ≤ kds.length + 1 := by
  unfold pk
  split
  · rw [List.length_map]
    omega
  · rw [List.length_append]
    simp
theorem let_ix : ∀ l : Nat, l < 3 → ∃ z, ([.str "x", .str "y", .str "r"] : List PyData)[l]? = some z ∧ PyData.eqv z (.str (lt l)) = true ∧ ∀ (m : Nat) (z' : PyData), m < l → ([.str "x", .str "y", .str "r"] : List PyData)[m]? = some z' → PyData.eqv z' (.str (lt l)) = false
  | 0, _ => ⟨_, rfl, by decide, fun m z' h => absurd h (Nat.not_lt_zero m)⟩
  | 1, _ => ⟨_, rfl, by decide, fun m z' h e => by
    have : m = 0 := by omega
    subst this
    obtain rfl := Option.some.inj e
    decide⟩
  | 2, _ => ⟨_, rfl, by decide, fun m z' h e => by
    match m, h, e with
    | 0, _, e =>
      obtain rfl := Option.some.inj e
      decide
    | 1, _, e =>
      obtain rfl := Option.some.inj e
      decide⟩
theorem lt_shp (l : Nat) : shp (.str (lt l)) = true := by
  have h := (Bool.and_eq_true_iff.mp (lt_ok l)).1
  have h' : PyData.canLay0 (.str (lt l)) = true := h
  simp [shp, SeqAt.shaped, PyData.canLay0, PyData.depth, noD] at h' ⊢
  exact h'
theorem paired_mapd (μ : Mu) : ∀ kds : List (List Key × PyData), Paired (fun (p : List Key × Rv) (q : List Key × PyData) => p.1 = q.1 ∧ AsD μ p.2 q.2) (kds.map fun p => (p.1, Rv.dat p.2)) kds
  | [] => .nil
  | _ :: L => .cons ⟨rfl, .dat⟩ (paired_mapd μ L)
section
variable {P : Program} {w : World} {K : PySem.W.Frag} {mg : Str → Option Value} {base : Heap}
def tf_lgiven : Tf := fun ds G => ∃ f, ds = [frD f] ∧ f.sp.length ≤ 8 ∧ (heldW f).length ≤ 100 ∧ ∀ gv : List (Way × Rat), (gv.map (·.1)).Sublist (heldW f) → (∀ p ∈ gv, QOk p.2) → G (gmD gv)
theorem can_lgiven (T : Txt K mg) (c_taken : Can P w K mg base "_law_taken" 41 p_law_taken (RowSp K tf_taken)) (c_signed : Can P w K mg base "_law_signed" 42 p_law_signed (RowSp K tf_signed)) (c_low : Can P w K mg base "_law_lowest" 41 p_law_lowest (PureSp K tf_lowest)) : Can P w K mg base "_law_given" 43 p_law_given (RowSp K tf_lgiven) := by
  refine can_row 76 T sc_law_given (fun _ _ _ _ _ _ us hl => match us, hl with | [_, _], _ => rfl) (fun ds G h => by obtain ⟨m, rfl, _⟩ := h; rfl) fun fa cdv B outer s H E hr ds G rs hrow h => ?_
  obtain ⟨f, rfl, s8, hlen, hG⟩ := h
  have htk : ∀ i, (hW (f.sp.take i)).length ≤ (heldW f).length := fun i => by
    have e1 : heldW f = hW (f.sp.take i) ++ hW (f.sp.drop i) := by
      unfold heldW hW
      rw [← List.flatMap_append, List.take_append_drop]
    rw [e1, List.length_append]
    omega
  refine ds_asg (dm_lstO (am_nil ⟨by simp, gm_name sc_law_given.nd (i := 2) rfl ?_⟩))
  refine ds_for PassesOwn.never (im_tup (ixT (nm 1 ⟨_, _, rfl, rfl, tmm ⟨fun i ρ μ => (∃ o3 o4 o5, ρ = [some (.own 0), some (.dat (frD f)), some (.own 1), o3, o4, o5]) ∧ ∃ cs, ∃ gv : List (Way × Rat), μ = [.L cs, .L ((gv.map gmI).map Rv.dat)] ∧ Row cs ∧ (gv.map (·.1)).Sublist (hW (f.sp.take i)) ∧ ∀ p ∈ gv, QOk p.2, ⟨⟨_, _, _, rfl⟩, rs, [], rfl, hrow, by simp, fun _ h => nomatch h⟩, ?_, ?_⟩⟩)))
  · rintro i d ρ μ hd ⟨⟨o3, o4, o5, rfl⟩, cs, gv, rfl, hc, hsub, hq⟩
    rw [List.getElem?_map] at hd
    obtain ⟨S, hs, rfl⟩ := Option.map_eq_some_iff.mp hd
    obtain ⟨hi, hs2⟩ := List.getElem?_eq_some_iff.mp hs
    refine gm_of_j (js := [3, 4]) (gj_tup (gjs_cons (gj_name (i := 3) sc_law_given.nd rfl (gjs_cons (gj_name (i := 4) sc_law_given.nd rfl (gjs_nil ?_))))))
    refine ds_for PassesOwn.never (im_kS (nm 4 ⟨_, rfl, fun j ρ μ => (∃ o5, ρ = [some (.own 0), some (.dat (frD f)), some (.own 1), some (.dat (.int (S.1 : Nat))), some (.dat (.str (kS S.2))), o5]) ∧ ∃ cs, ∃ gv : List (Way × Rat), μ = [.L cs, .L ((gv.map gmI).map Rv.dat)] ∧ Row cs ∧ (gv.map (·.1)).Sublist (hW (f.sp.take i) ++ (S.2.take j).map fun l => (S.1, l)) ∧ ∀ p ∈ gv, QOk p.2, ⟨⟨_, rfl⟩, cs, gv, rfl, hc, by simpa using hsub, hq⟩, ?_, ?_⟩))
    · clear hc hsub hq cs gv
      rintro j d ρ μ hd ⟨⟨o5, rfl⟩, cs, gv, rfl, hc, hsub, hq⟩
      rw [List.getElem?_map] at hd
      obtain ⟨l, hl, rfl⟩ := Option.map_eq_some_iff.mp hd
      obtain ⟨hj, hl2⟩ := List.getElem?_eq_some_iff.mp hl
      refine gm_name sc_law_given.nd (i := 5) rfl ?_
      have hgl : gv.length ≤ 100 := by
        have h1 := hsub.length_le
        have h2 := htk (i + 1)
        rw [hW_take hi, hs2, List.length_append, List.length_map] at h2
        rw [List.length_map, List.length_append, List.length_map, List.length_take] at h1
        omega
      refine ds_if (tm_cmp op_eq (nomark _) (dm_callR c_taken (hr.mono (by decide)) rfl (am_cons (nm 0 (am_cons (dm_int (am_nil ⟨0, [.int 2], _, rfl, rfl, hc, 2, rfl, by decide, fun t t0 t1 cs' hcs => dm_int (opd_eqI (bm ⟨fun _ => ?_, fun _ => ?_⟩))⟩)))))))
      · refine ds_expr (dm_append (nm 2 ⟨1, _, rfl, rfl, dm_tup (ac (nm 3 (dmm (ac (nm 5 (dmm (a1 (dm_call c_low (hr.mono (by decide)) rfl (ac (dm_callR c_signed hr rfl (am_cons (nm 0 (am_cons (dm_int (am_nil ⟨0, [.int 5], _, rfl, rfl, hcs, 5, rfl, by decide, by decide, fun t t0 t1 cs' hcs => ?_⟩)))))))))))))))⟩))
        refine dmm (a1 (dm_bin op_add (dm_int (dm_callR c_taken (hr.mono (by decide)) rfl (am_cons (nm 0 (am_cons (dm_int (am_nil ⟨0, [.int 4], _, rfl, rfl, hcs, 4, rfl, by decide, fun u u0 u1 cs' hcs => opd_I0 (dmm ⟨_, _, rfl, ?_, dmm ⟨by simp, _, rfl, ?_, ds_nil (ds_nil ⟨⟨_, rfl⟩, cs', gv ++ [((S.1, l), Rat.divInt t (1 + u))], ?_, hcs, ?_, ?_⟩)⟩⟩)⟩)))))))))
        · omega
        · simp
          omega
        · rw [List.map_append, List.map_append]
          rfl
        · rw [List.take_succ_eq_append_getElem hj, hl2, List.map_append, List.map_append, ← List.append_assoc]
          exact hsub.append (List.Sublist.refl _)
        · intro p hp
          rcases List.mem_append.mp hp with hp | hp
          · exact hq p hp
          · rw [List.mem_singleton.mp hp]
            exact QOk.of (by omega) (by omega) (by omega) (by omega)
      · refine ds_nil (ds_nil ⟨⟨_, rfl⟩, cs', gv, rfl, hcs, ?_, hq⟩)
        rw [List.take_succ_eq_append_getElem hj, hl2, List.map_append, ← List.append_assoc]
        exact hsub.trans (List.sublist_append_left _ _)
    · clear hc hsub hq cs gv
      rintro ρ μ ⟨⟨o5, rfl⟩, cs, gv, rfl, hc, hsub, hq⟩
      refine ds_nil ⟨⟨_, _, _, rfl⟩, cs, gv, rfl, hc, ?_, hq⟩
      rw [hW_take hi, hs2]
      rw [List.length_map, List.take_length] at hsub
      exact hsub
  · rintro ρ μ ⟨⟨o3, o4, o5, rfl⟩, cs, gv, rfl, hc, hsub, hq⟩
    rw [List.length_map, List.take_length] at hsub
    exact ds_ret (dm_tuple rfl T.b_tuple (nm 2 ⟨gv.map gmI, TupR.own rfl rfl, _, rfl, hG gv hsub hq, _, rfl, hc⟩))
def tf_lheld : Tf := fun ds G => ∃ f, ds = [frD f] ∧ (heldW f).length ≤ 100 ∧ (∀ w ∈ heldW f, w.2 < 3) ∧ ∀ kds, kds.length ≤ 100 → G (dD kds)
theorem can_lheld (T : Txt K mg) : Can P w K mg base "_law_held" 1 p_law_held (PureSp K tf_lheld) := by
  refine can_pure 73 T sc_law_held (fun _ _ _ _ _ _ us hl => match us, hl with | [_], _ => rfl) (fun ds G h => by obtain ⟨q, rfl, _⟩ := h; rfl) fun fa cdv B outer s H E hr ds G h => ?_
  obtain ⟨f, rfl, hlen, h3, hG⟩ := h
  have hsp : ∀ i, heldW f = hW (f.sp.take i) ++ hW (f.sp.drop i) := fun i => by
    unfold heldW hW
    rw [← List.flatMap_append, List.take_append_drop]
  refine ds_asg (dm_dctO (gm_name sc_law_held.nd (i := 1) rfl ?_))
  refine ds_for PassesOwn.never (im_tup (ixT (nm 0 ⟨_, _, rfl, rfl, tmm ⟨fun i ρ μ => (∃ o2 o3 o4, ρ = [some (.dat (frD f)), some (.own 0), o2, o3, o4]) ∧ ∃ kds : List (List Key × PyData), μ = [.M (kds.map fun p => (p.1, Rv.dat p.2))] ∧ kds.length ≤ (hW (f.sp.take i)).length, ⟨⟨_, _, _, rfl⟩, [], rfl, by simp⟩, ?_, ?_⟩⟩)))
  · rintro i d ρ μ hd ⟨⟨o2, o3, o4, rfl⟩, kds, rfl, hkl⟩
    rw [List.getElem?_map] at hd
    obtain ⟨S, hs, rfl⟩ := Option.map_eq_some_iff.mp hd
    obtain ⟨hi, hs2⟩ := List.getElem?_eq_some_iff.mp hs
    refine gm_of_j (js := [2, 3]) (gj_tup (gjs_cons (gj_name (i := 2) sc_law_held.nd rfl (gjs_cons (gj_name (i := 3) sc_law_held.nd rfl (gjs_nil ?_))))))
    refine ds_for PassesOwn.never (im_kS (nm 3 ⟨_, rfl, fun j ρ μ => (∃ o4, ρ = [some (.dat (frD f)), some (.own 0), some (.dat (.int (S.1 : Nat))), some (.dat (.str (kS S.2))), o4]) ∧ ∃ kds : List (List Key × PyData), μ = [.M (kds.map fun p => (p.1, Rv.dat p.2))] ∧ kds.length ≤ (hW (f.sp.take i)).length + j, ⟨⟨_, rfl⟩, kds, rfl, hkl⟩, ?_, ?_⟩))
    · clear hkl kds
      rintro j d ρ μ hd ⟨⟨o4, rfl⟩, kds, rfl, hkl⟩
      rw [List.getElem?_map] at hd
      obtain ⟨l, hl, rfl⟩ := Option.map_eq_some_iff.mp hd
      obtain ⟨hj, hl2⟩ := List.getElem?_eq_some_iff.mp hl
      have hmem : (S.1, l) ∈ heldW f := by
        rw [hsp (i + 1), hW_take hi, hs2]
        exact List.mem_append_left _ (List.mem_append_right _ (List.mem_map.mpr ⟨l, List.mem_of_getElem? hl, rfl⟩))
      obtain ⟨z, z1, z2, z3⟩ := let_ix l (h3 _ hmem)
      have h2 : (hW (f.sp.take i)).length + j ≤ 100 := by
        have e := congrArg List.length (hsp (i + 1))
        rw [hW_take hi, hs2, List.length_append, List.length_append, List.length_map] at e
        omega
      refine gm_name sc_law_held.nd (i := 4) rfl ?_
      refine ds_dputT (u1 hr) (dm_bool (nm 1 (am_cons (nm 2 (am_cons (dm_index (u65 hr) (dm_lst (ac (dm_str (dmm (ac (dm_str (dmm (a1 (dm_str (dmm ⟨by simp, lm (nm 4 (dmm ?_))⟩))))))))))))))))
      refine ⟨l, z, (by decide +kernel), lt_shp l, z1, z2, z3, am_nil ⟨0, [.inl (S.1 : Nat), .inl (l : Nat)], _, rfl, rfl, by simp, rfl, by simp; omega, ds_nil ⟨⟨_, rfl⟩, pk kds [.inl (S.1 : Nat), .inl (l : Nat)] (.bool true), ?_, ?_⟩⟩⟩
      · rw [← pk_mapd]
        rfl
      · have := pk_le kds [.inl (S.1 : Nat), .inl (l : Nat)] (.bool true)
        omega
    · clear hkl kds
      rintro ρ μ ⟨⟨o4, rfl⟩, kds, rfl, hkl⟩
      refine ds_nil ⟨⟨_, _, _, rfl⟩, kds, rfl, ?_⟩
      rw [hW_take hi, hs2, List.length_append, List.length_map]
      rw [List.length_map] at hkl
      exact hkl
  · rintro ρ μ ⟨⟨o2, o3, o4, rfl⟩, kds, rfl, hkl⟩
    rw [List.length_map, List.take_length] at hkl
    refine ds_frzM (n := 0) kds rfl ?_ (ds_ret (nz 1 ⟨_, rfl, hG kds (Nat.le_trans hkl hlen)⟩))
    exact paired_mapd _ kds
end
end BW

namespace BW
open PySem PySem.Spec PyProof.Rows L2
section
variable {X : Cx} {ρ : Rho} {μ : Mu} {a b c e f tg o : Expr} {es : List Expr} {x : Str} {p pos : Pos} {J : Jm} {rest : List Stmt} {Q : PR}
/-- an if of which only the two ways are told -/
theorem ds_ifAny {A B : List Stmt} (h : Tm X ρ μ c fun μ1 _ => μ1 = μ) (ha : Ds X ρ μ A { J with nx := fun ρ' μ' => Ds X ρ' μ' rest J }) (hb : Ds X ρ μ B { J with nx := fun ρ' μ' => Ds X ρ' μ' rest J }) : Ds X ρ μ (.If c A B pos :: rest) J :=
  ds_if (h.imp fun μ1 k e => by subst e; exact ⟨fun _ => ha, fun _ => hb⟩)
theorem dm_callL {i k : Nat} {y : Str} {ps : List Str} {A : Tf} {g : Addr} (C : Can X.prog X.w X.K X.mg X.base y k ps (PureSp X.K A)) (hy : X.mg y = some (.ref g)) (hr : Room k X.A) (h : Am X ρ μ (e :: es) (DatsP fun μ1 ds => A ds fun d => Q μ1 (.dat d))) (hN : X.N[i]? = some x := by rfl) (hρ : ρ[i]? = some (some (.raw (.ref g))) := by rfl) (hv : Vis X.env.scope x := by first | exact Or.inl rfl | exact Or.inr (Or.inl rfl) | exact Or.inr (Or.inr rfl))
    (hdb : (x == ("__debug__" : Str)) = false := by decide) (hcd : (x == ("__classdict__" : Str)) = false := by decide) (he : starEach (e :: es) X.env = (false, eval e X.env) :: starEach es X.env := by rfl) (hpl : (backTo pos (starEach es X.env)).any (·.1) = false := by rfl) (hx : X.xe = fun _ _ => False := by rfl) : Dm X ρ μ (.Call (.Name x p) (e :: es) [] pos) Q := fun R F H as σ S Q' q => by
  obtain ⟨f, fd, G, hm, hk, hb⟩ := C.ex
  rw [hy] at hm
  cases hm
  refine We.of (pe_callL (i := i) (dvs := []) (ds := []) (E := fun _ _ _ => False) G hr hN hv hk hb .nil pass0 (Wa.pa X (e :: es)) hdb hcd he hpl) ?_
  obtain ⟨v, hv1, hv2⟩ := S.slt i _ hρ
  obtain rfl : v = .ref g := hv2
  refine ⟨hv1, ?_⟩
  refine h R F H as σ S _ fun vs F1 H1 as1 μ1 rs S1 x1 o1 h1 => ?_
  obtain ⟨ds, rfl, h1⟩ := h1
  rw [List.append_nil]
  exact call_pure S1 (rpA_of o1) h1 (q.ext x1)
end
/-! ### a def that takes the row, data and one def -/
def RowSpF (K : PySem.W.Frag) (g : Addr) (A : Tf) : Sp := fun vs H Q E => ∃ vs0, vs = vs0 ++ [.ref g] ∧ RowSp K A vs0 H Q E
section
variable {X : Cx} {ρ : Rho} {μ : Mu} {P : PR} {e : Expr} {es : List Expr} {x : Str} {p pos : Pos} {k : Nat} {ps : List Str} {A : Tf}
theorem dm_callRF {g : Addr} (C : Can X.prog X.w X.K X.mg X.base x k ps (RowSpF X.K g A)) (hr : Room k X.A) (hg : Gl X x) (h : Am X ρ μ (e :: es) fun μ1 rs => ∃ n ds cs, rs = .own n :: (ds.map Rv.dat ++ [.raw (.ref g)]) ∧ μ1[n]? = some (.L cs) ∧ Row cs ∧ A ds fun d => ∀ cs', Row cs' → P (μ1.set n (.L cs')) (.dat d)) (hdb : (x == ("__debug__" : Str)) = false := by decide)
    (he : starEach (e :: es) X.env = (false, eval e X.env) :: starEach es X.env := by rfl) (hpl : (backTo pos (starEach es X.env)).any (·.1) = false := by rfl) (hx : X.xe = fun _ _ => False := by rfl) : Dm X ρ μ (.Call (.Name x p) (e :: es) [] pos) P := fun R F H as σ S Q q => by
  obtain ⟨f, fd, G, hm, hk, hb⟩ := C.ex
  refine We.of (pe_call G hr hg hm hk hb .nil pass0 (Wa.pa X (e :: es)) hdb he hpl) ?_
  refine h R F H as σ S _ fun vs F1 H1 as1 μ1 rs S1 x1 o1 h1 => ?_
  obtain ⟨n, ds, cs, rfl, hn, hrow, h1⟩ := h1
  rw [List.append_nil]
  cases o1 with
  | @cons v0 r0 vs rs0 o1 o2 =>
    have key : ∀ (vs : List V) (rs : List Rv), Paired (ROk X.K F1 as1) vs (rs ++ [.raw (.ref g)]) → ∃ vs0, vs = vs0 ++ [.ref g] ∧ Paired (ROk X.K F1 as1) vs0 rs := by
      intro vs rs
      induction rs generalizing vs with
      | nil =>
        intro h
        cases h with
        | cons h t =>
          cases t
          obtain rfl := (show _ = V.ref g from h)
          exact ⟨[], rfl, .nil⟩
      | cons r rs ih =>
        intro h
        cases h with
        | cons h t =>
          obtain ⟨vs0, rfl, h2⟩ := ih _ t
          exact ⟨_ :: vs0, rfl, .cons h h2⟩
    obtain ⟨vs0, rfl, o3⟩ := key _ _ o2
    exact ⟨v0 :: vs0, rfl, call_row S1 o1 hn hrow (rpA_of o3) h1 (q.ext x1)⟩
end
theorem row_fnF {P : Program} {w : World} {K : PySem.W.Frag} {mg : Str → Option Value} {base : Heap} {x qual : Str} {params : Arguments} {body : List Stmt} {scope : Scope} {f : Addr} {fd : FuncData} {N ps : List Str} {k : Nat} {T : Tf} {g : Addr} (F : FunD K x qual params body scope [] [] f fd) (S : FnScope N ps scope)
    (hT : ∀ ds G, T ds G → ds.length + 2 = ps.length)
    (hbody : ∀ (cdv : Value) (A : Around) (outer : List Env) (s : Shared) (H : Hp) (E : XK), Room k (A.deeper (envOfC qual scope s.heap.objs.size f cdv)) → ∀ ds G rs, Row rs → T ds G →
      Ds (XOf P w K mg base N qual scope f cdv A outer s H E) (some (.own 0) :: (ds.map (fun d => some (Rv.dat d)) ++ some (.raw (.ref g)) :: List.replicate (N.length - (ds.length + 2)) none)) [.L rs] body (retR G)) : FnOk P w K mg base CX0 (k + 1) f fd ps (RowSpF K g T) := by
  refine F.ok S (fun vs H Q E h => ?_) fun cdv A outer s H vs Q E hr h => ?_
  · obtain ⟨vs0, rfl, R, F, a, ws, vs', rs, ds, G, rfl, _, _, _, _, _, _, _, _, r, hA, _⟩ := h
    rw [List.length_append, List.length_cons, r.length]
    exact hT ds G hA
  · obtain ⟨vs0, rfl, R, F, a, ws, vs', rs, ds, G, rfl, ha1, ha2, ha3, h1, h2, h3, hrow, hp, r, hA, hQ⟩ := h
    refine ⟨_, PSs.nox (Wb.ps _ _), ?_⟩
    have hl : L2.start N (.ref a :: vs' ++ [.ref g]) = some (.ref a) :: (vs'.map some ++ some (.ref g) :: List.replicate (N.length - (ds.length + 2)) none) := by
      unfold L2.start
      rw [List.length_append, List.length_cons, r.length]
      simp
    rw [hl]
    refine hbody cdv A outer s H E hr ds G rs hrow hA R F H [a] _ ⟨h1, h2, h3, by simp, rfl, fun n b c e1 e2 => ?_, fun i q e => ?_, ?_⟩ _ ⟨?_, ?_, ?_, ?_⟩
    · cases n with
      | zero =>
        cases e1
        cases e2
        exact ⟨ws, ha1, ha2, ha3, row_pair hrow hp⟩
      | succ n => simp at e1
    · cases i with
      | zero =>
        cases e
        exact ⟨.ref a, rfl, a, rfl, rfl⟩
      | succ i =>
        rw [List.getElem?_cons_succ] at e ⊢
        by_cases hi : i < ds.length
        · rw [List.getElem?_append_left (by rw [List.length_map]; exact hi)] at e
          rw [List.getElem?_append_left (by rw [List.length_map, r.length]; exact hi)]
          have := rho_args (as := [a]) (n := 0) r i q
          simp only [List.replicate_zero, List.append_nil] at this
          exact this e
        · rw [List.getElem?_append_right (by rw [List.length_map]; omega), List.length_map] at e
          rw [List.getElem?_append_right (by rw [List.length_map, r.length]; omega), List.length_map, r.length]
          cases hj : i - ds.length with
          | zero =>
            rw [hj] at e
            cases e
            exact ⟨_, rfl, rfl⟩
          | succ j =>
            rw [hj, List.getElem?_cons_succ, List.getElem?_replicate] at e
            split at e <;> cases e
    · simp [r.length]
    · intro σ' F' H' as' ρ' μ' S' x' g
      exact g.elim
    · rintro v F' H' as' σ' ρ' μ' r' S' x' o ⟨d, rfl, g, rs', hm, hrow'⟩
      have ha : as'[0]? = some a := pre_get x'.p rfl
      obtain ⟨ws', g1, g2, g3, g4⟩ := S'.cel 0 a _ ha hm
      exact hQ v F' H' d ws' rs' S'.rh x'.f S'.fh S'.dj g2 g1 hrow' (row_pair hrow' g4) o g
    · intro σ' F' H' as' ρ' μ' S' x' g
      exact g.elim
    · intro σ' F' H' as' ρ' μ' S' x' g
      exact g.elim
section
variable {P : Program} {w : World} {K : PySem.W.Frag} {mg : Str → Option Value} {base : Heap}
theorem can_rowF {x : Str} {st : Nat} {N ps : List Str} {k : Nat} {A : Tf} {g : Addr} (i : Nat) (T : Txt K mg) (S : FnScope N ps (defScope (top st)))
    (hb : ∀ (kV doc pm : Value) (an : Option Addr) (cdv ct : Value) (us : List Value), us.length = ps.length → bindArgs (PySem.W.fnOf x x (defArgs (top st)) (defBody (top st)) (defScope (top st)) .none kV doc pm an cdv ct) ⟨us, []⟩ = pure (ps.zip us))
    (hT : ∀ ds G, A ds G → ds.length + 2 = ps.length)
    (hbody : ∀ (f : Addr) (cdv : Value) (B : Around) (outer : List Env) (s : Shared) (H : Hp) (E : XK), Room k (B.deeper (envOfC x (defScope (top st)) s.heap.objs.size f cdv)) → ∀ ds G rs, Row rs → A ds G →
      Ds (XOf P w K mg base N x (defScope (top st)) f cdv B outer s H E) (some (.own 0) :: (ds.map (fun d => some (Rv.dat d)) ++ some (.raw (.ref g)) :: List.replicate (N.length - (ds.length + 2)) none)) [.L rs] (defBody (top st)) (retR G)) (hi : fn[i]? = some (dOf x st) := by rfl) : Can P w K mg base x (k + 1) ps (RowSpF K g A) := by
  obtain ⟨fd, F⟩ := T.df i _ hi
  exact ⟨_, fd, row_fnF F S hT fun cdv B outer s H E hr ds G rs hR hA => hbody _ cdv B outer s H E hr ds G rs hR hA, T.gl i _ hi, F.kp, F.bindsN hb⟩
def hgI (x : Nat × Nat) : PyData := .tuple [.int (x.1 : Nat), .int (x.2 : Nat)]
theorem hgI_shp (L : List (Nat × Nat)) : shp (.list (L.map hgI)) = true := shk_up (k := 2) (shk_map fun x => shk_tup fun y hy => by
    have : y = .int (x.1 : Nat) ∨ y = .int (x.2 : Nat) := by simpa using hy
    rcases this with rfl | rfl <;> exact shk_int _) (by decide)
structure HgC (f : Fr) : Prop where
  m8 : f.mb.length ≤ 8
  hl : (heldW f).length ≤ 100
  h3 : ∀ w ∈ heldW f, w.2 < 3
def tf_lhinges : Tf := fun ds G => ∃ f, ds = [frD f] ∧ HgC f ∧ ∀ h, HgOk f h → G (.tuple (hgL h))
theorem can_lhinges (T : Txt K mg) (c_taken : Can P w K mg base "_law_taken" 41 p_law_taken (RowSp K tf_taken)) (c_pick : Can P w K mg base "_law_pick" 42 p_law_pick (RowSp K tf_pick)) (c_held : Can P w K mg base "_law_held" 1 p_law_held (PureSp K tf_lheld)) : Can P w K mg base "_law_hinges" 43 p_law_hinges (RowSp K tf_lhinges) := by
  refine can_row 75 T sc_law_hinges (fun _ _ _ _ _ _ us hl => match us, hl with | [_, _], _ => rfl) (fun ds G h => by obtain ⟨m, rfl, _⟩ := h; rfl) fun fa cdv B outer s H E hr ds G rs hrow h => ?_
  obtain ⟨f, rfl, ⟨m8, hl, h3⟩, hG⟩ := h
  refine two_par sc_law_hinges.nd (i := 2) (j := 3) rfl rfl (by decide) (am_cons (dm_call c_held (hr.mono (by decide)) rfl (a1 (nm 1 (dmm ⟨f, rfl, hl, h3, fun kds hk => am_cons (dm_lstO (am_nil ⟨by simp, am_nil ⟨_, _, rfl, ?_⟩⟩))⟩)))))
  refine ds_for PassesOwn.never (im_range1 rfl T.b_range (dm_len rfl T.b_len (ixT (nm 1 ⟨_, _, rfl, rfl, _, .dat rfl, ?_⟩))))
  rw [List.length_map, List.length_map]
  refine im ⟨by omega, by omega, ?_⟩
  rw [Int.toNat_natCast, show rangeD 0 f.mb.length = _ from rangeD_map 0 f.mb.length, List.map_map]
  refine ⟨fun i ρ μ => (∃ o4 o5 o6 o7 o8, ρ = [some (.own 0), some (.dat (frD f)), some (.dat (dD kds)), some (.own 1), o4, o5, o6, o7, o8]) ∧ ∃ L : List (Nat × Nat), μ = [.L rs, .L ((L.map hgI).map Rv.dat)] ∧ (∀ x ∈ L, x.1 < f.mb.length ∧ x.2 ≤ 1) ∧ L.length ≤ 2 * i, ⟨⟨_, _, _, _, _, rfl⟩, [], rfl, (fun _ h => nomatch h), by simp⟩, ?_, ?_⟩
  · rintro i d ρ μ hd ⟨⟨o4, o5, o6, o7, o8, rfl⟩, L, rfl, hL, hLl⟩
    have hi : i < f.mb.length := by
      have := (List.getElem?_eq_some_iff.mp hd).1
      simpa using this
    rw [List.getElem?_map, List.getElem?_range hi] at hd
    obtain rfl := Option.some.inj hd
    have hMb := List.getElem?_eq_getElem hi
    have hat : atI (f.mb.map mD) (((0 + i : Nat) : Nat) : Int) = some (mD f.mb[i]) := by
      rw [Nat.zero_add]
      exact atI_map hMb
    refine gm_name sc_law_hinges.nd (i := 4) rfl ?_
    refine ds_for PassesOwn.never (im_list (dm_lst (ac (dm_int (dmm (a1 (dm_int (dmm ⟨by simp, lm ⟨fun j ρ μ => (∃ o5 o6 o7 o8, ρ = [some (.own 0), some (.dat (frD f)), some (.dat (dD kds)), some (.own 1), some (.dat (.int ((0 + i : Nat) : Int))), o5, o6, o7, o8]) ∧ ∃ L : List (Nat × Nat), μ = [.L rs, .L ((L.map hgI).map Rv.dat)] ∧ (∀ x ∈ L, x.1 < f.mb.length ∧ x.2 ≤ 1) ∧ L.length ≤ 2 * i + j, ⟨⟨_, _, _, _, rfl⟩, L, rfl, hL, hLl⟩, ?_, ?_⟩⟩))))))))
    · clear hL hLl L
      rintro j d ρ μ hd ⟨⟨o5, o6, o7, o8, rfl⟩, L, rfl, hL, hLl⟩
      have hj : j < 2 ∧ d = .int (j : Nat) := by
        match j, hd with
        | 0, e => exact ⟨by decide, (Option.some.inj e).symm⟩
        | 1, e => exact ⟨by decide, (Option.some.inj e).symm⟩
      obtain ⟨hj, rfl⟩ := hj
      have hnd : ∃ n : Nat, atI ([.int (f.mb[i].i : Nat), .int (f.mb[i].j : Nat), .int f.mb[i].k, .int f.mb[i].s] : List PyData) (j : Int) = some (.int (n : Int)) := by
        match j, hj with
        | 0, _ => exact ⟨_, rfl⟩
        | 1, _ => exact ⟨_, rfl⟩
      obtain ⟨n, hnd⟩ := hnd
      refine gm_name sc_law_hinges.nd (i := 5) rfl ?_
      refine ds_asg (ixE (ixE (ixT (nm 1 ⟨_, _, rfl, rfl, nm 4 (im ⟨_, _, .inl rfl, hat, nm 5 (im ⟨_, _, .inl rfl, hnd, gm_name sc_law_hinges.nd (i := 6) rfl ?_⟩)⟩)⟩))))
      refine ds_setLc (own := [("_law_one", 8)]) sc_law_hinges.nd (blkOk_by (by kernel_rfl)) (i := 7) rfl (im_tup (ixT (nm 1 ⟨_, _, rfl, rfl, tmm ?_⟩)))
      refine lc_filt f.mb mD mD (fun M => (cutD ([.int (M.i : Nat), .int (M.j : Nat), .int M.k, .int M.s] : List PyData) none (some 2)).any fun z => PyData.eqv z (.int (n : Nat))) (by omega) (fun M hM b => gj_name (i := 8) sc_law_hinges.nd rfl (fun b => ?_)) (.inl ⟨_, rfl, ?_⟩)
      · refine tm_cmp (op_inT (u65 hr)) rfl (nm 6 (dm_slT (nm 8 (tmm (pmN (pmC (opd_inT (int_shp _) ?_ (bm ⟨rfl, fun _ b => nm 8 ⟨rfl, rfl⟩, fun _ => rfl⟩))))))))
        exact show shp (.tuple [.int (M.i : Nat), .int (M.j : Nat)]) = true from shk_up (k := 1) (shk_tup fun y hy => by
          have : y = .int (M.i : Nat) ∨ y = .int (M.j : Nat) := by simpa using hy
          rcases this with rfl | rfl <;> exact shk_int _) (by decide)
      refine ds_ifAny ?_ ?_ ?_
      · refine tm_w (wm_or2 (tm_cmp op_gt (nomark _) (dm_len rfl T.b_len (nm 7 ⟨_, .dat rfl, dm_int (opd_B0 (bm ⟨fun _ => rfl, fun _ => ?_⟩))⟩))))
        exact tm_dinT (u1 hr) (am_cons (nm 6 (am_cons (dm_int (am_nil ⟨[.inl (n : Nat), .inl 2], rfl, by simp, nm 2 ⟨_, .dat, rfl⟩⟩)))))
      · refine ds_expr (dm_append (nm 3 ⟨1, _, rfl, rfl, dm_tup (ac (nm 4 (dmm (a1 (nm 5 (dmm ⟨by simp, _, rfl, by simp; omega, ds_nil (ds_nil ⟨⟨_, _, _, _, rfl⟩, L ++ [(i, j)], ?_, fun x hx => ?_, by simp; omega⟩)⟩))))))⟩))
        · rw [List.map_append, List.map_append]
          simp [hgI]
        · rcases List.mem_append.mp hx with hx | hx
          · exact hL x hx
          · rw [List.mem_singleton.mp hx]
            exact ⟨hi, by show j ≤ 1; omega⟩
      · exact ds_nil (ds_nil ⟨⟨_, _, _, _, rfl⟩, L, rfl, hL, by omega⟩)
    · clear hL hLl L
      rintro ρ μ ⟨⟨o5, o6, o7, o8, rfl⟩, L, rfl, hL, hLl⟩
      exact ds_nil ⟨⟨_, _, _, _, _, rfl⟩, L, rfl, hL, by simp at hLl; omega⟩
  · rintro ρ μ ⟨⟨o4, o5, o6, o7, o8, rfl⟩, L, rfl, hL, hLl⟩
    have hnone : G (.tuple []) := hG none (fun x e => nomatch e)
    refine ds_if (tm_w (wm_or2 (tm_cmp (op_eqD (Nat.lt_of_succ_lt (u65 hr))) (nomark _) (nm 3 (dm_lst (an ⟨by simp, opd_eqO rfl (hgI_shp L) (by decide +kernel) (bm ⟨fun _ => ⟨fun _ => ?_, fun z => nomatch z⟩, fun hk => ?_⟩)⟩))))))
    · exact ds_ret (dm_tup (an ⟨by simp, _, rfl, hnone, _, rfl, hrow⟩))
    rw [eqv_nil] at hk
    have hne : L.map hgI ≠ [] := by simpa using hk
    refine tm_cmp op_eq (nomark _) (dm_callR c_taken (hr.mono (by decide)) rfl (am_cons (nm 0 (am_cons (dm_int (am_nil ⟨0, [.int 2], _, rfl, rfl, hrow, 2, rfl, by decide, fun t t0 t1 cs' hcs => dm_int (opd_eqI (bm ⟨fun _ => ?_, fun _ => ds_nil ?_⟩))⟩))))))
    · exact ds_ret (dm_tup (an ⟨by simp, _, rfl, hnone, _, rfl, hcs⟩))
    refine ds_ret (dm_tup (a1 (dm_callR c_pick hr rfl (am_cons (nm 0 (am_cons (dm_asd (nm 3 ⟨1, L.map hgI, rfl, rfl, am_nil ⟨0, [.list (L.map hgI)], _, rfl, rfl, hcs, _, rfl, hne, fun i d hid cs' hcs => dmm ⟨by simp, _, rfl, ?_, _, rfl, hcs⟩⟩⟩))))))))
    rw [List.getElem?_map] at hid
    obtain ⟨x, hx, rfl⟩ := Option.map_eq_some_iff.mp hid
    exact hG (some x) (fun y e => by cases e; exact hL x (List.mem_of_getElem? hx))
def tf_stiff : Tf := fun ds G => ∃ f, ds = [frD f] ∧ HgC f ∧ FrC f ∧ FrW f ∧ HeldW f ∧ (free f).length ≤ 100 ∧ (∀ h, ∃ b, Cm b (balM f h) ∧ (b + 1) * 2 ^ (free f).length ≤ 1000000) ∧ ∀ h, HgOk f h → (h = none ∨ motN f h = 0) → G (.tuple (hgL h))
theorem can_stiff (T : Txt K mg) (c_hinges : Can P w K mg base "_law_hinges" 43 p_law_hinges (RowSp K tf_lhinges)) (c_mot : Can P w K mg base "motions" 47 p_motions (PureSp K tf_motions)) : Can P w K mg base "_law_stiff_hinges" 48 p_law_stiff_hinges (RowSpF K (He.ga K "motions") tf_stiff) := by
  refine can_rowF 78 T sc_law_stiff_hinges (fun _ _ _ _ _ _ us hl => match us, hl with | [_, _, _], _ => rfl) (fun ds G h => by obtain ⟨m, rfl, _⟩ := h; rfl) fun fa cdv B outer s H E hr ds G rs hrow h => ?_
  obtain ⟨f, rfl, hg, hC, hW, hH, hf, hb, hG⟩ := h
  have hmot := T.gl 35 _ (by rfl)
  refine ds_asg (dm_callR c_hinges (hr.mono (by decide)) rfl (am_cons (nm 0 (am_cons (nm 1 (am_nil ⟨0, [frD f], _, rfl, rfl, hrow, f, rfl, hg, fun h hh cs' hcs => gm_name sc_law_stiff_hinges.nd (i := 3) rfl ?_⟩))))))
  obtain ⟨b, hb1, hb2⟩ := hb h
  refine ds_ret (dm_if (tm_cmp op_eq (nomark _) (dm_callL c_mot hmot hr (i := 2) (ac (nm 1 (dmm (a1 (nm 3 (dmm ⟨f, h, b, rfl, hC, hh, hW, hH, hb1, hf, hb2, dm_int (opd_eqI (bm ⟨fun hk => ?_, fun _ => ?_⟩))⟩)))))))))
  · exact nm 3 ⟨_, rfl, hG h hh (.inr (by simpa using hk)), _, rfl, hcs⟩
  · exact dm_tup (an ⟨by simp, _, rfl, hG none (fun x e => nomatch e) (.inl rfl), _, rfl, hcs⟩)
end
end BW

namespace BW
open PySem PySem.Spec PyProof.Rows L2
/-! ### a tuple times one -/
theorem tuple_mul1W (l : Addr) (items : Array Value) (n : Nat) (dd : Option Addr) (sl : Array (Option Value)) (u : Tok) :
    Meets (Builtin.«tuple.__mul__» ⟨[.ref l, .int 1 u], []⟩) (fun _ R s => s.heap.get? l = some { cls := .type "tuple", dict := dd, data := .seq items n, slots := sl } ∧ R (.ok (.ret (Value.ref l))) s) :=
  .of_wp fun prog w A R s h => by
    obtain ⟨hp, g, d, tk, os⟩ := s
    obtain ⟨hl, h⟩ := h
    have f1 := AutoSeq1.idx_int
    wp_walk using wpAny_loadPart' hl
    repeat (first
      | (refine wpAny_ite_false (decide_eq_false (by decide)) ?_; wp_walk using wpAny_loadPart' hl)
      | (refine wpAny_ite_true (decide_eq_true (by simp)) ?_; wp_walk using wpAny_loadPart' hl))
    exact ⟨_, rfl, h⟩
def rRep1 (K : PySem.W.Frag) : R2 := fun x y H Q => ∃ l xs, x = .ref l ∧ y = .int 1 ∧ SqT K H l xs ∧ Q (.ref l) H
section
variable {X : Cx} {ρ : Rho} {μ : Mu} {Q : PR}
theorem op_rep1 : OpR X (binaryOp .Mult) (rRep1 X.K) := by
  intro pins s σ H x y v u Q I rx ry h
  obtain ⟨l, xs, rfl, rfl, hT, q⟩ := h
  cases rx
  obtain ⟨t, rfl⟩ := ry
  obtain ⟨its, r, ⟨⟨cls, dd, data, sl⟩, ho, hc, n, hd⟩, hs⟩ := I.tuple hT
  simp only at hc hd
  subst hc hd
  exact wpAny_binaryOp_repeat_ref (T := "tuple") (U := "int") (by decide) ⟨_, ho, rfl⟩ (fun s' => typeIs_int s' 1 t) noFill_tuple_mul F.fills_int_mul F.slot_int_rmul repeat_tuple F.slot_int_index.lookup
    (call_meets F.slot_int_rmul (typeIs_int s 1 t) F.entry_int_rmul (F.args_int_rmul_2 _ _) (int_rmul_tuple 1 t l its.toArray n dd sl)
      ⟨ho, rfl, ⟨_, ho, rfl⟩, call_meets F.slot_tuple_mul ⟨_, ho, rfl⟩ F.entry_tuple_mul (F.args_tuple_mul_2 _ _) (tuple_mul1W l its.toArray n dd sl t) ⟨ho, .ref l, H, I, rfl, q⟩⟩)
theorem opd_rep1 {ds : List PyData} (h : Q μ (.dat (.tuple ds))) : OpD X ρ (rRep1 X.K) μ (.dat (.tuple ds)) (.dat (.int 1)) Q := fun R F H as σ y z S o1 o2 Q' q => by
  obtain ⟨a, xs, rfl, h3, h4⟩ := Rp.tupE o1
  obtain rfl := Rp.intE o2
  exact ⟨a, xs, rfl, rfl, st_up S.fh h3, q _ F H as μ (.dat (.tuple ds)) S (Ext.refl F as) o1 h⟩
/-- t * n, n one at the least -/
def rRepN (K : PySem.W.Frag) : R2 := fun x y H Q => rRep1 K x y H Q ∨ rRepT K x y H Q
theorem op_repN : OpR X (binaryOp .Mult) (rRepN X.K) := by
  intro pins s σ H x y v u Q I rx ry h
  rcases h with h | h
  · exact op_rep1 pins s σ H x y v u Q I rx ry h
  · exact op_repT pins s σ H x y v u Q I rx ry h
theorem opd_repN {ds : List PyData} {k : Nat} (hne : ds ≠ []) (h1 : 1 ≤ k) (h2 : k ≤ 1000) (hl : ds.length ≤ 1000) (h : Q μ (.dat (.tuple (List.replicate k ds).flatten))) : OpD X ρ (rRepN X.K) μ (.dat (.tuple ds)) (.dat (.int (k : Int))) Q := fun R F H as σ y z S o1 o2 Q' q => by
  by_cases hk : k = 1
  · subst hk
    refine .inl (opd_rep1 ?_ R F H as σ y z S o1 o2 Q' q)
    simpa using h
  · exact .inr (opd_repT (k := (k : Int)) hne (by omega) (by omega) hl (by rw [Int.toNat_natCast]; exact h) R F H as σ y z S o1 o2 Q' q)
end
end BW

namespace BW
open PySem PySem.Spec PyProof.Rows L2
def Step (p q : Int × Int) : Prop := (p.1 = q.1 ∧ ((1 ≤ q.2 - p.2 ∧ q.2 - p.2 ≤ 4) ∨ (1 ≤ p.2 - q.2 ∧ p.2 - q.2 ≤ 4))) ∨ (p.2 = q.2 ∧ 1 ≤ q.1 - p.1 ∧ q.1 - p.1 ≤ 4)
structure Shape (N : List (Int × Int)) (E : List (Nat × Nat)) (SP : List (Nat × List Nat)) : Prop where
  n2 : 2 ≤ N.length
  n5 : N.length ≤ 5
  el : E.length + 1 = N.length
  x0 : N[0]? = some (0, 0)
  ee : ∀ (m : Nat) (e : Nat × Nat), E[m]? = some e → e = (m, m + 1) ∨ e = (m + 1, m)
  st : ∀ (m : Nat) (p q : Int × Int), N[m]? = some p → N[m + 1]? = some q → Step p q
  nr : ∀ p ∈ N, 0 ≤ p.1 ∧ p.1 ≤ 20 ∧ 0 ≤ p.2 ∧ p.2 ≤ 20
  nn : N.Nodup
  s5 : SP.length ≤ 5
  sa : SP.Pairwise (fun a b => a.1 < b.1)
  sn : ∀ s ∈ SP, s.1 < N.length
  sk : ∀ s ∈ SP, s.2 ∈ ([[1], [0, 1], [1, 2], [0, 1, 2]] : List (List Nat))
  hx : (0, 0) ∈ hW SP
  hy : (0, 1) ∈ hW SP
  hr : (0, 2) ∈ hW SP ∨ ∃ (j : Nat) (p : Int × Int), (j, 1) ∈ hW SP ∧ N[j]? = some p ∧ p.1 ≠ 0
  f10 : (1, 0) ∉ hW SP
  h5 : N.length = 5 → (0, 2) ∈ hW SP
structure Drawn (f : Fr) : Prop where
  ex : ∃ E, Shape f.nd E f.sp ∧ f.mb.length = E.length ∧ ∀ (m : Nat) (M : Mb), f.mb[m]? = some M → (E[m]? = some (M.i, M.j) ∨ E[m]? = some (M.j, M.i)) ∧ 1 ≤ M.k ∧ M.k ≤ 4 ∧ 1 ≤ M.s ∧ M.s ≤ 6
theorem shape1 {h w : Int} (h1 : 1 ≤ h) (h2 : h ≤ 4) (w1 : 1 ≤ w) (w2 : w ≤ 4) {SP : List (Nat × List Nat)} (hs : SP = [(0, [0, 1, 2])] ∨ ∃ e ∈ ([[0, 1, 2], [0, 1], [1]] : List (List Nat)), SP = [(0, [0, 1, 2]), (2, e)]) : Shape [(0, 0), (0, h), (w, h)] [(0, 1), (1, 2)] SP := by
  refine ⟨by simp, by simp, rfl, rfl, ?_, ?_, ?_, ?_, ?_, ?_, ?_, ?_, ?_, ?_, ?_, ?_, ?_⟩
  · intro m e hm
    match m, hm with
    | 0, hm => exact .inl (Option.some.inj hm).symm
    | 1, hm => exact .inl (Option.some.inj hm).symm
    | m + 2, hm => simp at hm
  · intro m p q hp hq
    match m, hp, hq with
    | 0, hp, hq =>
      obtain rfl := Option.some.inj hp
      obtain rfl := Option.some.inj hq
      exact .inl ⟨rfl, .inl ⟨by show 1 ≤ h - 0; omega, by show h - 0 ≤ 4; omega⟩⟩
    | 1, hp, hq =>
      obtain rfl := Option.some.inj hp
      obtain rfl := Option.some.inj hq
      exact .inr ⟨rfl, by show 1 ≤ w - 0; omega, by show w - 0 ≤ 4; omega⟩
    | m + 2, hp, hq => simp at hq
  · intro p hp
    simp at hp
    rcases hp with rfl | rfl | rfl <;> simp <;> omega
  · simp
    omega
  all_goals
    rcases hs with rfl | ⟨e, he, rfl⟩
    · simp [hW]
    · simp at he
      rcases he with rfl | rfl | rfl <;> simp [hW]
theorem shape2 {h w : Int} (h1 : 1 ≤ h) (h2 : h ≤ 4) (w1 : 1 ≤ w) (w2 : w ≤ 4) {a b : List Nat} (ha : a ∈ ([[0, 1, 2], [0, 1]] : List (List Nat))) (hb : b ∈ ([[0, 1, 2], [0, 1]] : List (List Nat))) : Shape [(0, 0), (0, h), (w, h), (w, 0)] [(0, 1), (1, 2), (3, 2)] [(0, a), (3, b)] := by
  refine ⟨by simp, by simp, rfl, rfl, ?_, ?_, ?_, ?_, ?_, ?_, ?_, ?_, ?_, ?_, ?_, ?_, ?_⟩
  · intro m e hm
    match m, hm with
    | 0, hm => exact .inl (Option.some.inj hm).symm
    | 1, hm => exact .inl (Option.some.inj hm).symm
    | 2, hm => exact .inr (Option.some.inj hm).symm
    | m + 3, hm => simp at hm
  · intro m p q hp hq
    match m, hp, hq with
    | 0, hp, hq =>
      obtain rfl := Option.some.inj hp
      obtain rfl := Option.some.inj hq
      exact .inl ⟨rfl, .inl ⟨by show 1 ≤ h - 0; omega, by show h - 0 ≤ 4; omega⟩⟩
    | 1, hp, hq =>
      obtain rfl := Option.some.inj hp
      obtain rfl := Option.some.inj hq
      exact .inr ⟨rfl, by show 1 ≤ w - 0; omega, by show w - 0 ≤ 4; omega⟩
    | 2, hp, hq =>
      obtain rfl := Option.some.inj hp
      obtain rfl := Option.some.inj hq
      exact .inl ⟨rfl, .inr ⟨by show 1 ≤ h - 0; omega, by show h - 0 ≤ 4; omega⟩⟩
    | m + 3, hp, hq => simp at hq
  · intro p hp
    simp at hp
    rcases hp with rfl | rfl | rfl | rfl <;> simp <;> omega
  · simp
    omega
  case refine_11 => exact .inr ⟨3, (w, 0), by simp at hb; rcases hb with rfl | rfl <;> simp [hW], rfl, by show w ≠ 0; omega⟩
  all_goals
    simp at ha hb
    rcases ha with rfl | rfl <;> rcases hb with rfl | rfl <;> simp [hW]
theorem shape3 {h w t : Int} (h1 : 1 ≤ h) (h2 : h ≤ 4) (w1 : 1 ≤ w) (w2 : w ≤ 4) (t0 : 0 ≤ t) (t1 : t ≤ 2) {b : List Nat} (hb : b ∈ ([[0, 1, 2], [0, 1]] : List (List Nat))) : Shape [(0, 0), (0, h), (w, h), (w + 1 + t, h), (w + 1 + t, 0)] [(0, 1), (1, 2), (2, 3), (4, 3)] [(0, [0, 1, 2]), (4, b)] := by
  refine ⟨by simp, by simp, rfl, rfl, ?_, ?_, ?_, ?_, ?_, ?_, ?_, ?_, ?_, ?_, ?_, ?_, ?_⟩
  · intro m e hm
    match m, hm with
    | 0, hm => exact .inl (Option.some.inj hm).symm
    | 1, hm => exact .inl (Option.some.inj hm).symm
    | 2, hm => exact .inl (Option.some.inj hm).symm
    | 3, hm => exact .inr (Option.some.inj hm).symm
    | m + 4, hm => simp at hm
  · intro m p q hp hq
    match m, hp, hq with
    | 0, hp, hq =>
      obtain rfl := Option.some.inj hp
      obtain rfl := Option.some.inj hq
      exact .inl ⟨rfl, .inl ⟨by show 1 ≤ h - 0; omega, by show h - 0 ≤ 4; omega⟩⟩
    | 1, hp, hq =>
      obtain rfl := Option.some.inj hp
      obtain rfl := Option.some.inj hq
      exact .inr ⟨rfl, by show 1 ≤ w - 0; omega, by show w - 0 ≤ 4; omega⟩
    | 2, hp, hq =>
      obtain rfl := Option.some.inj hp
      obtain rfl := Option.some.inj hq
      exact .inr ⟨rfl, by show 1 ≤ w + 1 + t - w; omega, by show w + 1 + t - w ≤ 4; omega⟩
    | 3, hp, hq =>
      obtain rfl := Option.some.inj hp
      obtain rfl := Option.some.inj hq
      exact .inl ⟨rfl, .inr ⟨by show 1 ≤ h - 0; omega, by show h - 0 ≤ 4; omega⟩⟩
    | m + 4, hp, hq => simp at hq
  · intro p hp
    simp at hp
    rcases hp with rfl | rfl | rfl | rfl | rfl <;> simp <;> omega
  · simp
    omega
  all_goals
    simp at hb
    rcases hb with rfl | rfl <;> simp [hW]
theorem mem_hW {SP : List (Nat × List Nat)} {w : Way} : w ∈ hW SP ↔ ∃ s ∈ SP, s.1 = w.1 ∧ w.2 ∈ s.2 := by
  unfold hW
  rw [List.mem_flatMap]
  constructor
  · rintro ⟨s, hs, hw⟩
    obtain ⟨l, hl, rfl⟩ := List.mem_map.mp hw
    exact ⟨s, hs, rfl, hl⟩
  · rintro ⟨s, hs, e1, e2⟩
    exact ⟨s, hs, List.mem_map.mpr ⟨w.2, e2, by rw [e1]⟩⟩
/-- the nodes of a beam -/
structure Beam (xs : List Int) : Prop where
  x0 : xs[0]? = some 0
  st : ∀ (m : Nat) (a b : Int), xs[m]? = some a → xs[m + 1]? = some b → 1 ≤ b - a ∧ b - a ≤ 4
  sd : xs.Pairwise (· < ·)
  bd : ∀ x ∈ xs, 0 ≤ x ∧ x ≤ 4 * ((xs.length : Int) - 1)
theorem Beam.one : Beam [0] := ⟨rfl, fun m a b h1 h2 => by simp at h2, by simp, by simp⟩
theorem Beam.snoc {xs : List Int} (h : Beam xs) {a t : Int} (ha : xs[xs.length - 1]? = some a) (t0 : 1 ≤ t) (t1 : t ≤ 4) : Beam (xs ++ [a + t]) := by
  have hl : 0 < xs.length := by
    have := (List.getElem?_eq_some_iff.mp ha).1
    omega
  have hle : ∀ x ∈ xs, x ≤ a := fun x hx => by
    obtain ⟨i, hi, rfl⟩ := List.mem_iff_getElem.mp hx
    obtain ⟨hj, e⟩ := List.getElem?_eq_some_iff.mp ha
    by_cases hk : i = xs.length - 1
    · subst hk
      omega
    · have := List.pairwise_iff_getElem.mp h.sd i (xs.length - 1) hi hj (by omega)
      omega
  refine ⟨?_, fun m x y hx hy => ?_, ?_, fun x hx => ?_⟩
  · rw [List.getElem?_append_left hl]
    exact h.x0
  · by_cases hm : m + 1 < xs.length
    · rw [List.getElem?_append_left hm] at hy
      rw [List.getElem?_append_left (by omega)] at hx
      exact h.st m x y hx hy
    · have hlen := (List.getElem?_eq_some_iff.mp hy).1
      rw [List.length_append, List.length_singleton] at hlen
      have e : m = xs.length - 1 := by omega
      subst e
      rw [List.getElem?_append_left (by omega), ha] at hx
      rw [List.getElem?_append_right (by omega), show xs.length - 1 + 1 - xs.length = 0 by omega] at hy
      obtain rfl := Option.some.inj hx
      obtain rfl := Option.some.inj hy
      omega
  · rw [List.pairwise_append]
    refine ⟨h.sd, by simp, fun x hx y hy => ?_⟩
    rw [List.mem_singleton.mp hy]
    have := hle x hx
    omega
  · rw [List.length_append, List.length_singleton]
    rcases List.mem_append.mp hx with hx | hx
    · have := h.bd x hx
      omega
    · rw [List.mem_singleton.mp hx]
      have := h.bd a (List.mem_of_getElem? ha)
      omega
/-- its supports -/
structure BeamS (SP : List (Nat × List Nat)) (k0 : List Nat) : Prop where
  z : SP[0]? = some (0, k0)
  s : ∀ (j : Nat) (s : Nat × List Nat), SP[j + 1]? = some s → s.1 = j + 1 ∧ s.2 ∈ ([[1], [1, 2]] : List (List Nat))
theorem BeamS.ix {SP : List (Nat × List Nat)} {k0 : List Nat} (h : BeamS SP k0) {i : Nat} {s : Nat × List Nat} (hs : SP[i]? = some s) : s.1 = i := by
  cases i with
  | zero =>
    rw [h.z] at hs
    obtain rfl := Option.some.inj hs
    rfl
  | succ i => exact (h.s i s hs).1
theorem BeamS.take {SP : List (Nat × List Nat)} {k0 : List Nat} (h : BeamS SP k0) {n : Nat} (hn : 0 < n) : BeamS (SP.take n) k0 := by
  refine ⟨by rw [List.getElem?_take, if_pos hn]; exact h.z, fun j s hs => h.s j s ?_⟩
  rw [List.getElem?_take] at hs
  split at hs
  · exact hs
  · cases hs
theorem shape0 {xs : List Int} {SP : List (Nat × List Nat)} {k0 : List Nat} (hb : Beam xs) (hs : BeamS SP k0) (n2 : 2 ≤ xs.length) (n4 : xs.length ≤ 4) (hk : k0 = [0, 1, 2] ∨ k0 = [0, 1] ∧ SP.length = xs.length) (hl : SP.length ≤ xs.length) : Shape (xs.map fun x => (x, (0 : Int))) ((List.range (xs.length - 1)).map fun a => (a, a + 1)) SP := by
  have hmem0 : (0, k0) ∈ SP := List.mem_of_getElem? hs.z
  have hk01 : 0 ∈ k0 ∧ 1 ∈ k0 ∧ k0 ∈ ([[1], [0, 1], [1, 2], [0, 1, 2]] : List (List Nat)) := by
    rcases hk with rfl | ⟨rfl, _⟩ <;> decide
  refine ⟨by simpa using n2, by rw [List.length_map]; omega, by rw [List.length_map, List.length_range, List.length_map]; omega, by rw [List.getElem?_map, hb.x0]; rfl, fun m e he => ?_, fun m p q hp hq => ?_, fun p hp => ?_, ?_, by omega, ?_, fun s hs1 => ?_, fun s hs1 => ?_, mem_hW.mpr ⟨_, hmem0, rfl, hk01.1⟩, mem_hW.mpr ⟨_, hmem0, rfl, hk01.2.1⟩, ?_, ?_, fun e => ?_⟩
  · rw [List.getElem?_map] at he
    obtain ⟨a, ha, rfl⟩ := Option.map_eq_some_iff.mp he
    obtain ⟨h1, h2⟩ := List.getElem?_eq_some_iff.mp ha
    rw [List.getElem_range] at h2
    subst h2
    exact .inl rfl
  · rw [List.getElem?_map] at hp hq
    obtain ⟨a, ha, rfl⟩ := Option.map_eq_some_iff.mp hp
    obtain ⟨b, hb2, rfl⟩ := Option.map_eq_some_iff.mp hq
    have := hb.st m a b ha hb2
    exact .inr ⟨rfl, this.1, this.2⟩
  · obtain ⟨x, hx, rfl⟩ := List.mem_map.mp hp
    have := hb.bd x hx
    exact ⟨this.1, by show x ≤ 20; omega, Int.le_refl 0, (by decide : (0 : Int) ≤ 20)⟩
  · rw [List.nodup_iff_pairwise_ne, List.pairwise_map]
    exact hb.sd.imp fun {a b} hab e => by
      have := congrArg Prod.fst e
      have : a = b := this
      omega
  · rw [List.pairwise_iff_getElem]
    intro i j hi hj hij
    rw [hs.ix (List.getElem?_eq_getElem hi), hs.ix (List.getElem?_eq_getElem hj)]
    exact hij
  · obtain ⟨i, hi, rfl⟩ := List.mem_iff_getElem.mp hs1
    rw [hs.ix (List.getElem?_eq_getElem hi), List.length_map]
    omega
  · obtain ⟨i, hi, rfl⟩ := List.mem_iff_getElem.mp hs1
    cases i with
    | zero =>
      have e := hs.z
      rw [List.getElem?_eq_getElem hi] at e
      rw [Option.some.inj e]
      exact hk01.2.2
    | succ i =>
      have := (hs.s i _ (List.getElem?_eq_getElem hi)).2
      simp at this
      rcases this with e | e <;> rw [e] <;> decide
  · rcases hk with rfl | ⟨rfl, hk⟩
    · exact .inl (mem_hW.mpr ⟨_, hmem0, rfl, by decide⟩)
    · have h1 : 1 < SP.length := by omega
      have h2 := hs.s 0 _ (List.getElem?_eq_getElem h1)
      have h3 : 1 < xs.length := by omega
      refine .inr ⟨1, (xs[1], 0), mem_hW.mpr ⟨_, List.getElem_mem h1, h2.1, ?_⟩, by rw [List.getElem?_map, List.getElem?_eq_getElem h3]; rfl, ?_⟩
      · have := h2.2
        simp at this
        rcases this with e | e <;> rw [e] <;> decide
      · have := hb.st 0 0 xs[1] hb.x0 (List.getElem?_eq_getElem h3)
        show xs[1] ≠ 0
        omega
  · rw [mem_hW]
    rintro ⟨s, hs1, e1, e2⟩
    obtain ⟨i, hi, rfl⟩ := List.mem_iff_getElem.mp hs1
    have e3 := hs.ix (List.getElem?_eq_getElem hi)
    have e1' : SP[i].1 = 1 := e1
    have : i = 0 + 1 := by omega
    subst this
    have := (hs.s 0 _ (List.getElem?_eq_getElem hi)).2
    simp at this
    rcases this with e | e
    · rw [e] at e2
      exact absurd e2 (by decide)
    · rw [e] at e2
      exact absurd e2 (by decide)
  · rw [List.length_map] at e
    omega
end BW

namespace BW
open PySem PySem.Spec PyProof.Rows L2
section
variable {X : Cx} {ρ : Rho} {μ : Mu} {a b c e f tg o : Expr} {es : List Expr} {x : Str} {p pos : Pos} {J : Jm} {rest : List Stmt} {Q : PR}
theorem Ds.nxm {ss : List Stmt} {N N' : Rho → Mu → Prop} (h : Ds X ρ μ ss { J with nx := N }) (i : ∀ ρ μ, N ρ μ → N' ρ μ) : Ds X ρ μ ss { J with nx := N' } := fun R F H as σ S D j =>
  h R F H as σ S D ⟨fun σ' F' H' as' ρ' μ' S' x' h' => j.nx σ' F' H' as' ρ' μ' S' x' (i _ _ h'), j.rt, j.bk, j.ct⟩
/-- an if whose ways meet in N -/
theorem ds_ifTo {A B : List Stmt} (N : Rho → Mu → Prop) (h : Tm X ρ μ c fun μ1 k => (k = true → Ds X ρ μ1 A { J with nx := N }) ∧ (k = false → Ds X ρ μ1 B { J with nx := N })) (hn : ∀ ρ' μ', N ρ' μ' → Ds X ρ' μ' rest J) : Ds X ρ μ (.If c A B pos :: rest) J :=
  ds_if (h.imp fun μ1 k z => ⟨fun e => (z.1 e).nxm hn, fun e => (z.2 e).nxm hn⟩)
theorem tup2 {k} (h : Dm X ρ μ a (IntP fun μ1 i => Dm X ρ μ1 b (IntP fun μ2 j => Q μ2 (.dat (.tuple [.int i, .int j]))))) (hs : starEach [a, b] X.env = (false, eval a X.env) :: starEach [b] X.env := by rfl) (hs2 : starEach [b] X.env = (false, eval b X.env) :: starEach [] X.env := by rfl) : Dm X ρ μ (.Tuple [a, b] k pos) Q :=
  dm_tup (am_cons (h.imp fun μ1 r ⟨i, er, h1⟩ => am_cons (h1.imp fun μ2 r2 ⟨j, er2, h2⟩ => am_nil ⟨[.int i, .int j], by subst er er2; rfl, by simp, h2⟩) hs2) hs)
/-- a draw -/
theorem dm_draw {m : Int} {k : Nat} {cs : List Rv} {μt : Mu} (C : Can X.prog X.w X.K X.mg X.base "_law_taken" k p_law_taken (RowSp X.K tf_taken)) (hr : Room k X.A) {j} {p1 p2 : Pos} (hc : Row cs) (hm : 0 < m) (h : ∀ t cs', 0 ≤ t → t < m → Row cs' → Q (.L cs' :: μt) (.dat (.int t))) (h0 : ρ[0]? = some (some (.own 0)) := by rfl) (hN : X.N[0]? = some ("_law_row" : Str) := by rfl) (hg : Gl X "_law_taken" := by rfl)
    (hv : Vis X.env.scope "_law_row" := by first | exact Or.inl rfl | exact Or.inr (Or.inl rfl) | exact Or.inr (Or.inr rfl)) (hs : starEach [.Name "_law_row" p1, .Constant (.int m) j p2] X.env = (false, eval (.Name "_law_row" p1) X.env) :: starEach [.Constant (.int m) j p2] X.env := by rfl) (hs2 : starEach [.Constant (.int m) j p2] X.env = (false, eval (.Constant (.int m) j p2) X.env) :: starEach [] X.env := by rfl) (hpl : (backTo pos (starEach [.Constant (.int m) j p2] X.env)).any (·.1) = false := by rfl) (hx : X.xe = fun _ _ => False := by rfl) :
    Dm X ρ (.L cs :: μt) (.Call (.Name "_law_taken" p) [.Name "_law_row" p1, .Constant (.int m) j p2] [] pos) Q :=
  dm_callR C hr hg (am_cons (dm_name hN h0 (am_cons (dm_int (am_nil ⟨0, [.int m], cs, rfl, rfl, hc, m, rfl, hm, fun t t0 t1 cs' hcs => h t cs' t0 t1 hcs⟩)) hs2) hv (by decide) (by decide)) hs) (by decide) hs hpl hx
end
/-! ### lists of pairs of whole numbers, as written -/
inductive IntE (X : Cx) (ρ : Rho) : Expr → Int → Prop
  | c {i : Int} {j} {pos : Pos} : IntE X ρ (.Constant (.int i) j pos) i
  | n {x : Str} {pos : Pos} {i : Int} (k : Nat) (hN : X.N[k]? = some x) (hr : ρ[k]? = some (some (.dat (.int i)))) (hv : Vis X.env.scope x) (hd : (x == ("__debug__" : Str)) = false) (hcd : (x == ("__classdict__" : Str)) = false) : IntE X ρ (.Name x pos) i
theorem IntE.dm {X : Cx} {ρ : Rho} {μ : Mu} {e : Expr} {i : Int} {Q : PR} (h : IntE X ρ e i) (q : Q μ (.dat (.int i))) : Dm X ρ μ e Q := by
  cases h with
  | c => exact dm_int q
  | n k hN hr hv hd hcd => exact dm_name hN hr q hv hd hcd
theorem IntE.star {X : Cx} {ρ : Rho} {e : Expr} {i : Int} (h : IntE X ρ e i) (es : List Expr) : starEach (e :: es) X.env = (false, eval e X.env) :: starEach es X.env := by
  cases h <;> rfl
inductive PrsE (X : Cx) (ρ : Rho) : List Expr → List (Int × Int) → Prop
  | nil : PrsE X ρ [] []
  | cons {a b : Expr} {i j : Int} {k} {p : Pos} {es : List Expr} {L : List (Int × Int)} : IntE X ρ a i → IntE X ρ b j → PrsE X ρ es L → PrsE X ρ (.Tuple [a, b] k p :: es) ((i, j) :: L)
theorem Am.imp {X : Cx} {ρ : Rho} {μ : Mu} {es : List Expr} {P P' : Mu → List Rv → Prop} (h : Am X ρ μ es P) (i : ∀ μ rs, P μ rs → P' μ rs) : Am X ρ μ es P' := fun R F H as σ S Q q => h R F H as σ S Q fun vs F' H' as' μ' rs S' x o p => q vs F' H' as' μ' rs S' x o (i μ' rs p)
/-! ### the same, closed: what stands in a structure is not opened by the elaborator -/
structure Dw (X : Cx) (ρ : Rho) (μ : Mu) (ss : List Stmt) (J : Jm) : Prop where
  h : Ds X ρ μ ss J
structure Aw (X : Cx) (ρ : Rho) (μ : Mu) (es : List Expr) (P : Mu → List Rv → Prop) : Prop where
  h : Am X ρ μ es P
structure Ew (X : Cx) (ρ : Rho) (μ : Mu) (e : Expr) (P : PR) : Prop where
  h : Dm X ρ μ e P
section
variable {X : Cx} {ρ : Rho} {μ : Mu} {a b c e f tg o : Expr} {es : List Expr} {x y : Str} {p pos : Pos} {J : Jm} {rest : List Stmt} {Q : PR}
theorem aw_nil {P : Mu → List Rv → Prop} (h : P μ []) : Aw X ρ μ [] P := ⟨am_nil h⟩
theorem aw_cons {P : Mu → List Rv → Prop} (h : Ew X ρ μ e fun μ1 r => Aw X ρ μ1 es fun μ2 rs => P μ2 (r :: rs)) (hs : starEach (e :: es) X.env = (false, eval e X.env) :: starEach es X.env := by rfl) : Aw X ρ μ (e :: es) P := ⟨am_cons (h.h.imp fun _ _ z => z.h) hs⟩
theorem ew_lstO (h : Aw X ρ μ es fun μ1 rs => rs.length ≤ 1000 ∧ Q (μ1 ++ [.L rs]) (.own μ1.length)) : Ew X ρ μ (.List es pos) Q := ⟨dm_lstO h.h⟩
theorem two_parW {i j : Nat} {px py pt : Pos} {kt k2 pt2} (hN : X.N.Nodup) (hi : X.N[i]? = some x) (hj : X.N[j]? = some y) (hij : i ≠ j) (hli : Nat.blt i ρ.length = true) (hlj : Nat.blt j ρ.length = true) (hc : X.calm = true) (hx : X.env.scope.names.lookup x = some .local) (hy : X.env.scope.names.lookup y = some .local)
    (hw : swappedStores [.Tuple [.Name x px, .Name y py] kt pt] (.Tuple [a, b] k2 pt2) X.env = pure (some [x, y])) (hs : swapsWithSole [.Tuple [.Name x px, .Name y py] kt pt] (.Tuple [a, b] k2 pt2) pos.line X.env = pure false)
    (h : Aw X ρ μ [a, b] fun μ1 rs => ∃ r1 r2, rs = [r1, r2] ∧ Dw X ((ρ.set i (some r1)).set j (some r2)) μ1 rest J) : Dw X ρ μ (.Assign [.Tuple [.Name x px, .Name y py] kt pt] (.Tuple [a, b] k2 pt2) pos :: rest) J :=
  ⟨two_par hN hi hj hij (h.h.imp fun _ _ ⟨r1, r2, e, z⟩ => ⟨r1, r2, e, z.h⟩) hli hlj hc hx hy hw hs⟩
end
theorem PrsE.am {X : Cx} {ρ : Rho} {μ : Mu} : ∀ {es : List Expr} {L : List (Int × Int)}, PrsE X ρ es L → ∀ {f : Mu → List PyData → Prop}, f μ (L.map pD) → Am X ρ μ es (DatsP f)
  | _, _, .nil, f, h => an h
  | _, _, .cons ha hb t, f, h => am_cons (tup2 (ha.dm (im (hb.dm (im ((PrsE.am t (f := fun μ ds => f μ (_ :: ds)) h).imp fun μ2 rs ⟨ds, e, h2⟩ => ⟨_ :: ds, by rw [e]; rfl, h2⟩))))) (ha.star _) (hb.star _)) rfl
theorem two_prs {X : Cx} {ρ : Rho} {μ : Mu} {es fs : List Expr} {L L' : List (Int × Int)} {x y : Str} {i j : Nat} {px py pt pos p1 p2 : Pos} {kt k2 pt2} {J : Jm} {rest : List Stmt} (hN : X.N.Nodup) (hi : X.N[i]? = some x) (hj : X.N[j]? = some y) (hij : i ≠ j) (h1 : PrsE X ρ es L) (h2 : PrsE X ρ fs L') (l1 : L.length ≤ 1000) (l2 : L'.length ≤ 1000)
    (hli : Nat.blt i ρ.length = true) (hlj : Nat.blt j ρ.length = true) (hc : X.calm = true) (hx : X.env.scope.names.lookup x = some .local) (hy : X.env.scope.names.lookup y = some .local)
    (hw : swappedStores [.Tuple [.Name x px, .Name y py] kt pt] (.Tuple [.List es p1, .List fs p2] k2 pt2) X.env = pure (some [x, y])) (hs : swapsWithSole [.Tuple [.Name x px, .Name y py] kt pt] (.Tuple [.List es p1, .List fs p2] k2 pt2) pos.line X.env = pure false)
    (h : Ds X ((ρ.set i (some (.dat (.list (L.map pD))))).set j (some (.dat (.list (L'.map pD))))) μ rest J) : Dw X ρ μ (.Assign [.Tuple [.Name x px, .Name y py] kt pt] (.Tuple [.List es p1, .List fs p2] k2 pt2) pos :: rest) J :=
  ⟨two_par hN hi hj hij (am_cons (dm_lst (h1.am ⟨by rw [List.length_map]; exact l1, am_cons (dm_lst (h2.am ⟨by rw [List.length_map]; exact l2, am_nil ⟨_, _, rfl, h⟩⟩)) rfl⟩)) rfl) hli hlj hc hx hy hw hs⟩
theorem cell_last (c : Cell) (μt : Mu) (d : Cell) : (c :: (μt ++ [d]))[μt.length + 1]? = some d := by
  rw [List.getElem?_cons_succ, List.getElem?_append_right (Nat.le_refl _), Nat.sub_self]
  rfl
theorem set_last (c : Cell) (μt : Mu) (d d' : Cell) : (c :: (μt ++ [d])).set (μt.length + 1) d' = c :: (μt ++ [d']) := by
  rw [List.set_cons_succ, List.set_append_right _ _ (Nat.le_refl _), Nat.sub_self]
  rfl
theorem atI_neg1 {α : Type} {xs : List α} {x : α} (h : xs[xs.length - 1]? = some x) : atI xs (-1) = some x := by
  have hl := (List.getElem?_eq_some_iff.mp h).1
  have e : ixN xs.length (-1) = some (xs.length - 1) := by
    unfold ixN
    rw [if_neg (by omega), if_pos (by omega)]
    congr 1
    omega
  unfold atI
  rw [e]
  exact h
theorem TupR.lst' {μ : Mu} {ds es : List PyData} (h : ds = es) : TupR μ (.dat (.list ds)) es := by
  subst h
  exact .lst
theorem cut_neg1 {α : Type} (ds : List α) : cutD ds none (some (-1)) = ds.take (ds.length - 1) := by
  unfold cutD
  have e0 : HT.sIx ds.length 0 none = 0 := rfl
  have e1 : HT.sIx ds.length ds.length (some (-1)) = ds.length - 1 := by
    unfold HT.sIx
    simp
    omega
  rw [e0, e1, List.drop_zero, Nat.sub_zero]
theorem rangeD0 (n : Nat) : rangeD 0 n = (List.range n).map fun i => PyData.int ((0 + i : Nat) : Int) := (rangeD_map 0 n).trans (List.map_map ..)
theorem k_xyr : ("xyr" : Str) = kS [0, 1, 2] := by decide +kernel
theorem k_xy : ("xy" : Str) = kS [0, 1] := by decide +kernel
theorem k_y : ("y" : Str) = kS [1] := by decide +kernel
theorem k_yr : ("yr" : Str) = kS [1, 2] := by decide +kernel
section
variable {P : Program} {w : World} {K : PySem.W.Frag} {mg : Str → Option Value} {base : Heap}
def tf_lframe : Tf := fun ds G => ds = [] ∧ ∀ f, Drawn f → G (frD f)
def eI (e : Nat × Nat) : PyData := .tuple [.int (e.1 : Nat), .int (e.2 : Nat)]
theorem can_lframe (T : Txt K mg) (c_taken : Can P w K mg base "_law_taken" 41 p_law_taken (RowSp K tf_taken)) (c_pick : Can P w K mg base "_law_pick" 42 p_law_pick (RowSp K tf_pick)) : Can P w K mg base "_law_frame" 43 p_law_frame (RowSp K tf_lframe) := by
  refine can_row 70 T sc_law_frame (fun _ _ _ _ _ _ us hl => match us, hl with | [_], _ => rfl) (fun ds G h => by obtain ⟨rfl, _⟩ := h; rfl) fun fa cdv B outer s H E hr ds G rs hrow h => ?_
  obtain ⟨rfl, hG⟩ := h
  have hr1 := hr.mono (show 41 ≤ 42 by decide)
  have kind2 : ∀ (i : Nat) (d : PyData), ([.str "xyr", .str "xy"] : List PyData)[i]? = some d → ∃ k ∈ ([[0, 1, 2], [0, 1]] : List (List Nat)), d = .str (kS k) := fun i d e => by
    match i, e with
    | 0, e => exact ⟨[0, 1, 2], by decide, by rw [← k_xyr]; exact (Option.some.inj e).symm⟩
    | 1, e => exact ⟨[0, 1], by decide, by rw [← k_xy]; exact (Option.some.inj e).symm⟩
    | i + 2, e => simp at e
  have kind3 : ∀ (i : Nat) (d : PyData), ([.str "xyr", .str "xy", .str "y"] : List PyData)[i]? = some d → ∃ k ∈ ([[0, 1, 2], [0, 1], [1]] : List (List Nat)), d = .str (kS k) := fun i d e => by
    match i, e with
    | 0, e => exact ⟨[0, 1, 2], by decide, by rw [← k_xyr]; exact (Option.some.inj e).symm⟩
    | 1, e => exact ⟨[0, 1], by decide, by rw [← k_xy]; exact (Option.some.inj e).symm⟩
    | 2, e => exact ⟨[1], by decide, by rw [← k_y]; exact (Option.some.inj e).symm⟩
    | i + 3, e => simp at e
  have kindy : ∀ (i : Nat) (d : PyData), ([.str "y", .str "yr", .str "y"] : List PyData)[i]? = some d → ∃ k ∈ ([[1], [1, 2]] : List (List Nat)), d = .str (kS k) := fun i d e => by
    match i, e with
    | 0, e => exact ⟨[1], by decide, by rw [← k_y]; exact (Option.some.inj e).symm⟩
    | 1, e => exact ⟨[1, 2], by decide, by rw [← k_yr]; exact (Option.some.inj e).symm⟩
    | 2, e => exact ⟨[1], by decide, by rw [← k_y]; exact (Option.some.inj e).symm⟩
    | i + 3, e => simp at e
  refine three_par (hw := by kernel_rfl) sc_law_frame.nd (i := 1) (j := 2) (l := 3) rfl rfl rfl (by decide) (by decide) (by decide) (am_cons (dm_bin op_add (dm_int (dm_draw c_taken hr1 hrow (by decide) fun w cs1 w0 w1 hc1 => opd_I0 ?_))))
  refine am_cons (dm_bin op_add (dm_int (dm_draw c_taken hr1 hc1 (by decide) fun h cs2 h0 h1 hc2 => opd_I0 ?_)))
  refine am_cons (dm_draw c_taken hr1 hc2 (by decide) fun wy cs3 y0 y1 hc3 => am_nil ⟨_, _, _, rfl, ?_⟩)
  refine two_par (hw := by kernel_rfl) sc_law_frame.nd (i := 4) (j := 5) rfl rfl (by decide) (am_cons (dm_callR c_pick hr rfl (am_cons (nm 0 (am_cons (dm_lst ?_))))))
  refine ac (dm_str (dmm (a1 (dm_str (dmm ⟨by simp, am_nil ⟨0, [.list _], _, rfl, rfl, hc3, _, rfl, by simp, fun i d hid cs4 hc4 => ?_⟩⟩)))))
  obtain ⟨kf, hkf, rfl⟩ := kind2 i d hid
  clear hid i
  refine am_cons (dm_callR c_pick hr rfl (am_cons (nm 0 (am_cons (dm_lst ?_)))))
  refine ac (dm_str (dmm (ac (dm_str (dmm (a1 (dm_str (dmm ⟨by simp, am_nil ⟨0, [.list _], _, rfl, rfl, hc4, _, rfl, by simp, fun i d hid cs5 hc5 => ?_⟩⟩))))))))
  obtain ⟨ke, hke, rfl⟩ := kind3 i d hid
  clear hid i
  refine am_nil ⟨_, _, rfl, ?_⟩
  refine ds_ifTo (fun ρ' μ' => ∃ o1 o2 o3 o4 o5 r6 r7 o8 o10 o11 o12 o13 o14 N E SP cs μt, ρ' = [some (.own 0), o1, o2, o3, o4, o5, some r6, some r7, o8, some (.dat (.list (E.map eI))), o10, o11, o12, o13, o14] ∧ μ' = .L cs :: μt ∧ Shape N E SP ∧ Row cs ∧ (∀ cs tl, TupR (.L cs :: (μt ++ tl)) r6 (N.map pD)) ∧ (∀ cs tl, TupR (.L cs :: (μt ++ tl)) r7 (SP.map sD))) ?_ ?_
  · refine tm_cmp op_eq (nomark _) (nm 3 (dm_int (opd_eqI (bm ⟨fun _ => ?_, fun _ => ?_⟩))))
    · clear hG
      refine Dw.h ?_
      refine two_parW (i := 6) (j := 7) sc_law_frame.nd rfl rfl (by decide) rfl rfl rfl rfl rfl (by kernel_rfl) (by kernel_rfl) ?_
      refine aw_cons ?_
      refine ew_lstO ?_
      refine aw_cons ?_
      refine ⟨tup2 (dm_int (im (dm_int (im ?_))))⟩
      refine aw_nil ⟨by simp, ?_⟩
      refine aw_cons ?_
      refine ew_lstO ?_
      refine aw_cons ?_
      refine ⟨dm_tup (ac (dm_int (dmm ?_)))⟩
      refine a1 (dm_callR c_pick hr rfl (am_cons (nm 0 (am_cons (dm_lst ?_)))))
      refine ac (dm_str (dmm (a1 (dm_str (dmm ⟨by simp, am_nil ⟨0, [.list _], _, rfl, rfl, hc5, _, rfl, by simp, fun i d hid cs6 hc6 => ?_⟩⟩)))))
      obtain ⟨k0, hk0, rfl⟩ := kind2 i d hid
      clear hid i
      refine dmm ⟨by simp, aw_nil ⟨by simp, aw_nil ⟨_, _, rfl, ?_⟩⟩⟩
      refine ⟨?_⟩
      have hk00 : k0 = [0, 1, 2] ∨ k0 = [0, 1] := by simpa using hk0
      refine ds_for PassesOwn.never (im_range1 rfl T.b_range (dm_bin op_add (dm_int (dm_draw c_taken hr1 hc6 (by decide) fun n cs7 n0 n1 hc7 => opd_I0 (im ⟨?_, ?_, ?_⟩)))))
      · omega
      · omega
      obtain ⟨c, hcn, c1, c3⟩ : ∃ c : Nat, (1 + n).toNat = c ∧ 1 ≤ c ∧ c ≤ 3 := ⟨_, rfl, by omega, by omega⟩
      rw [hcn, show rangeD 0 c = _ from rangeD_map 0 c, List.map_map]
      clear hcn n0 n1
      refine ⟨fun k ρ μ => (∃ o8 o9 o10 o11 o12 o13 o14, ρ = [some (.own 0), some (.dat (.int (1 + w))), some (.dat (.int (1 + h))), some (.dat (.int wy)), some (.dat (.str (kS kf))), some (.dat (.str (kS ke))), some (.own 1), some (.own 2), o8, o9, o10, o11, o12, o13, o14]) ∧ ∃ cs, ∃ xs : List Int, ∃ SP : List (Nat × List Nat), μ = [.L cs, .L ((xs.map fun x => pD (x, 0)).map Rv.dat), .L ((SP.map sD).map Rv.dat)] ∧ Row cs ∧ Beam xs ∧ BeamS SP k0 ∧ xs.length = k + 1 ∧ SP.length = k + 1, ⟨⟨_, _, _, _, _, _, _, rfl⟩, cs7, [0], [(0, k0)], rfl, hc7, Beam.one, ⟨rfl, fun j s e => by simp at e⟩, rfl, rfl⟩, ?_, ?_⟩
      · rintro k d ρ μ hd ⟨⟨o8, o9, o10, o11, o12, o13, o14, rfl⟩, cs, xs, SP, rfl, hc, hB, hBS, hl1, hl2⟩
        have hk : k < c := by
          have := (List.getElem?_eq_some_iff.mp hd).1
          simpa using this
        rw [List.getElem?_map, List.getElem?_range hk] at hd
        obtain rfl := Option.some.inj hd
        have hlx : xs.length - 1 < xs.length := by omega
        have hla := List.getElem?_eq_getElem hlx
        have hat : atI ((xs.map fun x => pD (x, 0)).map Rv.dat) (-1) = some (Rv.dat (pD (xs[xs.length - 1], 0))) := by
          refine atI_neg1 ?_
          rw [List.length_map, List.length_map, List.getElem?_map, List.getElem?_map, hla]
          rfl
        generalize xs[xs.length - 1] = a at hla hat
        refine gm_name sc_law_frame.nd (i := 8) rfl ?_
        refine ds_expr (dm_append (nm 6 ⟨1, _, rfl, rfl, tup2 (dm_bin op_add (dm_bin op_add (ixT (dm_ix (nm 6 (dm_neg (dm_int (im (im (ixp_o rfl hat ⟨_, _, rfl, rfl, dm_int (opd_I0 (dm_draw c_taken hr1 hc (by decide) fun t cs' t0 t1 hc' => opd_I0 (im (dm_int (im ⟨_, rfl, ?_, ?_⟩)))))⟩))))))))))⟩))
        · simp
          omega
        refine ds_expr (dm_append (nm 7 ⟨2, _, rfl, rfl, dm_tup (ac (dm_bin op_add (nm 8 (dm_int (opd_I0 (dmm ?_))))))⟩))
        refine a1 (dm_callR c_pick hr rfl (am_cons (nm 0 (am_cons (dm_lst ?_)))))
        refine ac (dm_str (dmm (ac (dm_str (dmm (a1 (dm_str (dmm ⟨by simp, am_nil ⟨0, [.list _], _, rfl, rfl, hc', _, rfl, by simp, fun i d hid cs2 hc2 => ?_⟩⟩))))))))
        obtain ⟨ky, hky, rfl⟩ := kindy i d hid
        refine dmm ⟨by simp, _, rfl, by simp; omega, ds_nil ⟨⟨_, _, _, _, _, _, _, rfl⟩, cs2, xs ++ [a + (1 + t)], SP ++ [(k + 1, ky)], ?_, hc2, hB.snoc hla (by omega) (by omega), ⟨?_, fun j s hj => ?_⟩, by simp; omega, by simp; omega⟩⟩
        · rw [List.map_append, List.map_append, List.map_append, List.map_append]
          have e1 : a + 1 + t = a + (1 + t) := by omega
          have e2 : (((0 + k : Nat) : Nat) : Int) + 1 = ((k + 1 : Nat) : Int) := by omega
          show [Cell.L cs2, Cell.L (_ ++ [Rv.dat (.tuple [.int (a + 1 + t), .int 0])]), Cell.L (_ ++ [Rv.dat (.tuple [.int ((((0 + k : Nat) : Nat) : Int) + 1), .str (kS ky)])])] = _
          rw [e1, e2]
          rfl
        · rw [List.getElem?_append_left (by omega)]
          exact hBS.z
        · by_cases hjl : j + 1 < SP.length
          · rw [List.getElem?_append_left hjl] at hj
            exact hBS.s j s hj
          · have hlj := (List.getElem?_eq_some_iff.mp hj).1
            rw [List.length_append, List.length_singleton] at hlj
            rw [List.getElem?_append_right (by omega), show j + 1 - SP.length = 0 by omega] at hj
            obtain rfl := Option.some.inj hj
            exact ⟨by show k + 1 = j + 1; omega, hky⟩
      · rintro ρ μ ⟨⟨o8, o9, o10, o11, o12, o13, o14, rfl⟩, cs, xs, SP, rfl, hc, hB, hBS, hl1, hl2⟩
        rw [List.length_map, List.length_range] at hl1 hl2
        have hat0 : atI ((SP.map sD).map Rv.dat) 0 = some (.dat (sD (0, k0))) := atI_nat (by rw [List.getElem?_map, List.getElem?_map, hBS.z]; rfl)
        refine ds_ifTo (fun ρ' μ' => ∃ o8 o9 o10 o11 o12 o13 o14 r7 cs, ∃ SP' : List (Nat × List Nat), ρ' = [some (.own 0), some (.dat (.int (1 + w))), some (.dat (.int (1 + h))), some (.dat (.int wy)), some (.dat (.str (kS kf))), some (.dat (.str (kS ke))), some (.own 1), some r7, o8, o9, o10, o11, o12, o13, o14] ∧ μ' = [.L cs, .L ((xs.map fun x => pD (x, 0)).map Rv.dat), .L ((SP.map sD).map Rv.dat)] ∧ Row cs ∧ (∀ cs tl, TupR (.L cs :: ([.L ((xs.map fun x => pD (x, 0)).map Rv.dat), .L ((SP.map sD).map Rv.dat)] ++ tl)) r7 (SP'.map sD)) ∧ BeamS SP' k0 ∧ (k0 = [0, 1, 2] ∨ k0 = [0, 1] ∧ SP'.length = xs.length) ∧ SP'.length ≤ xs.length) ?_ ?_
        · have hkk : k0 = [0, 1, 2] ∨ k0 = [0, 1] ∧ SP.length = xs.length := hk00.imp id fun e => ⟨e, by omega⟩
          refine tm_w (wm_and2 (tm_cmp op_eq (nomark _) (ixT (ixO (nm 7 ⟨2, _, _, rfl, rfl, hat0, _, _, rfl, rfl, dm_str (opd_eqS (bm ⟨fun hk => ?_, fun hk => ⟨(fun z => nomatch z), fun _ => ds_nil ⟨o8, o9, o10, o11, o12, o13, o14, .own 2, cs, SP, rfl, rfl, hc, fun _ _ => TupR.own rfl rfl, hBS, hkk, by omega⟩⟩⟩))⟩)))))
          have hk12 : k0 = [0, 1, 2] := by
            rcases hk00 with e | e
            · exact e
            · subst e
              exact absurd hk (by decide +kernel)
          refine tm_cmp op_eq (nomark _) (dm_draw c_taken hr1 hc (by decide) fun t cs' t0 t1 hc' => dm_int (opd_eqI (bm ⟨fun _ => ?_, fun _ => ds_nil ⟨o8, o9, o10, o11, o12, o13, o14, .own 2, cs', SP, rfl, rfl, hc', fun _ _ => TupR.own rfl rfl, hBS, hkk, by omega⟩⟩)))
          refine ds_asg (dm_slL (nm 7 (pmN (pmE (dm_neg (dm_int (im (im ⟨SP.map sD, LstR.own rfl, gm_name sc_law_frame.nd (i := 7) rfl (ds_nil ?_)⟩))))))))
          refine ⟨o8, o9, o10, o11, o12, o13, o14, _, cs', SP.take (SP.length - 1), rfl, rfl, hc', fun _ _ => TupR.lst' ?_, hBS.take (by omega), .inl hk12, by simp; omega⟩
          rw [cut_neg1, List.length_map, List.map_take]
        · clear hc cs o8 o9 o10 o11 o12 o13 o14
          rintro ρ' μ' ⟨o8, o9, o10, o11, o12, o13, o14, r7, cs, SP', rfl, rfl, hc, h7, hBS', hk', hle⟩
          refine ds_setLc (own := [("_law_at", 8)]) sc_law_frame.nd (blkOk_by (by kernel_rfl)) (i := 9) rfl (im_range1 rfl T.b_range (dm_bin op_sub (dm_len rfl T.b_len (nm 6 ⟨_, .own rfl, dm_int (opd_I0 (im ⟨?_, ?_, ?_⟩))⟩))))
          · simp
            omega
          · simp
            omega
          have hn : ((((xs.map fun x => pD (x, 0)).map Rv.dat).length : Nat) - 1 : Int).toNat = xs.length - 1 := by
            simp only [List.length_map]
            omega
          rw [hn, rangeD0]
          refine lc_mapL (List.range (xs.length - 1)) _ (fun a => eI (a, a + 1)) ?_ ?_ ?_
          · rw [List.length_range]
            omega
          · intro a ha b
            refine gj_name (i := 8) sc_law_frame.nd rfl (fun b => ?_)
            refine tup2 (nm 8 (im (dm_bin op_add (nm 8 (dm_int (opd_I0 (im ⟨rfl, ?_⟩)))))))
            have e1 : (((0 + a : Nat) : Nat) : Int) = (a : Int) := by omega
            show Rv.dat (.tuple [.int (((0 + a : Nat) : Nat) : Int), .int ((((0 + a : Nat) : Nat) : Int) + 1)]) = _
            rw [e1]
            rfl
          · refine .inl ⟨_, rfl, ds_nil ?_⟩
            refine ⟨some (.dat (.int (1 + w))), some (.dat (.int (1 + h))), some (.dat (.int wy)), some (.dat (.str (kS kf))), some (.dat (.str (kS ke))), .own 1, r7, o8, o10, o11, o12, o13, o14, xs.map fun x => (x, 0), (List.range (xs.length - 1)).map fun a => (a, a + 1), SP', cs, [.L ((xs.map fun x => pD (x, 0)).map Rv.dat), .L ((SP.map sD).map Rv.dat)], ?_, rfl, shape0 hB hBS' (by omega) (by omega) hk' hle, hc, fun _ _ => TupR.own (n := 1) rfl ?_, h7⟩
            · rw [List.map_map]
              rfl
            · rw [List.map_map, List.map_map, List.map_map]
              rfl
    · refine ds_if (tm_cmp op_eq (nomark _) (nm 3 (dm_int (opd_eqI (bm ⟨fun _ => ?_, fun _ => ?_⟩)))))
      · refine Dw.h ?_
        refine two_prs (i := 6) (j := 9) (L := [(0, 0), (0, 1 + h), (1 + w, 1 + h)]) (L' := [(0, 1), (1, 2)]) sc_law_frame.nd rfl rfl (by decide) (.cons (.c) (.c) (.cons (.c) (.n 2 rfl rfl (Or.inl rfl) (by decide) (by decide)) (.cons (.n 1 rfl rfl (Or.inl rfl) (by decide) (by decide)) (.n 2 rfl rfl (Or.inl rfl) (by decide) (by decide)) .nil))) (.cons (.c) (.c) (.cons (.c) (.c) .nil)) (by simp) (by simp) rfl rfl rfl rfl rfl (by kernel_rfl) (by kernel_rfl) ?_
        refine ds_asg (dm_if (tm_cmp op_gt (nomark _) (dm_draw c_taken hr1 hc5 (by decide) fun t cs6 t0 t1 hc6 => dm_int (opd_B0 (bm ⟨fun _ => ?_, fun _ => ?_⟩)))))
        · refine dm_lst (ac (dm_tup (ac (dm_int (dmm (a1 (dm_str (dmm ⟨by simp, dmm ?_⟩))))))))
          refine a1 (dm_tup (ac (dm_int (dmm (a1 (nm 5 (dmm ⟨by simp, dmm ⟨by simp, gm_name sc_law_frame.nd (i := 7) rfl (ds_nil (ds_nil ?_))⟩⟩)))))))
          refine ⟨_, _, _, _, _, _, _, _, _, _, _, _, _, [(0, 0), (0, 1 + h), (1 + w, 1 + h)], [(0, 1), (1, 2)], [(0, [0, 1, 2]), (2, ke)], cs6, [], rfl, rfl, shape1 (by omega) (by omega) (by omega) (by omega) (.inr ⟨ke, hke, rfl⟩), hc6, fun _ _ => TupR.lst' rfl, fun _ _ => TupR.lst' ?_⟩
          rw [k_xyr]
          rfl
        · refine dm_lst (a1 (dm_tup (ac (dm_int (dmm (a1 (dm_str (dmm ⟨by simp, dmm ⟨by simp, gm_name sc_law_frame.nd (i := 7) rfl (ds_nil (ds_nil ?_))⟩⟩))))))))
          refine ⟨_, _, _, _, _, _, _, _, _, _, _, _, _, [(0, 0), (0, 1 + h), (1 + w, 1 + h)], [(0, 1), (1, 2)], [(0, [0, 1, 2])], cs6, [], rfl, rfl, shape1 (by omega) (by omega) (by omega) (by omega) (.inl rfl), hc6, fun _ _ => TupR.lst' rfl, fun _ _ => TupR.lst' ?_⟩
          rw [k_xyr]
          rfl
      · refine ds_if (tm_cmp op_eq (nomark _) (nm 3 (dm_int (opd_eqI (bm ⟨fun _ => ?_, fun _ => ?_⟩)))))
        · refine Dw.h ?_
          refine two_prs (i := 6) (j := 9) (L := [(0, 0), (0, 1 + h), (1 + w, 1 + h), (1 + w, 0)]) (L' := [(0, 1), (1, 2), (3, 2)]) sc_law_frame.nd rfl rfl (by decide) (.cons (.c) (.c) (.cons (.c) (.n 2 rfl rfl (Or.inl rfl) (by decide) (by decide)) (.cons (.n 1 rfl rfl (Or.inl rfl) (by decide) (by decide)) (.n 2 rfl rfl (Or.inl rfl) (by decide) (by decide)) (.cons (.n 1 rfl rfl (Or.inl rfl) (by decide) (by decide)) (.c) .nil)))) (.cons (.c) (.c) (.cons (.c) (.c) (.cons (.c) (.c) .nil))) (by simp) (by simp) rfl rfl rfl rfl rfl (by kernel_rfl) (by kernel_rfl) ?_
          refine ds_asg (dm_lst (ac (dm_tup (ac (dm_int (dmm (a1 (Dm.imp (P := fun μ1 r => μ1 = [.L cs5] ∧ ∃ k ∈ ([[0, 1, 2], [0, 1]] : List (List Nat)), r = .dat (.str (kS k))) ?_ ?_))))))))
          · refine dm_if (tm_cmp op_eq (nomark _) (nm 4 (dm_str (opd_eqS (bm ⟨fun _ => dm_str ⟨rfl, [0, 1, 2], by decide, congrArg (fun z => Rv.dat (.str z)) k_xyr⟩, fun _ => dm_str ⟨rfl, [0, 1], by decide, congrArg (fun z => Rv.dat (.str z)) k_xy⟩⟩)))))
          rintro μ1 r ⟨rfl, ka, hka, rfl⟩
          refine dmm ⟨by simp, dmm ?_⟩
          refine a1 (dm_tup (ac (dm_int (dmm ?_))))
          refine a1 (dm_callR c_pick hr rfl (am_cons (nm 0 (am_cons (dm_lst ?_)))))
          refine ac (dm_str (dmm (a1 (dm_str (dmm ⟨by simp, am_nil ⟨0, [.list _], _, rfl, rfl, hc5, _, rfl, by simp, fun i d hid cs6 hc6 => ?_⟩⟩)))))
          obtain ⟨kb, hkb, rfl⟩ := kind2 i d hid
          refine dmm ⟨by simp, dmm ⟨by simp, gm_name sc_law_frame.nd (i := 7) rfl (ds_nil (ds_nil (ds_nil ?_)))⟩⟩
          exact ⟨_, _, _, _, _, _, _, _, _, _, _, _, _, [(0, 0), (0, 1 + h), (1 + w, 1 + h), (1 + w, 0)], [(0, 1), (1, 2), (3, 2)], [(0, ka), (3, kb)], cs6, [], rfl, rfl, shape2 (by omega) (by omega) (by omega) (by omega) hka hkb, hc6, fun _ _ => TupR.lst' rfl, fun _ _ => TupR.lst' rfl⟩
        · refine ds_asg (dm_bin op_add (dm_bin op_add (nm 1 (dm_int (opd_I0 (dm_draw c_taken hr1 hc5 (by decide) fun t cs6 t0 t1 hc6 => opd_I0 (gm_name sc_law_frame.nd (i := 10) rfl ?_)))))))
          refine Dw.h ?_
          refine two_prs (i := 6) (j := 9) (L := [(0, 0), (0, 1 + h), (1 + w, 1 + h), (1 + w + 1 + t, 1 + h), (1 + w + 1 + t, 0)]) (L' := [(0, 1), (1, 2), (2, 3), (4, 3)]) sc_law_frame.nd rfl rfl (by decide) (.cons (.c) (.c) (.cons (.c) (.n 2 rfl rfl (Or.inl rfl) (by decide) (by decide)) (.cons (.n 1 rfl rfl (Or.inl rfl) (by decide) (by decide)) (.n 2 rfl rfl (Or.inl rfl) (by decide) (by decide)) (.cons (.n 10 rfl rfl (Or.inl rfl) (by decide) (by decide)) (.n 2 rfl rfl (Or.inl rfl) (by decide) (by decide)) (.cons (.n 10 rfl rfl (Or.inl rfl) (by decide) (by decide)) (.c) .nil))))) (.cons (.c) (.c) (.cons (.c) (.c) (.cons (.c) (.c) (.cons (.c) (.c) .nil)))) (by simp) (by simp) rfl rfl rfl rfl rfl (by kernel_rfl) (by kernel_rfl) ?_
          refine ds_asg (dm_lst (ac (dm_tup (ac (dm_int (dmm (a1 (dm_str (dmm ⟨by simp, dmm ?_⟩)))))))))
          refine a1 (dm_tup (ac (dm_int (dmm ?_))))
          refine a1 (dm_callR c_pick hr rfl (am_cons (nm 0 (am_cons (dm_lst ?_)))))
          refine ac (dm_str (dmm (a1 (dm_str (dmm ⟨by simp, am_nil ⟨0, [.list _], _, rfl, rfl, hc6, _, rfl, by simp, fun i d hid cs7 hc7 => ?_⟩⟩)))))
          obtain ⟨kb, hkb, rfl⟩ := kind2 i d hid
          refine dmm ⟨by simp, dmm ⟨by simp, gm_name sc_law_frame.nd (i := 7) rfl (ds_nil (ds_nil (ds_nil ?_)))⟩⟩
          refine ⟨_, _, _, _, _, _, _, _, _, _, _, _, _, [(0, 0), (0, 1 + h), (1 + w, 1 + h), (1 + w + 1 + t, 1 + h), (1 + w + 1 + t, 0)], [(0, 1), (1, 2), (2, 3), (4, 3)], [(0, [0, 1, 2]), (4, kb)], cs7, [], rfl, rfl, shape3 (by omega) (by omega) (by omega) (by omega) t0 (by omega) hkb, hc7, fun _ _ => TupR.lst' rfl, fun _ _ => TupR.lst' ?_⟩
          rw [k_xyr]
          rfl
  · rintro ρ' μ' ⟨o1, o2, o3, o4, o5, r6, r7, o8, o10, o11, o12, o13, o14, N, E, SP, cs, μt, rfl, rfl, hS, hc, h6, h7⟩
    have hel : E.length ≤ 4 := by
      have := hS.el
      have := hS.n5
      omega
    refine ds_asg (dm_lstO (am_nil ⟨by simp, gm_name sc_law_frame.nd (i := 11) rfl ?_⟩))
    refine ds_for PassesOwn.never (im_list (nm 9 (lm ⟨fun m ρ μ => (∃ o12 o13 o14, ρ = [some (.own 0), o1, o2, o3, o4, o5, some r6, some r7, o8, some (.dat (.list (E.map eI))), o10, some (.own (μt.length + 1)), o12, o13, o14]) ∧ ∃ cs, ∃ MM : List Mb, μ = .L cs :: (μt ++ [.L ((MM.map mD).map Rv.dat)]) ∧ Row cs ∧ MM.length = m ∧ ∀ (i : Nat) (M : Mb), MM[i]? = some M → (E[i]? = some (M.i, M.j) ∨ E[i]? = some (M.j, M.i)) ∧ 1 ≤ M.k ∧ M.k ≤ 4 ∧ 1 ≤ M.s ∧ M.s ≤ 6, ⟨⟨_, _, _, rfl⟩, cs, [], rfl, hc, rfl, fun i M e => by simp at e⟩, ?_, ?_⟩)))
    · clear hc cs
      rintro m d ρ μ hd ⟨⟨o12, o13, o14, rfl⟩, cs, MM, rfl, hc, hl, hM⟩
      rw [List.getElem?_map] at hd
      obtain ⟨e, he, rfl⟩ := Option.map_eq_some_iff.mp hd
      have hm := (List.getElem?_eq_some_iff.mp he).1
      refine gm_of_j (js := [12, 13]) (gj_tup (gjs_cons (gj_name (i := 12) sc_law_frame.nd rfl (gjs_cons (gj_name (i := 13) sc_law_frame.nd rfl (gjs_nil ?_))))))
      refine ds_asg (Dm.imp (P := fun μ1 r => ∃ cs' a b, μ1 = .L cs' :: (μt ++ [.L ((MM.map mD).map Rv.dat)]) ∧ Row cs' ∧ r = .dat (.tuple [.int ((a : Nat) : Int), .int ((b : Nat) : Int)]) ∧ (E[m]? = some (a, b) ∨ E[m]? = some (b, a))) ?_ ?_)
      · refine dm_if (tm_cmp op_gt (nomark _) (dm_draw c_taken hr1 hc (by decide) fun t cs' t0 t1 hc' => dm_int (opd_B0 (bm ⟨fun _ => ?_, fun _ => ?_⟩))))
        · exact tup2 (nm 12 (im (nm 13 (im ⟨cs', e.1, e.2, rfl, hc', rfl, .inl he⟩))))
        · exact tup2 (nm 13 (im (nm 12 (im ⟨cs', e.2, e.1, rfl, hc', rfl, .inr he⟩))))
      · rintro μ1 r ⟨cs', a, b, rfl, hc', rfl, hab⟩
        refine gm_name sc_law_frame.nd (i := 14) rfl ?_
        refine ds_expr (dm_append (nm 11 ⟨μt.length + 1, _, rfl, cell_last _ _ _, dm_bin op_catA (nm 14 (tup2 (dm_bin op_add (dm_int (dm_draw c_taken hr1 hc' (by decide) fun k cs1 k0 k1 hc1 => opd_I0 (im (dm_bin op_add (dm_int (dm_draw c_taken hr1 hc1 (by decide) fun s cs2 s0 s1 hc2 => opd_I0 (im (opd_catT ?_ ⟨_, cell_last _ _ _, ?_, ?_⟩)))))))))))⟩))
        · simp
        · simp
          omega
        rw [set_last]
        refine ds_nil ⟨⟨_, _, _, rfl⟩, cs2, MM ++ [⟨a, b, 1 + k, 1 + s⟩], ?_, hc2, by simp; omega, fun i M hiM => ?_⟩
        · rw [List.map_append, List.map_append]
          rfl
        · by_cases hi : i < MM.length
          · rw [List.getElem?_append_left hi] at hiM
            exact hM i M hiM
          · have hil := (List.getElem?_eq_some_iff.mp hiM).1
            rw [List.length_append, List.length_singleton] at hil
            have e1 : i = m := by omega
            subst e1
            rw [List.getElem?_append_right (by omega), hl, Nat.sub_self] at hiM
            obtain rfl := Option.some.inj hiM
            refine ⟨hab, ?_, ?_, ?_, ?_⟩ <;> simp only <;> omega
    · clear hc cs
      rintro ρ μ ⟨⟨o12, o13, o14, rfl⟩, cs, MM, rfl, hc, hl, hM⟩
      rw [List.length_map] at hl
      refine ds_ret (dm_tup (ac (dm_tuple rfl T.b_tuple (nm 6 ⟨_, h6 _ _, dmm (ac (dm_tuple rfl T.b_tuple (nm 11 ⟨MM.map mD, TupR.own (cell_last _ _ _) rfl, dmm (a1 (dm_tuple rfl T.b_tuple (nm 7 ⟨_, h7 _ _, dmm ⟨by simp, _, rfl, ?_, cs, rfl, hc⟩⟩)))⟩)))⟩))))
      exact hG ⟨N, MM, SP⟩ ⟨E, hS, hl, hM⟩
end
end BW

namespace BW
open PySem PySem.Spec PyProof.Rows L2
theorem eqv_lev : ∀ (n : Nat) (d : PyData), lev n d → PyData.eqv d d = true
  | 0, d, h => by
    obtain ⟨i, rfl⟩ := h
    simp [PyData.eqv]
  | n + 1, d, h => by
    obtain ⟨ds, rfl, _, _, h⟩ := h
    have key : ∀ ds : List PyData, (∀ x ∈ ds, lev n x) → PyData.eqvAll ds ds = true := by
      intro ds
      induction ds with
      | nil => intro _; simp [PyData.eqvAll]
      | cons x xs ih =>
        intro h
        simp only [PyData.eqvAll, Bool.and_eq_true]
        exact ⟨eqv_lev n x (h x (List.mem_cons_self ..)), ih fun y hy => h y (List.mem_cons_of_mem _ hy)⟩
    simp only [PyData.eqv]
    exact key ds h
theorem lev_rt (q : Rat) : lev 1 (rt q) := ⟨[.int q.num, .int q.den], rfl, by simp, rfl, fun x hx => by
  have : x = .int q.num ∨ x = .int q.den := by simpa using hx
  rcases this with rfl | rfl <;> exact ⟨_, rfl⟩⟩
theorem lev_tup {n : Nat} {ds : List PyData} (hl : ds.length ≤ 1000) (h : ∀ x ∈ ds, lev n x) : lev (n + 1) (.tuple ds) := by
  refine ⟨ds, rfl, hl, ?_, h⟩
  clear hl
  induction ds with
  | nil => rfl
  | cons x xs ih =>
    simp only [noDA, Bool.and_eq_true]
    exact ⟨lev_noD n x (h x (List.mem_cons_self ..)), ih fun y hy => h y (List.mem_cons_of_mem _ hy)⟩
/-- ends as data -/
def eeD (e : Nat → Nat → Rat) (n : Nat) : PyData := .tuple ((List.range n).map fun m => .tuple (eD (e m) 6))
theorem lev_eeD (e : Nat → Nat → Rat) {n : Nat} (hn : n ≤ 8) : lev 3 (eeD e n) := lev_tup (by simp; omega) fun x hx => by
  obtain ⟨m, _, rfl⟩ := List.mem_map.mp hx
  refine lev_tup (by simp [eD]) fun y hy => ?_
  obtain ⟨i, _, rfl⟩ := List.mem_map.mp hy
  exact lev_rt _
theorem shp_eeD (e : Nat → Nat → Rat) (n : Nat) : shp (eeD e n) = true := shk_up (k := 3) (shk_tup fun x hx => by
  obtain ⟨m, _, rfl⟩ := List.mem_map.mp hx
  refine shk_tup fun y hy => ?_
  obtain ⟨i, _, rfl⟩ := List.mem_map.mp hy
  exact shk_rt _) (by decide)
/-- what the plain part is to give -/
structure MathOk (f : Fr) (h : Hg) (J : Nat → Nat → Int) (pu : Nat → Int) (gv : List (Way × Rat)) (st : Nat → Nat → Rat) : Prop where
  rP : RespOk f h J (fixP f pu) []
  rG : RespOk f h (fun _ _ => 0) (fun _ _ => 0) gv
  rS : RespOk f h (fun _ _ => 0) (fixS f st) []
  rA : RespOk f h J (fixA f pu st) gv
  lin : ∀ u uP uG uS, Sol f h J (fixA f pu st) gv u → Sol f h J (fixP f pu) [] uP → Sol f h (fun _ _ => 0) (fun _ _ => 0) gv uG → Sol f h (fun _ _ => 0) (fixS f st) [] uS → ∀ m, m < f.mb.length → ∀ i, endV f h (fixA f pu st) u m i = endV f h (fixP f pu) uP m i + endV f h (fun _ _ => 0) uG m i + endV f h (fixS f st) uS m i
  uq : ∀ J fix gv u u', Sol f h J fix gv u → Sol f h J fix gv u' → ∀ m i, endV f h fix u m i = endV f h fix u' m i
structure FrOk (f : Fr) : Prop where
  c : FrC f
  w : FrW f
  hd : HeldW f
  n9 : (free f).length ≤ 100
  b : ∀ h, ∃ b, Cm b (balM f h) ∧ (b + 1) * 2 ^ (free f).length ≤ 1000000
theorem endV_out {f : Fr} {h : Hg} {fix : Nat → Nat → Rat} {u : Way → Rat} {m i : Nat} (hm : ¬ m < f.mb.length) : endV f h fix u m i = 0 := by
  unfold endV
  rw [List.getElem?_eq_none (by omega)]
theorem fixS_zero (f : Fr) : fixS f (fun _ _ => 0) = fun _ _ => 0 := by
  funext m i
  unfold fixS
  split
  · rfl
  · unfold strainV
    simp only [Rat.mul_zero, Rat.div_def, Rat.zero_mul]
    match i with
    | 0 => rfl
    | 1 => rfl
    | 2 => rfl
    | 3 => rfl
    | 4 => rfl
    | 5 => rfl
    | i + 6 => rfl
theorem fixP_zero (f : Fr) : fixP f (fun _ => 0) = fun _ _ => 0 := by
  funext m i
  unfold fixP
  split
  · rfl
  · unfold pushV
    have e : Rat.divInt 0 2 = 0 := by simp
    have e' : Rat.divInt 0 12 = 0 := by simp
    simp only [Int.neg_zero, Int.zero_mul, e, e']
    match i with
    | 0 => rfl
    | 1 => rfl
    | 2 => rfl
    | 3 => rfl
    | 4 => rfl
    | 5 => rfl
    | i + 6 => rfl
theorem fixA_P (f : Fr) (pu : Nat → Int) : fixA f pu (fun _ _ => 0) = fixP f pu := by
  funext m i
  unfold fixA
  rw [fixS_zero, Rat.add_zero]
theorem fixA_S (f : Fr) (st : Nat → Nat → Rat) : fixA f (fun _ => 0) st = fixS f st := by
  funext m i
  unfold fixA
  rw [fixP_zero, Rat.zero_add]
theorem fixA_0 (f : Fr) : fixA f (fun _ => 0) (fun _ _ => 0) = fun _ _ => 0 := by rw [fixA_P, fixP_zero]
end BW

namespace BW
open PySem PySem.Spec PyProof.Rows L2
theorem sub_ix {α : Type} {l L : List α} (h : l.Sublist L) : ∃ ix : Nat → Nat, (∀ i x, l[i]? = some x → L[ix i]? = some x) ∧ ∀ i j, i < j → j < l.length → ix i < ix j := by
  induction h with
  | slnil => exact ⟨id, fun i x e => by simp at e, fun i j hij hj => by simp at hj⟩
  | cons a h ih =>
    obtain ⟨ix, h1, h2⟩ := ih
    exact ⟨fun i => ix i + 1, fun i x e => by rw [List.getElem?_cons_succ]; exact h1 i x e, fun i j hij hj => Nat.succ_lt_succ (h2 i j hij hj)⟩
  | cons_cons a h ih =>
    obtain ⟨ix, h1, h2⟩ := ih
    refine ⟨fun i => match i with | 0 => 0 | i + 1 => ix i + 1, fun i x e => ?_, fun i j hij hj => ?_⟩
    · cases i with
      | zero => exact e
      | succ i =>
        show (_ :: _)[ix i + 1]? = some x
        rw [List.getElem?_cons_succ]
        exact h1 i x (by simpa using e)
    · cases j with
      | zero => omega
      | succ j =>
        cases i with
        | zero => exact Nat.succ_pos _
        | succ i => exact Nat.succ_lt_succ (h2 i j (by omega) (by simpa using hj))
theorem QOk.rt {q : Rat} (h : QOk q) : RtOk q := ⟨Nat.le_trans h.1 (by decide), Nat.le_trans h.2 (by decide)⟩
theorem gvOk_of {f : Fr} {gv : List (Way × Rat)} (hl : (heldW f).length ≤ 24) (hs : (gv.map (·.1)).Sublist (heldW f)) (hq : ∀ p ∈ gv, QOk p.2) : GvOk f gv := by
  obtain ⟨ix, h1, h2⟩ := sub_ix hs
  have hlen : gv.length ≤ 24 := by
    have := hs.length_le
    rw [List.length_map] at this
    omega
  refine ⟨hlen, ⟨ix, fun i p e => h1 i p.1 (by rw [List.getElem?_map, e]; rfl), fun i j hij hj => h2 i j hij (by rw [List.length_map]; exact hj)⟩, fun p hp => (hq p hp).rt⟩
theorem gv_nd {f : Fr} {gv : List (Way × Rat)} (H : HeldOk f) (hs : (gv.map (·.1)).Sublist (heldW f)) : (gv.map fun p => wK p.1).Nodup := by
  have h := (hs.map wK).nodup H.nd
  rwa [List.map_map] at h
theorem eeD_congr {e e' : Nat → Nat → Rat} {n : Nat} (h : ∀ m, m < n → ∀ i, e m i = e' m i) : eeD e n = eeD e' n := by
  unfold eeD
  congr 1
  apply List.map_congr_left
  intro m hm
  congr 2
  funext i
  exact h m (List.mem_range.mp hm) i
theorem noneD (n m : Nat) : PyData.tuple [.tuple (List.replicate n [PyData.tuple [.int 0, .int 0, .int 0]]).flatten, .tuple (List.replicate m [PyData.int 0]).flatten] = loadD (fun _ _ => 0) (fun _ => 0) n m := by
  rw [rep_flat, rep_flat]
  rfl
theorem stillD (m : Nat) : PyData.tuple (List.replicate m [PyData.tuple [.tuple [.int 0, .int 1], .tuple [.int 0, .int 1]]]).flatten = stD (fun _ _ => 0) m := by
  rw [rep_flat]
  rfl
theorem eqd_of {d e : PyData} (h : d = e) (k : PyData.eqv e e = true) : PyData.eqv d e = true := by rw [h]; exact k
theorem eeD_at (e : Nat → Nat → Rat) {n i : Nat} (hi : i < n) : atI ((List.range n).map fun m => PyData.tuple (eD (e m) 6)) (((0 + i : Nat) : Nat) : Int) = some (.tuple (eD (e i) 6)) := by
  rw [Nat.zero_add]
  exact atI_map (g := fun m => PyData.tuple (eD (e m) 6)) (List.getElem?_range hi)
theorem eD_at (e : Nat → Rat) {n i : Nat} (hi : i < n) : atI (eD e n) (((0 + i : Nat) : Nat) : Int) = some (rt (e i)) := by
  rw [Nat.zero_add]
  exact atI_map (g := fun m => rt (e m)) (List.getElem?_range hi)
section
variable {P : Program} {w : World} {K : PySem.W.Frag} {mg : Str → Option Value} {base : Heap}
def tf_law : Tf := fun ds G => ∃ sc : List Int, ds = [.list (sc.map .int)] ∧ sc.length ≤ 1000 ∧ G (.bool true)
theorem can_law {fa : Addr} {fd : FuncData} (T : Txt K mg) (F : FunD K "law" "law" (defArgs (top 105)) (defBody (top 105)) (defScope (top 105)) [] [] fa fd) (c_frame : Can P w K mg base "_law_frame" 43 p_law_frame (RowSp K tf_lframe)) (c_load : Can P w K mg base "_law_load" 44 p_law_load (RowSp K tf_lload)) (c_given : Can P w K mg base "_law_given" 43 p_law_given (RowSp K tf_lgiven)) (c_strains : Can P w K mg base "_law_strains" 44 p_law_strains (RowSp K tf_lstrains))
    (c_stiff : Can P w K mg base "_law_stiff_hinges" 48 p_law_stiff_hinges (RowSpF K (He.ga K "motions") tf_stiff)) (c_all : Can P w K mg base "all_forces" 48 p_all_forces (PureSp K tf_all)) (c_end : Can P w K mg base "end_forces" 49 p_end_forces (PureSp K tf_end_forces)) (c_sunk : Can P w K mg base "sunk_forces" 49 p_sunk_forces (PureSp K tf_sunk)) (c_warped : Can P w K mg base "warped_forces" 49 p_warped_forces (PureSp K tf_warped))
    (c_total : Can P w K mg base "_law_total" 43 p_law_total (PureSp K tf_total)) (c_alike : Can P w K mg base "_law_alike" 4 p_law_alike (PureSp K (tf_alike 3)))
    (hF : ∀ f, Drawn f → FrOk f ∧ HgC f ∧ (heldW f).length ≤ 24) (hM : ∀ f h J pu gv st, Drawn f → HgOk f h → (h = none ∨ motN f h = 0) → (∀ i l, -9 ≤ J i l ∧ J i l ≤ 9) → (∀ i, -6 ≤ pu i ∧ pu i ≤ 6) → (gv.map (·.1)).Sublist (heldW f) → (∀ p ∈ gv, QOk p.2) → (∀ i l, QOk (st i l)) → MathOk f h J pu gv st) : FnOk P w K mg base CX0 50 fa fd p_law (PureSp K tf_law) := by
  refine pure_fn F sc_law (fun ds G h => by obtain ⟨m, rfl, _⟩ := h; rfl) fun cdv B outer s H E hr ds G h => ?_
  obtain ⟨sc, rfl, hsc, hG⟩ := h
  refine ds_asg (dm_lstO (am_cons (nm 0 (am_cons (dm_int (am_cons (dm_int (am_cons (dm_int (am_nil ⟨by simp, gm_name sc_law.nd (i := 1) rfl ?_⟩))))))))))
  have hrow : Row [.dat (.list (sc.map .int)), .dat (.int 0), .dat (.int 5020), .dat (.int 0)] := ⟨sc, 0, 5020, 0, rfl, hsc, by decide, by decide, by decide⟩
  refine ds_asg (dm_callR c_frame (hr.mono (by decide)) rfl (am_cons (nm 1 (am_nil ⟨0, [], _, rfl, rfl, hrow, rfl, fun f hf cs1 hc1 => gm_name sc_law.nd (i := 2) rfl ?_⟩))))
  obtain ⟨hk, hg, h24⟩ := hF f hf
  have hC := hk.c
  refine three_par sc_law.nd (i := 3) (j := 4) (l := 5) rfl rfl rfl (by decide) (by decide) (by decide) (am_cons (dm_callR c_load (hr.mono (by decide)) rfl (am_cons (nm 1 (am_cons (nm 2 (am_nil ⟨0, [frD f], _, rfl, rfl, hc1, f, rfl, hC.n8, hC.m8, fun J pu hJ hpu cs2 hc2 => ?_⟩)))))))
  refine am_cons (dm_callR c_given (hr.mono (by decide)) rfl (am_cons (nm 1 (am_cons (nm 2 (am_nil ⟨0, [frD f], _, rfl, rfl, hc2, f, rfl, hC.s8, by omega, fun gv hgs hgq cs3 hc3 => ?_⟩))))))
  refine am_cons (dm_callR c_strains (hr.mono (by decide)) rfl (am_cons (nm 1 (am_cons (nm 2 (am_nil ⟨0, [frD f], _, rfl, rfl, hc3, f, rfl, hC.m8, fun st hst cs4 hc4 => am_nil ⟨_, _, _, rfl, ?_⟩⟩))))))
  have hmot := T.gl 35 _ (by rfl)
  refine ds_asg (dm_callRF c_stiff (hr.mono (by decide)) rfl (am_cons (nm 1 (am_cons (nm 2 (am_cons (dm_globR (v := .ref (He.ga K "motions")) rfl hmot rfl (am_nil ⟨0, [frD f], _, rfl, rfl, hc4, f, rfl, hg, hC, hk.w, hk.hd, hk.n9, hk.b, fun h hh hm cs5 hc5 => gm_name sc_law.nd (i := 6) rfl ?_⟩))))))))
  have M := hM f h J pu gv st hf hh hm hJ hpu hgs hgq hst
  clear hc1 hc2 hc3 hc4 hc5 hrow hmot
  have hL : LoadOk J pu := ⟨fun i l => by have := hJ i l; omega, fun i => by have := hpu i; omega⟩
  have hL0 : LoadOk (fun _ _ => 0) (fun _ => 0) := ⟨fun i l => by decide, fun i => by decide⟩
  have hGv := gvOk_of h24 hgs hgq
  have hGv0 : GvOk f [] := gvOk_of h24 (by simp) (fun p hp => nomatch hp)
  have hnd := gv_nd hk.hd.ok hgs
  have hR : ∀ i l, RtOk (st i l) := fun i l => (hst i l).rt
  have r0 : RtOk 0 := ⟨by decide, by decide⟩
  have hR0 : ∀ i l : Nat, RtOk ((fun _ _ => (0 : Rat)) i l) := fun _ _ => r0
  have x0 : ∀ m i : Nat, Bd 1000 ((fun _ _ => (0 : Rat)) m i) := fun _ _ => Bd.zero.mono (by decide)
  have n2 := hC.n2
  have n8 := hC.n8
  have m1 := hC.m1
  have m8 := hC.m8
  refine ds_asg (dm_call c_all (hr.mono (by decide)) rfl (ac (nm 2 (dmm (ac (nm 6 (dmm (ac (nm 3 (dmm (ac (nm 4 (dmm (a1 (nm 5 (dmm ?_))))))))))))))))
  refine ⟨f, h, J, pu, gv, st, rfl, hC, hh, hL, hGv, hnd, hR, M.rP.x, M.rS.x, M.rA, fun u hu => gm_name sc_law.nd (i := 7) rfl ?_⟩
  refine ds_asg (dm_lst (ac (dm_call c_end hr rfl (ac (nm 2 (dmm (ac (nm 6 (dmm (a1 (nm 3 (dmm ⟨f, h, J, pu, rfl, hC, hh, hL, M.rP, fun uP hP => dmm ?_⟩))))))))))))
  refine ac (dm_call c_sunk hr rfl (ac (nm 2 (dmm (ac (nm 6 (dmm (a1 (nm 4 (dmm ⟨f, h, gv, rfl, hC, hh, hGv, hnd, M.rG, fun uG hG2 => dmm ?_⟩))))))))))
  refine a1 (dm_call c_warped hr rfl (ac (nm 2 (dmm (ac (nm 6 (dmm (a1 (nm 5 (dmm ⟨f, h, st, rfl, hC, hh, hR, M.rS, fun uS hS => dmm ⟨by simp, gm_name sc_law.nd (i := 8) rfl ?_⟩⟩))))))))))
  have eP := hP.2.2
  have eG := hG2.2.2
  have eS := hS.2.2
  have hlin := M.lin u uP uG uS hu hP hG2 hS
  have g1 : ∀ uu, Sol f h J (fixA f pu fun _ _ => 0) [] uu → eeD (endV f h (fixA f pu fun _ _ => 0) uu) f.mb.length = eeD (endV f h (fixP f pu) uP) f.mb.length := fun uu huu => by
    rw [fixA_P] at huu ⊢
    exact eeD_congr fun m _ i => M.uq _ _ _ _ _ huu hP m i
  have g2 : ∀ uu, Sol f h (fun _ _ => 0) (fixA f (fun _ => 0) fun _ _ => 0) gv uu → eeD (endV f h (fixA f (fun _ => 0) fun _ _ => 0) uu) f.mb.length = eeD (endV f h (fun _ _ => 0) uG) f.mb.length := fun uu huu => by
    rw [fixA_0] at huu ⊢
    exact eeD_congr fun m _ i => M.uq _ _ _ _ _ huu hG2 m i
  have g3 : ∀ uu, Sol f h (fun _ _ => 0) (fixA f (fun _ => 0) st) [] uu → eeD (endV f h (fixA f (fun _ => 0) st) uu) f.mb.length = eeD (endV f h (fixS f st) uS) f.mb.length := fun uu huu => by
    rw [fixA_S] at huu ⊢
    exact eeD_congr fun m _ i => M.uq _ _ _ _ _ huu hS m i
  have rP0 : RespOk f h J (fixA f pu fun _ _ => 0) [] := by
    rw [fixA_P]
    exact M.rP
  have rG0 : RespOk f h (fun _ _ => 0) (fixA f (fun _ => 0) fun _ _ => 0) gv := by
    rw [fixA_0]
    exact M.rG
  have rS0 : RespOk f h (fun _ _ => 0) (fixA f (fun _ => 0) st) [] := by
    rw [fixA_S]
    exact M.rS
  have xP0 : ∀ m i, Bd 1000 (fixP f (fun _ => 0) m i) := fun m i => by
    rw [fixP_zero]
    exact x0 m i
  have xS0 : ∀ m i, Bd 1000 (fixS f (fun _ _ => 0) m i) := fun m i => by
    rw [fixS_zero]
    exact x0 m i
  change Ds _ [_, _, _, _, _, _, _, some (.dat (eeD (endV f h (fixA f pu st) u) f.mb.length)), some (.dat (.list [eeD (endV f h (fixP f pu) uP) f.mb.length, eeD (endV f h (fun _ _ => 0) uG) f.mb.length, eeD (endV f h (fixS f st) uS) f.mb.length])), _, _, _, _, _, _] _ _ _
  have tP := M.rP.x
  have tS := M.rS.x
  clear M hu hP hG2 hS hf hF hM
  generalize endV f h (fixA f pu st) u = e0 at *
  generalize endV f h (fixP f pu) uP = e1 at *
  generalize endV f h (fun _ _ => 0) uG = e2 at *
  generalize endV f h (fixS f st) uS = e3 at *
  refine ds_asg (dm_lstO (am_nil ⟨by simp, gm_name sc_law.nd (i := 9) rfl ?_⟩))
  let dueD : Nat → PyData := fun m => .tuple (eD (fun j => sums [e1 m j, e2 m j, e3 m j]) 6)
  refine ds_for PassesOwn.never (im_range1 rfl T.b_range (dm_len rfl T.b_len (ixT (nm 2 ⟨_, _, rfl, rfl, _, .dat rfl, ?_⟩))))
  rw [List.length_map, List.length_map]
  refine im ⟨by omega, by omega, ?_⟩
  rw [Int.toNat_natCast, show rangeD 0 f.mb.length = _ from rangeD_map 0 f.mb.length, List.map_map]
  refine ⟨fun i ρ μ => (∃ o10 o11 o12 o13 o14, ρ = [some (.dat (.list (sc.map .int))), some (.own 0), some (.dat (frD f)), some (.dat (loadD J pu f.nd.length f.mb.length)), some (.dat (gmD gv)), some (.dat (stD st f.mb.length)), some (.dat (.tuple (hgL h))), some (.dat (eeD e0 f.mb.length)), some (.dat (.list [eeD e1 f.mb.length, eeD e2 f.mb.length, eeD e3 f.mb.length])), some (.own 1), o10, o11, o12, o13, o14]) ∧ μ = [.L cs5, .L ((List.range i).map fun m => Rv.dat (dueD m))], ⟨⟨_, _, _, _, _, rfl⟩, rfl⟩, ?_, ?_⟩
  · rintro i d ρ μ hd ⟨⟨o10, o11, o12, o13, o14, rfl⟩, rfl⟩
    have hi : i < f.mb.length := by
      have := (List.getElem?_eq_some_iff.mp hd).1
      simpa using this
    rw [List.getElem?_map, List.getElem?_range hi] at hd
    obtain rfl := Option.some.inj hd
    refine gm_name sc_law.nd (i := 10) rfl ?_
    refine ds_expr (dm_append (nm 9 ⟨1, _, rfl, rfl, dm_tuple rfl T.b_tuple (dm_lc (own := [("_law_at", 13)]) sc_law.nd (blkOk_by (by kernel_rfl)) (im_range1 rfl T.b_range (dm_int (im ⟨by decide, by decide, ?_⟩))))⟩))
    rw [show rangeD 0 (Int.toNat 6) = _ from rangeD_map 0 6, List.map_map]
    refine lc_mapL (List.range 6) _ (fun j => rt (sums [e1 i j, e2 i j, e3 i j])) (by decide) (fun j hj b => gj_name (i := 13) sc_law.nd rfl (fun b => ?_)) ⟨_, rfl, ?_⟩
    · refine dm_call (X := Bk _ _ b) c_total (hr.mono (by decide)) rfl (a1 (dm_lc (X := Bk _ _ b) (own := [("_law_part", 14)]) sc_law.nd (blkOk_by (by kernel_rfl)) (im_list (nm 8 (lm ?_)))))
      refine lc_mapL (X := Bk _ _ b) [e1, e2, e3] (fun e => eeD e f.mb.length) (fun e => rt (e i j)) (by simp) (fun e he b2 => gj_name (i := 14) sc_law.nd rfl ?_) ⟨_, rfl, dmm ?_⟩
      · intro b3
        refine ixE (ixE (nm 14 (nm 10 (im ⟨_, _, .inl rfl, eeD_at e hi, nm 13 (im ⟨_, _, .inl rfl, eD_at (e i) (List.mem_range.mp hj), ⟨rfl, rfl⟩⟩)⟩))))
      · refine ⟨[e1 i j, e2 i j, e3 i j], 5000000, rfl, fun q hq => ?_, by simp, by decide, ⟨rfl, rfl⟩⟩
        simp only [List.mem_cons, List.not_mem_nil, or_false] at hq
        rcases hq with rfl | rfl | rfl
        · exact eP i j
        · exact eG i j
        · exact eS i j
    · refine ⟨_, TupR.lst, _, rfl, by simp; omega, ds_nil ⟨⟨_, _, _, _, _, rfl⟩, ?_⟩⟩
      rw [List.range_succ (n := i), List.map_append]
      rfl
  · rintro ρ μ ⟨⟨o10, o11, o12, o13, o14, rfl⟩, rfl⟩
    have hdue : (List.range f.mb.length).map dueD = (List.range f.mb.length).map fun m => .tuple (eD (e0 m) 6) := by
      apply List.map_congr_left
      intro m hm
      show PyData.tuple (eD _ 6) = _
      congr 2
      funext j
      rw [hlin m (List.mem_range.mp hm) j]
      show 0 + e1 m j + e2 m j + e3 m j = _
      rw [Rat.zero_add]
    rw [List.length_map, List.length_range, show ((List.range f.mb.length).map fun m => Rv.dat (dueD m)) = ((List.range f.mb.length).map dueD).map Rv.dat by rw [List.map_map]; rfl, hdue]
    refine ds_if (tm_not (tm_val (dm_call c_alike (hr.mono (by decide)) rfl (ac (nm 7 (dmm (a1 (dm_tuple rfl T.b_tuple (nm 9 ⟨_, TupR.own rfl rfl, dmm ⟨eeD e0 f.mb.length, rfl, lev_eeD e0 m8, bm ⟨(fun z => nomatch z), fun _ => ds_nil ?_⟩⟩⟩)))))))))
    refine ds_asg (dm_tup (ac (dm_bin op_repN (dm_tup (a1 (dm_tup (ac (dm_int (dmm (ac (dm_int (dmm (a1 (dm_int (dmm ⟨by simp, dmm ⟨by simp, dm_len rfl T.b_len (ixT (nm 2 ⟨_, _, rfl, rfl, _, .dat rfl, ?_⟩))⟩⟩)))))))))))))))
    rw [List.length_map, List.length_map]
    refine opd_repN (ds := [.tuple [.int 0, .int 0, .int 0]]) (k := f.nd.length) (by simp) (by omega) (by omega) (by simp) (dmm ?_)
    refine a1 (dm_bin op_repN (dm_tup (a1 (dm_int (dmm ⟨by simp, dm_len rfl T.b_len (ixT (nm 2 ⟨_, _, rfl, rfl, _, .dat rfl, ?_⟩))⟩)))))
    rw [List.length_map, List.length_map]
    refine opd_repN (k := f.mb.length) (by simp) (by omega) (by omega) (by simp) (dmm ⟨by simp, gm_name sc_law.nd (i := 11) rfl ?_⟩)
    rw [noneD]
    refine ds_asg (dm_bin op_repN (dm_tup (a1 (dm_tup (ac (dm_tup (ac (dm_int (dmm (a1 (dm_int (dmm ⟨by simp, dmm (a1 (dm_tup (ac (dm_int (dmm (a1 (dm_int (dmm ⟨by simp, dmm ⟨by simp, dmm ⟨by simp, dm_len rfl T.b_len (ixT (nm 2 ⟨_, _, rfl, rfl, _, .dat rfl, ?_⟩))⟩⟩⟩))))))))⟩))))))))))))
    rw [List.length_map, List.length_map]
    refine opd_repN (k := f.mb.length) (by simp) (by omega) (by omega) (by simp) (gm_name sc_law.nd (i := 12) rfl ?_)
    rw [stillD]
    have eqd : ∀ e, PyData.eqv (eeD e f.mb.length) (eeD e f.mb.length) = true := fun e => eqv_lev 3 _ (lev_eeD e m8)
    refine ds_ret (dm_and (dm_cmp (op_eqD (Nat.lt_of_succ_lt (u65 hr))) (nomark _) (dm_call c_all (hr.mono (by decide)) rfl (ac (nm 2 (dmm (ac (nm 6 (dmm (ac (nm 3 (dmm (ac (dm_tup (an ⟨by simp, dmm (a1 (nm 12 (dmm ?_)))⟩)))))))))))))))
    refine ⟨f, h, J, pu, [], fun _ _ => 0, rfl, hC, hh, hL, hGv0, List.nodup_nil, hR0, tP, xS0, rP0, fun uu huu => ixE (nm 8 (cint ⟨_, _, .inr rfl, rfl, opd_eqD (shp_eeD _ _) (shp_eeD e1 _) (bm ⟨fun _ => ?_, fun hk => ?_⟩)⟩))⟩
    case refine_2 => exact absurd ((eqd_of (g1 uu huu) (eqd e1)).symm.trans hk) (by decide)
    refine dm_and (dm_cmp (op_eqD (Nat.lt_of_succ_lt (u65 hr))) (nomark _) (dm_call c_all (hr.mono (by decide)) rfl (ac (nm 2 (dmm (ac (nm 6 (dmm (ac (nm 11 (dmm (ac (nm 4 (dmm (a1 (nm 12 (dmm ?_)))))))))))))))))
    refine ⟨f, h, fun _ _ => 0, fun _ => 0, gv, fun _ _ => 0, rfl, hC, hh, hL0, hGv, hnd, hR0, xP0, xS0, rG0, fun uu huu => ixE (nm 8 (cint ⟨_, _, .inr rfl, rfl, opd_eqD (shp_eeD _ _) (shp_eeD e2 _) (bm ⟨fun _ => ?_, fun hk => ?_⟩)⟩))⟩
    case refine_2 => exact absurd ((eqd_of (g2 uu huu) (eqd e2)).symm.trans hk) (by decide)
    refine dm_one (dm_cmp (op_eqD (Nat.lt_of_succ_lt (u65 hr))) (nomark _) (dm_call c_all (hr.mono (by decide)) rfl (ac (nm 2 (dmm (ac (nm 6 (dmm (ac (nm 11 (dmm (ac (dm_tup (an ⟨by simp, dmm (a1 (nm 5 (dmm ?_)))⟩))))))))))))))
    refine ⟨f, h, fun _ _ => 0, fun _ => 0, [], st, rfl, hC, hh, hL0, hGv0, List.nodup_nil, hR, xP0, tS, rS0, fun uu huu => ixE (nm 8 (cint ⟨_, _, .inr rfl, rfl, opd_eqD (shp_eeD _ _) (shp_eeD e3 _) ⟨_, rfl, ?_⟩⟩))⟩
    have e9 : PyData.eqv (endsD f h (fixA f (fun _ => 0) st) uu) (eeD e3 f.mb.length) = true := eqd_of (g3 uu huu) (eqd e3)
    rw [e9]
    exact hG
end
end BW

namespace BW
/-! ### sums over the six ways of a member -/
def six (M : Mb) (g : Way → Rat) : Rat := g (M.i, 0) + g (M.i, 1) + g (M.i, 2) + g (M.j, 0) + g (M.j, 1) + g (M.j, 2)
def dl (v w : Way) : Rat := if v = w then 1 else 0
def Uw (n : Nat) (d : Nat → Rat) (fr : Nat → Way) (w : Way) : Rat := dot n d fun j => dl (fr j) w
theorem dl_self (v : Way) : dl v v = 1 := if_pos rfl
theorem dl_ne {v w : Way} (h : v ≠ w) : dl v w = 0 := if_neg h
theorem six_dl {M : Mb} (ne : M.i ≠ M.j) {g : Way → Rat} (hg : ∀ w, w ∉ wyM M → g w = 0) (v : Way) : six M (fun w => dl v w * g w) = g v := by
  have ne' : M.j ≠ M.i := fun e => ne e.symm
  by_cases h : v ∈ wyM M
  · simp only [wyM, List.mem_cons, List.not_mem_nil, or_false] at h
    rcases h with rfl | rfl | rfl | rfl | rfl | rfl <;> simp [six, dl, ne, ne'] <;> grind
  · rw [hg v h]
    have h0 : ∀ w ∈ wyM M, dl v w = 0 := fun w hw => dl_ne fun e => h (e ▸ hw)
    simp only [wyM, List.mem_cons, List.not_mem_nil, or_false, forall_eq_or_imp, forall_eq] at h0
    obtain ⟨a, b, c, d, e, f⟩ := h0
    simp only [six, a, b, c, d, e, f]
    grind
theorem dot_supp {M : Mb} (ne : M.i ≠ M.j) {g : Way → Rat} (hg : ∀ w, w ∉ wyM M → g w = 0) (d : Nat → Rat) (fr : Nat → Way) : ∀ n, dot n d (fun j => g (fr j)) = six M fun w => Uw n d fr w * g w
  | 0 => by simp [dot, six, Uw]; grind
  | n + 1 => by
    show dot n d (fun j => g (fr j)) + d n * g (fr n) = _
    rw [dot_supp ne hg d fr n, ← six_dl ne hg (fr n)]
    have e : ∀ w, Uw (n + 1) d fr w = Uw n d fr w + d n * dl (fr n) w := fun w => rfl
    simp only [six, e]
    grind
/-! ### forces at the nodes -/
def atF (M : Mb) (c s : Int) (e : Nat → Rat) (w : Way) : Rat :=
  if w = (M.i, 0) then e 0 * (c : Rat) + e 1 * ((-s : Int) : Rat) else if w = (M.i, 1) then e 0 * (s : Rat) + e 1 * (c : Rat) else if w = (M.i, 2) then e 2
  else if w = (M.j, 0) then e 3 * (c : Rat) + e 4 * ((-s : Int) : Rat) else if w = (M.j, 1) then e 3 * (s : Rat) + e 4 * (c : Rat) else if w = (M.j, 2) then e 5 else 0
theorem getR_atF (M : Mb) (c s : Int) (e : Nat → Rat) {w : Way} (h : w.2 < 3) : getR (atE M c s e) w = atF M c s e w := by
  unfold atE atF
  have k : ∀ {a : Way}, a.2 < 3 → ((wK a = wK w) ↔ (w = a)) := fun ha => ⟨fun z => (wK_inj ha h z).symm, fun z => by rw [z]⟩
  simp only [getR_cons, getR_nil]
  have e0 : ∀ {i : Nat}, ((i, 0) : Way).2 < 3 := Nat.zero_lt_succ _
  have e1 : ∀ {i : Nat}, ((i, 1) : Way).2 < 3 := Nat.lt_of_sub_eq_succ rfl
  have e2 : ∀ {i : Nat}, ((i, 2) : Way).2 < 3 := Nat.lt_of_sub_eq_succ rfl
  simp only [k e0, k e1, k e2]
theorem atF_out {M : Mb} {c s : Int} {e : Nat → Rat} {w : Way} (h : w ∉ wyM M) : atF M c s e w = 0 := by
  simp only [wyM, List.mem_cons, List.not_mem_nil, or_false, not_or] at h
  unfold atF
  rw [if_neg h.1, if_neg h.2.1, if_neg h.2.2.1, if_neg h.2.2.2.1, if_neg h.2.2.2.2.1, if_neg h.2.2.2.2.2]
/-- virtual work of a member -/
theorem work (M : Mb) (ne : M.i ≠ M.j) (c s : Int) (e : Nat → Rat) (u : Way → Rat) : six M (fun w => u w * atF M c s e w) = dot 6 (tE M c s u) e := by
  have ne' : M.j ≠ M.i := fun e => ne e.symm
  simp [six, atF, ne, ne', dot, tE]
  grind
theorem tE_six (M : Mb) (ne : M.i ≠ M.j) (c s : Int) (u : Way → Rat) (k : Nat) : tE M c s u k = six M fun w => u w * tE M c s (unit w) k := by
  have ne' : M.j ≠ M.i := fun e => ne e.symm
  have hu : ∀ {a b : Way}, a.2 < 3 → b.2 < 3 → unit a b = if b = a then 1 else 0 := fun {a b} ha hb => by
    unfold unit
    by_cases e : wK b = wK a
    · rw [if_pos e, if_pos (wK_inj hb ha e)]
    · rw [if_neg e, if_neg fun z => e (by rw [z])]
  unfold tE six
  match k with
  | 0 => simp [hu, ne, ne'] <;> grind
  | 1 => simp [hu, ne, ne'] <;> grind
  | 2 => simp [hu, ne, ne'] <;> grind
  | 3 => simp [hu, ne, ne'] <;> grind
  | 4 => simp [hu, ne, ne'] <;> grind
  | k + 5 => simp [hu, ne, ne'] <;> grind
theorem unit_dl {a b : Way} (ha : a.2 < 3) (hb : b.2 < 3) : unit a b = dl b a := by
  unfold unit dl
  by_cases e : wK b = wK a
  · rw [if_pos e, if_pos (wK_inj hb ha e)]
  · rw [if_neg e, if_neg fun z => e (by rw [z])]
/-- a function of the moves that is linear -/
theorem six_lin (M : Mb) (u : Way → Rat) {A : Nat → Rat} {B : Nat → Way → Rat} (h : ∀ k, A k = six M fun w => u w * B k w) (S : Nat → Rat) (n : Nat) : dot n S A = six M fun w => u w * dot n S (fun k => B k w) := by
  induction n with
  | zero => simp [dot, six]; grind
  | succ n ih =>
    unfold dot
    rw [ih, h n]
    simp only [six]
    grind
theorem atF_six (M N : Mb) (u : Way → Rat) (c s : Int) {A : Nat → Rat} {B : Nat → Way → Rat} (h : ∀ k, A k = six N fun w => u w * B k w) (o : Way) : atF M c s A o = six N fun w => u w * atF M c s (fun k => B k w) o := by
  unfold atF
  simp only [h, six]
  split
  · grind
  split
  · grind
  split
  · grind
  split
  · grind
  split
  · grind
  split
  · grind
  · grind
end BW

namespace BW
/-! ### the rows of a member as quotients -/
def ip (L : Int) : Rat := (L : Rat)⁻¹
theorem ip_mul {L : Int} (hL : L ≠ 0) : (L : Rat) * ip L = 1 := Rat.mul_inv_cancel _ fun z => hL (by simpa using z)
theorem ip_ne {L : Int} (hL : L ≠ 0) : ip L ≠ 0 := fun z => by
  have := ip_mul hL
  rw [z] at this
  grind
theorem div_ip (x : Rat) (L : Int) : x / (L : Rat) = x * ip L := Rat.div_def x L
theorem ip_sq (L : Int) : ((L : Rat) * L)⁻¹ = ip L * ip L := by
  unfold ip
  rw [Rat.inv_mul_rev]
theorem ip_cb (L : Int) : ((L : Rat) * L * L)⁻¹ = ip L * ip L * ip L := by
  unfold ip
  rw [Rat.inv_mul_rev, Rat.inv_mul_rev, Rat.mul_assoc]
theorem plainS_eq (k s L : Int) (i j : Nat) : plainS k s L i j = ((tbl ((s : Rat) * ip L) (12 * k * (ip L * ip L * ip L)) (6 * k * (ip L * ip L)) (4 * k * ip L) (2 * k * ip L)).getD i []).getD j 0 := by
  unfold plainS
  simp only [Rat.divInt_eq_div, Rat.intCast_mul, Rat.div_def, ip_sq, ip_cb]
  rfl
theorem sq_nn (x : Rat) : 0 ≤ x * x := by
  rcases Rat.le_total (a := 0) (b := x) with h | h
  · exact Rat.mul_nonneg h h
  · have : 0 ≤ -x := by grind
    have := Rat.mul_nonneg this this
    grind
theorem sq_zero {x : Rat} (h : x * x = 0) : x = 0 := by
  rcases Rat.mul_eq_zero.mp h with h | h <;> exact h
theorem add_nn {x y : Rat} (hx : 0 ≤ x) (hy : 0 ≤ y) : 0 ≤ x + y := by grind
theorem add_zz {x y : Rat} (hx : 0 ≤ x) (hy : 0 ≤ y) (h : x + y = 0) : x = 0 ∧ y = 0 := by constructor <;> grind
/-- what a member's moves do to it -/
def ext (t : Nat → Rat) : Rat := t 3 - t 0
def th0 (L : Int) (t : Nat → Rat) : Rat := (t 1 - t 4) * ip L + t 2
def th1 (L : Int) (t : Nat → Rat) : Rat := (t 1 - t 4) * ip L + t 5
def en (S : Nat → Nat → Rat) (t : Nat → Rat) : Rat := dot 6 t fun i => dot 6 (S i) t
theorem en_plain (k s L : Int) (t : Nat → Rat) : en (plainS k s L) t = (s : Rat) * ip L * (ext t * ext t) + 2 * k * ip L * (th0 L t * th0 L t + th1 L t * th1 L t + (th0 L t + th1 L t) * (th0 L t + th1 L t)) := by
  simp only [en, dot, plainS_eq, tbl, List.getD_cons_zero, List.getD_cons_succ, ext, th0, th1]
  grind
theorem qz {a : Rat} : (0 : Rat) / a = 0 := by rw [Rat.div_def, Rat.zero_mul]
theorem qq {a b c : Rat} (hb : b ≠ 0) (h : a = c * b) : a / b = c := by
  rw [h, Rat.mul_div_cancel hb]
theorem k4 {k L : Int} (hL : L ≠ 0) (hk : k ≠ 0) : (4 : Rat) * k * ip L ≠ 0 := by
  have h' : (k : Rat) ≠ 0 := fun z => hk (by simpa using z)
  have := ip_ne hL
  intro z
  rcases Rat.mul_eq_zero.mp z with z | z
  · rcases Rat.mul_eq_zero.mp z with z | z
    · exact absurd z (by decide)
    · exact h' z
  · exact this z
theorem rr0 {k s L : Int} (hL : L ≠ 0) (hk : k ≠ 0) : plainS k s L 0 2 / plainS k s L 2 2 = 0 ∧ plainS k s L 1 2 / plainS k s L 2 2 = 3 / 2 * ip L ∧ plainS k s L 2 2 / plainS k s L 2 2 = 1 ∧ plainS k s L 3 2 / plainS k s L 2 2 = 0 ∧ plainS k s L 4 2 / plainS k s L 2 2 = -(3 / 2 * ip L) ∧ plainS k s L 5 2 / plainS k s L 2 2 = 1 / 2 := by
  have h4 := k4 hL hk
  simp only [plainS_eq, tbl, List.getD_cons_zero, List.getD_cons_succ]
  refine ⟨qz, qq h4 ?_, qq h4 ?_, qz, qq h4 ?_, qq h4 ?_⟩ <;> grind
theorem rr1 {k s L : Int} (hL : L ≠ 0) (hk : k ≠ 0) : plainS k s L 0 5 / plainS k s L 5 5 = 0 ∧ plainS k s L 1 5 / plainS k s L 5 5 = 3 / 2 * ip L ∧ plainS k s L 2 5 / plainS k s L 5 5 = 1 / 2 ∧ plainS k s L 3 5 / plainS k s L 5 5 = 0 ∧ plainS k s L 4 5 / plainS k s L 5 5 = -(3 / 2 * ip L) ∧ plainS k s L 5 5 / plainS k s L 5 5 = 1 := by
  have h4 := k4 hL hk
  simp only [plainS_eq, tbl, List.getD_cons_zero, List.getD_cons_succ]
  refine ⟨qz, qq h4 ?_, qq h4 ?_, qz, qq h4 ?_, qq h4 ?_⟩ <;> grind
theorem en_rel0 {k s L : Int} (hL : L ≠ 0) (hk : k ≠ 0) (t : Nat → Rat) : en (relS (plainS k s L) 2) t = (s : Rat) * ip L * (ext t * ext t) + 3 * k * ip L * (th1 L t * th1 L t) := by
  obtain ⟨a, b, c, d, e, f⟩ := rr0 (s := s) hL hk
  simp only [en, dot, relS, a, b, c, d, e, f]
  simp only [plainS_eq, tbl, List.getD_cons_zero, List.getD_cons_succ, ext, th0, th1]
  grind
theorem en_rel1 {k s L : Int} (hL : L ≠ 0) (hk : k ≠ 0) (t : Nat → Rat) : en (relS (plainS k s L) 5) t = (s : Rat) * ip L * (ext t * ext t) + 3 * k * ip L * (th0 L t * th0 L t) := by
  obtain ⟨a, b, c, d, e, f⟩ := rr1 (s := s) hL hk
  simp only [en, dot, relS, a, b, c, d, e, f]
  simp only [plainS_eq, tbl, List.getD_cons_zero, List.getD_cons_succ, ext, th0, th1]
  grind
end BW

namespace BW
theorem dot_comm (x y : Nat → Rat) : ∀ n, dot n x y = dot n y x
  | 0 => rfl
  | n + 1 => by
    show dot n x y + x n * y n = dot n y x + y n * x n
    rw [dot_comm x y n, Rat.mul_comm]
theorem dot_add (x y z : Nat → Rat) : ∀ n, dot n x (fun i => y i + z i) = dot n x y + dot n x z
  | 0 => by unfold dot; grind
  | n + 1 => by
    unfold dot
    rw [dot_add x y z n]
    grind
theorem dot_swap (N : Nat) (d t : Nat → Rat) (B : Nat → Nat → Rat) : ∀ W, dot N d (fun i => dot W (B i) t) = dot W (fun j => dot N d fun i => B i j) t
  | 0 => dot_zeroR fun _ _ => rfl
  | W + 1 => by
    show dot N d (fun i => dot W (B i) t + B i W * t W) = dot W _ t + dot N d (fun i => B i W) * t W
    rw [dot_add, dot_swap N d t B W]
    congr 1
    induction N with
    | zero => unfold dot; grind
    | succ N ih =>
      unfold dot
      rw [ih]
      grind
theorem dot_sq {d : Nat → Rat} : ∀ {n : Nat}, 0 ≤ dot n d d ∧ (dot n d d = 0 → ∀ i < n, d i = 0)
  | 0 => ⟨Rat.le_refl, fun _ i h => absurd h (Nat.not_lt_zero i)⟩
  | n + 1 => by
    obtain ⟨h1, h2⟩ := dot_sq (d := d) (n := n)
    refine ⟨add_nn h1 (sq_nn _), fun h i hi => ?_⟩
    obtain ⟨a, b⟩ := add_zz h1 (sq_nn _) h
    rcases Nat.lt_succ_iff_lt_or_eq.mp hi with h | rfl
    · exact h2 a i h
    · exact sq_zero b
theorem dot_mbS (f : Fr) (n : Nat) (x : Nat → Rat) (g : Nat → Nat → Mb → Rat) : ∀ k, dot n x (fun j => mbS f (g j) k) = mbS f (fun m M => dot n x fun j => g j m M) k
  | 0 => dot_zeroR fun _ _ => rfl
  | k + 1 => by
    show dot n x (fun j => mbS f (g j) k + match f.mb[k]? with
      | none => 0
      | some M => g j k M) = _ + _
    rw [dot_add, dot_mbS f n x g k]
    congr 1
    cases f.mb[k]? with
    | none => exact dot_zeroR fun _ _ => rfl
    | some M => rfl
theorem mbS_congr {f : Fr} {g g' : Nat → Mb → Rat} (h : ∀ m M, f.mb[m]? = some M → g m M = g' m M) : ∀ k, mbS f g k = mbS f g' k
  | 0 => rfl
  | k + 1 => by
    unfold mbS
    rw [mbS_congr h k]
    congr 1
    cases e : f.mb[k]? with
    | none => rfl
    | some M => exact h k M e
theorem mbS_nn {f : Fr} {g : Nat → Mb → Rat} (h : ∀ m M, f.mb[m]? = some M → 0 ≤ g m M) : ∀ k, 0 ≤ mbS f g k ∧ (mbS f g k = 0 → ∀ m M, m < k → f.mb[m]? = some M → g m M = 0)
  | 0 => ⟨Rat.le_refl, fun _ m _ h => absurd h (Nat.not_lt_zero m)⟩
  | k + 1 => by
    obtain ⟨h1, h2⟩ := mbS_nn h k
    have h3 : 0 ≤ (match f.mb[k]? with
      | none => 0
      | some M => g k M) := by
      cases e : f.mb[k]? with
      | none => exact Rat.le_refl
      | some M => exact h k M e
    refine ⟨add_nn h1 h3, fun hz m M hm hM => ?_⟩
    obtain ⟨a, b⟩ := add_zz h1 h3 hz
    rcases Nat.lt_succ_iff_lt_or_eq.mp hm with hm | rfl
    · exact h2 a m M hm hM
    · rw [hM] at b
      exact b
/-! ### the free ways -/
theorem frW_3 {f : Fr} (i : Nat) : (frW f i).2 < 3 := by
  by_cases h : i < (free f).length
  · have h1 := List.mem_of_getElem? (frW_get h)
    unfold free at h1
    exact ways3 _ (List.mem_filter.mp h1).1
  · unfold frW
    rw [List.getD_eq_getElem?_getD, List.getElem?_eq_none (by omega)]
    exact (by decide : (0 : Nat) < 3)
def Uf (f : Fr) (d : Nat → Rat) : Way → Rat := Uw (free f).length d (frW f)
theorem Uf_out {f : Fr} {d : Nat → Rat} {w : Way} (h : w ∉ free f) : Uf f d w = 0 := dot_zeroR fun j hj => dl_ne fun e => h (by
  rw [← e]
  exact List.mem_of_getElem? (frW_get hj))
theorem Uf_at {f : Fr} {d : Nat → Rat} {j : Nat} (h : j < (free f).length) : Uf f d (frW f j) = d j := by
  unfold Uf Uw
  rw [dot_comm, dot_unit (i := j) (fun i hi => ?_), if_pos h]
  unfold dl
  by_cases e : j = i
  · rw [if_pos (by rw [e]), if_pos e]
  · rw [if_neg e, if_neg]
    intro z
    have h1 := frW_get h
    have h2 := frW_get hi
    have := ((List.getElem?_inj (i := i) (j := j) hi (free_nd f)).mp (by rw [h1, h2, z])).symm
    exact e this
theorem SuM_six {f : Fr} {h : Hg} {m : Nat} {M : Mb} (ne : M.i ≠ M.j) (U : Way → Rat) (i : Nat) : SuM f h m M U i = six M fun w => U w * SuM f h m M (unit w) i :=
  six_lin M U (fun k => tE_six M ne _ _ U k) (SM f h m M i) 6
theorem kM_out {f : Fr} {h : Hg} {m : Nat} {M : Mb} {o w : Way} (hw : w ∉ wyM M) : kM f h m M o w = 0 := if_neg hw
theorem six_congr {M : Mb} {g g' : Way → Rat} (h : ∀ w ∈ wyM M, g w = g' w) : six M g = six M g' := by
  simp only [wyM, List.mem_cons, List.not_mem_nil, or_false, forall_eq_or_imp, forall_eq] at h
  obtain ⟨a, b, c, d, e, i⟩ := h
  simp only [six, a, b, c, d, e, i]
theorem kM_six {f : Fr} {h : Hg} {m : Nat} {M : Mb} (ne : M.i ≠ M.j) (U : Way → Rat) {o : Way} (ho : o.2 < 3) : (six M fun w => U w * kM f h m M o w) = atF M (cM f M) (sM f M) (SuM f h m M U) o := by
  rw [atF_six M M U _ _ (SuM_six ne U)]
  refine six_congr fun w hw => ?_
  unfold kM
  rw [if_pos hw]
  unfold atM
  rw [getR_atF _ _ _ _ ho]
theorem kM_lin {f : Fr} {h : Hg} {m : Nat} {M : Mb} (ne : M.i ≠ M.j) (d : Nat → Rat) {o : Way} (ho : o.2 < 3) : dot (free f).length d (fun j => kM f h m M o (frW f j)) = atF M (cM f M) (sM f M) (SuM f h m M (Uf f d)) o := by
  rw [dot_supp ne (g := kM f h m M o) (fun w hw => kM_out hw) d (frW f)]
  exact kM_six ne (Uf f d) ho
def enM (f : Fr) (h : Hg) (m : Nat) (M : Mb) (U : Way → Rat) : Rat := en (SM f h m M) (tM f M U)
theorem work_fr {f : Fr} {M : Mb} (ne : M.i ≠ M.j) (c s : Int) (e : Nat → Rat) (d : Nat → Rat) : dot (free f).length d (fun i => atF M c s e (frW f i)) = dot 6 (tE M c s (Uf f d)) e := by
  rw [dot_supp ne (g := atF M c s e) (fun w hw => atF_out hw) d (frW f)]
  exact work M ne c s e (Uf f d)
theorem total_en {f : Fr} {h : Hg} (ne : ∀ (m : Nat) (M : Mb), f.mb[m]? = some M → M.i ≠ M.j) (d : Nat → Rat) : dot (free f).length d (fun i => dot (free f).length (tabM f h i) d) = mbS f (fun m M => enM f h m M (Uf f d)) f.mb.length := by
  have e1 : ∀ i, dot (free f).length (tabM f h i) d = mbS f (fun m M => atF M (cM f M) (sM f M) (SuM f h m M (Uf f d)) (frW f i)) f.mb.length := fun i => by
    rw [dot_comm]
    unfold tabM sysK
    rw [dot_mbS f (free f).length d (fun j m M => kM f h m M (frW f i) (frW f j))]
    exact mbS_congr (fun m M hM => kM_lin (ne m M hM) d (frW_3 i)) _
  rw [show (fun i => dot (free f).length (tabM f h i) d) = _ from funext e1, dot_mbS f (free f).length d (fun i m M => atF M (cM f M) (sM f M) (SuM f h m M (Uf f d)) (frW f i))]
  refine mbS_congr (fun m M hM => ?_) _
  rw [work_fr (ne m M hM)]
  rfl
theorem lM_nn (f : Fr) (M : Mb) : 0 ≤ lM f M := by
  unfold lM far
  split <;> split <;> omega
theorem enM_ok {f : Fr} {h : Hg} {m : Nat} {M : Mb} (U : Way → Rat) (L0 : lM f M ≠ 0) (k0 : 0 < M.k) (s0 : 0 < M.s) : 0 ≤ enM f h m M U ∧ (enM f h m M U = 0 → ext (tM f M U) = 0 ∧ (atHg h m 0 = false → th0 (lM f M) (tM f M U) = 0) ∧ (atHg h m 1 = false → th1 (lM f M) (tM f M U) = 0)) := by
  have hp : 0 < ip (lM f M) := by
    have := lM_nn f M
    have : (0 : Rat) < (lM f M : Rat) := Rat.intCast_pos.mpr (by omega)
    exact Rat.inv_pos.mpr this
  have hk : (0 : Rat) < (M.k : Rat) := Rat.intCast_pos.mpr k0
  have hs : (0 : Rat) < (M.s : Rat) := Rat.intCast_pos.mpr s0
  have c1 : 0 < (M.s : Rat) * ip (lM f M) := Rat.mul_pos hs hp
  have c2 : 0 < (2 : Rat) * M.k * ip (lM f M) := Rat.mul_pos (Rat.mul_pos (by decide) hk) hp
  have c3 : 0 < (3 : Rat) * M.k * ip (lM f M) := Rat.mul_pos (Rat.mul_pos (by decide) hk) hp
  have z : ∀ {a x : Rat}, 0 < a → a * x = 0 → x = 0 := fun ha hx => by
    rcases Rat.mul_eq_zero.mp hx with h | h
    · rw [h] at ha
      exact absurd ha Rat.lt_irrefl
    · exact h
  have nn : ∀ {a x : Rat}, 0 < a → 0 ≤ x → 0 ≤ a * x := fun ha hx => Rat.mul_nonneg (Rat.le_of_lt ha) hx
  unfold enM SM memS
  generalize tM f M U = t
  by_cases a0 : atHg h m 0 = true
  · rw [if_pos a0, en_rel0 L0 (by omega)]
    refine ⟨add_nn (nn c1 (sq_nn _)) (nn c3 (sq_nn _)), fun e => ?_⟩
    obtain ⟨h1, h2⟩ := add_zz (nn c1 (sq_nn _)) (nn c3 (sq_nn _)) e
    exact ⟨sq_zero (z c1 h1), fun q => absurd (a0.symm.trans q) (by decide), fun _ => sq_zero (z c3 h2)⟩
  · rw [if_neg a0]
    by_cases a1 : atHg h m 1 = true
    · rw [if_pos a1, en_rel1 L0 (by omega)]
      refine ⟨add_nn (nn c1 (sq_nn _)) (nn c3 (sq_nn _)), fun e => ?_⟩
      obtain ⟨h1, h2⟩ := add_zz (nn c1 (sq_nn _)) (nn c3 (sq_nn _)) e
      exact ⟨sq_zero (z c1 h1), fun _ => sq_zero (z c3 h2), fun q => absurd (a1.symm.trans q) (by decide)⟩
    · rw [if_neg a1, en_plain]
      have q0 := sq_nn (th0 (lM f M) t)
      have q1 := sq_nn (th1 (lM f M) t)
      have q2 := sq_nn (th0 (lM f M) t + th1 (lM f M) t)
      refine ⟨add_nn (nn c1 (sq_nn _)) (nn c2 (add_nn (add_nn q0 q1) q2)), fun e => ?_⟩
      obtain ⟨h1, h2⟩ := add_zz (nn c1 (sq_nn _)) (nn c2 (add_nn (add_nn q0 q1) q2)) e
      obtain ⟨h3, _⟩ := add_zz (add_nn q0 q1) q2 (z c2 h2)
      obtain ⟨h4, h5⟩ := add_zz q0 q1 h3
      exact ⟨sq_zero (z c1 h1), fun _ => sq_zero h4, fun _ => sq_zero h5⟩
end BW

namespace BW
/-! ### directions of the drawn members -/
structure Dir (c s L : Int) (p q : Int × Int) : Prop where
  x : c * L = q.1 - p.1
  y : s * L = q.2 - p.2
  l1 : 1 ≤ L
  l4 : L ≤ 4
  cs : (c = 0 ∧ (s = 1 ∨ s = -1)) ∨ (s = 0 ∧ (c = 1 ∨ c = -1))
theorem dir_of {p q : Int × Int} (h : (p.1 = q.1 ∧ ((1 ≤ q.2 - p.2 ∧ q.2 - p.2 ≤ 4) ∨ (1 ≤ p.2 - q.2 ∧ p.2 - q.2 ≤ 4))) ∨ (p.2 = q.2 ∧ ((1 ≤ q.1 - p.1 ∧ q.1 - p.1 ≤ 4) ∨ (1 ≤ p.1 - q.1 ∧ p.1 - q.1 ≤ 4)))) : Dir (cc p q) (ss p q) (far p q) p q := by
  obtain ⟨a, b⟩ := p
  obtain ⟨c, d⟩ := q
  have key : ∀ x y : Int, (x = 0 ∧ ((1 ≤ y ∧ y ≤ 4) ∨ (1 ≤ -y ∧ -y ≤ 4))) ∨ (y = 0 ∧ ((1 ≤ x ∧ x ≤ 4) ∨ (1 ≤ -x ∧ -x ≤ 4))) → ∀ L, L = (if x < 0 then -x else x) + (if y < 0 then -y else y) → x.fdiv L * L = x ∧ y.fdiv L * L = y ∧ 1 ≤ L ∧ L ≤ 4 ∧ ((x.fdiv L = 0 ∧ (y.fdiv L = 1 ∨ y.fdiv L = -1)) ∨ (y.fdiv L = 0 ∧ (x.fdiv L = 1 ∨ x.fdiv L = -1))) := by
    intro x y h L hL
    have hx : -4 ≤ x ∧ x ≤ 4 := by omega
    have hy : -4 ≤ y ∧ y ≤ 4 := by omega
    subst hL
    have : ∀ x ∈ [-4, -3, -2, -1, 0, 1, 2, 3, (4 : Int)], ∀ y ∈ [-4, -3, -2, -1, 0, 1, 2, 3, (4 : Int)], (x = 0 ∧ ((1 ≤ y ∧ y ≤ 4) ∨ (1 ≤ -y ∧ -y ≤ 4))) ∨ (y = 0 ∧ ((1 ≤ x ∧ x ≤ 4) ∨ (1 ≤ -x ∧ -x ≤ 4))) → x.fdiv ((if x < 0 then -x else x) + (if y < 0 then -y else y)) * ((if x < 0 then -x else x) + (if y < 0 then -y else y)) = x ∧ y.fdiv ((if x < 0 then -x else x) + (if y < 0 then -y else y)) * ((if x < 0 then -x else x) + (if y < 0 then -y else y)) = y ∧ 1 ≤ ((if x < 0 then -x else x) + (if y < 0 then -y else y)) ∧ ((if x < 0 then -x else x) + (if y < 0 then -y else y)) ≤ 4 ∧ ((x.fdiv ((if x < 0 then -x else x) + (if y < 0 then -y else y)) = 0 ∧ (y.fdiv ((if x < 0 then -x else x) + (if y < 0 then -y else y)) = 1 ∨ y.fdiv ((if x < 0 then -x else x) + (if y < 0 then -y else y)) = -1)) ∨ (y.fdiv ((if x < 0 then -x else x) + (if y < 0 then -y else y)) = 0 ∧ (x.fdiv ((if x < 0 then -x else x) + (if y < 0 then -y else y)) = 1 ∨ x.fdiv ((if x < 0 then -x else x) + (if y < 0 then -y else y)) = -1))) := by decide +kernel
    exact this x (by simp; omega) y (by simp; omega) h
  obtain ⟨h1, h2, h3, h4, h5⟩ := key (c - a) (d - b) (by simp at h; omega) _ rfl
  exact ⟨h1, h2, h3, h4, h5⟩
/-- what the drawn members are -/
structure Mdr (f : Fr) (m : Nat) (M : Mb) : Prop where
  ij : (M.i = m ∧ M.j = m + 1) ∨ (M.i = m + 1 ∧ M.j = m)
  lt : m + 1 < f.nd.length
  d : Dir (cM f M) (sM f M) (lM f M) (ndA f M.i) (ndA f M.j)
  k : 1 ≤ M.k ∧ M.k ≤ 4
  s : 1 ≤ M.s ∧ M.s ≤ 6
theorem Drawn.mdr {f : Fr} (D : Drawn f) {m : Nat} {M : Mb} (hM : f.mb[m]? = some M) : Mdr f m M := by
  obtain ⟨E, S, hl, hm⟩ := D.ex
  obtain ⟨hE, k1, k2, s1, s2⟩ := hm m M hM
  have hlen := (List.getElem?_eq_some_iff.mp hM).1
  have hlt : m + 1 < f.nd.length := by
    have := S.el
    omega
  have hij : (M.i = m ∧ M.j = m + 1) ∨ (M.i = m + 1 ∧ M.j = m) := by
    rcases hE with hE | hE
    · rcases S.ee m _ hE with e | e
      · exact .inl ⟨congrArg Prod.fst e, congrArg Prod.snd e⟩
      · exact .inr ⟨congrArg Prod.fst e, congrArg Prod.snd e⟩
    · rcases S.ee m _ hE with e | e
      · exact .inr ⟨congrArg Prod.snd e, congrArg Prod.fst e⟩
      · exact .inl ⟨congrArg Prod.snd e, congrArg Prod.fst e⟩
  refine ⟨hij, hlt, ?_, ⟨k1, k2⟩, ⟨s1, s2⟩⟩
  have st := S.st m (ndA f m) (ndA f (m + 1)) (nd_at (by omega)) (nd_at hlt)
  unfold cM sM lM
  rcases hij with ⟨e1, e2⟩ | ⟨e1, e2⟩
  · rw [e1, e2]
    refine dir_of ?_
    rcases st with ⟨h1, h2⟩ | ⟨h1, h2, h3⟩
    · exact .inl ⟨h1, h2⟩
    · exact .inr ⟨h1, .inl ⟨h2, h3⟩⟩
  · rw [e1, e2]
    refine dir_of ?_
    rcases st with ⟨h1, h2⟩ | ⟨h1, h2, h3⟩
    · exact .inl ⟨h1.symm, h2.symm⟩
    · exact .inr ⟨h1.symm, .inr ⟨h2, h3⟩⟩
/-- a member that isn't bent: its ends move as a rigid body -/
theorem rigid {f : Fr} {m : Nat} {M : Mb} (D : Mdr f m M) {U : Way → Rat} (h0 : ext (tM f M U) = 0) (h1 : th0 (lM f M) (tM f M U) = 0) (h2 : th1 (lM f M) (tM f M U) = 0) :
    U (M.j, 2) = U (M.i, 2) ∧ U (M.j, 0) - U (M.i, 0) = -(U (M.i, 2) * ((ndA f M.j).2 - (ndA f M.i).2 : Int)) ∧ U (M.j, 1) - U (M.i, 1) = U (M.i, 2) * ((ndA f M.j).1 - (ndA f M.i).1 : Int) := by
  have hL : lM f M ≠ 0 := by
    have := D.d.l1
    omega
  have hi := ip_mul hL
  rw [← D.d.x, ← D.d.y]
  unfold ext at h0
  unfold th0 at h1
  unfold th1 at h2
  simp only [tM, tE] at h0 h1 h2
  rcases D.d.cs with ⟨e1, e2 | e2⟩ | ⟨e1, e2 | e2⟩ <;> rw [e1, e2] at h0 h1 h2 ⊢ <;> simp at h0 h1 h2 ⊢ <;> grind
theorem chain {f : Fr} (D : Drawn f) {U : Way → Rat} (hU : ∀ w ∈ heldW f, U w = 0) (h0 : ∀ (m : Nat) (M : Mb), f.mb[m]? = some M → ext (tM f M U) = 0 ∧ th0 (lM f M) (tM f M U) = 0 ∧ th1 (lM f M) (tM f M U) = 0) : ∀ w ∈ waysW f.nd.length, U w = 0 := by
  obtain ⟨E, S, hl, hm⟩ := D.ex
  have x0 : ndA f 0 = (0, 0) := by
    have h1 := nd_at (f := f) (i := 0) (by have := S.n2; omega)
    rw [S.x0] at h1
    exact (Option.some.inj h1).symm
  have key : ∀ n, n < f.nd.length → U (n, 2) = U (0, 2) ∧ U (n, 0) = -(U (0, 2) * ((ndA f n).2 : Rat)) ∧ U (n, 1) = U (0, 2) * ((ndA f n).1 : Rat) := by
    intro n
    induction n with
    | zero =>
      intro _
      rw [x0, hU _ S.hx, hU _ S.hy]
      refine ⟨rfl, ?_, ?_⟩ <;> simp
    | succ n ih =>
      intro hn
      obtain ⟨a, b, c⟩ := ih (by omega)
      have hlen : n < f.mb.length := by
        have := S.el
        omega
      have hM := List.getElem?_eq_getElem hlen
      have M := D.mdr hM
      obtain ⟨g0, g1, g2⟩ := h0 _ _ hM
      obtain ⟨r1, r2, r3⟩ := rigid M g0 g1 g2
      rw [Rat.intCast_sub] at r2 r3
      rcases M.ij with ⟨e1, e2⟩ | ⟨e1, e2⟩
      · rw [e1, e2] at r1 r2 r3
        refine ⟨?_, ?_, ?_⟩ <;> grind
      · rw [e1, e2] at r1 r2 r3
        refine ⟨?_, ?_, ?_⟩ <;> grind
  have r0 : U (0, 2) = 0 := by
    rcases S.hr with h | ⟨j, p, h1, h2, h3⟩
    · exact hU _ h
    · have hj := (List.getElem?_eq_some_iff.mp h2).1
      have h4 := (key j hj).2.2
      rw [hU _ h1] at h4
      have h5 := nd_at hj
      rw [h2] at h5
      rw [← Option.some.inj h5] at h4
      rcases Rat.mul_eq_zero.mp h4.symm with h6 | h6
      · exact h6
      · exact absurd (by simpa using h6) h3
  intro w hw
  obtain ⟨n, l⟩ := w
  obtain ⟨h1, h2⟩ := waysW_mem.mp hw
  have h1 : n < f.nd.length := h1
  have h2 : l < 3 := h2
  obtain ⟨a, b, c⟩ := key n h1
  rw [r0] at a b c
  match l, h2 with
  | 0, _ => rw [b]; grind
  | 1, _ => rw [c]; grind
  | 2, _ => exact a
theorem Mdr.ne {f : Fr} {m : Nat} {M : Mb} (D : Mdr f m M) : M.i ≠ M.j := by
  have := D.ij
  omega
/-- no moves without forces: all members unbent -/
theorem unbent {f : Fr} (D : Drawn f) {h : Hg} {d : Nat → Rat} (hd : ∀ i < (free f).length, dot (free f).length (tabM f h i) d = 0) : ∀ (m : Nat) (M : Mb), f.mb[m]? = some M → ext (tM f M (Uf f d)) = 0 ∧ (atHg h m 0 = false → th0 (lM f M) (tM f M (Uf f d)) = 0) ∧ (atHg h m 1 = false → th1 (lM f M) (tM f M (Uf f d)) = 0) := by
  have e := total_en (f := f) (h := h) (fun m M hM => (D.mdr hM).ne) d
  rw [dot_zeroR hd] at e
  have ok : ∀ (m : Nat) (M : Mb), f.mb[m]? = some M → 0 ≤ enM f h m M (Uf f d) ∧ (enM f h m M (Uf f d) = 0 → ext (tM f M (Uf f d)) = 0 ∧ (atHg h m 0 = false → th0 (lM f M) (tM f M (Uf f d)) = 0) ∧ (atHg h m 1 = false → th1 (lM f M) (tM f M (Uf f d)) = 0)) := fun m M hM => by
    have h1 := (D.mdr hM).d.l1
    have h2 := (D.mdr hM).k.1
    have h3 := (D.mdr hM).s.1
    exact enM_ok (Uf f d) (by omega) (by omega) (by omega)
  intro m M hM
  exact (ok m M hM).2 ((mbS_nn (fun m M hM => (ok m M hM).1) f.mb.length).2 e.symm m M (List.getElem?_eq_some_iff.mp hM).1 hM)
theorem inj_none {f : Fr} (D : Drawn f) (H : HeldW f) : Inj (free f).length (free f).length (tabM f none) := by
  intro d hd j hj
  have h1 := unbent D hd
  have h2 := chain D (U := Uf f d) (fun w hw => Uf_out fun z => ((free_mem H).mp z).2 hw) fun m M hM => ⟨(h1 m M hM).1, (h1 m M hM).2.1 rfl, (h1 m M hM).2.2 rfl⟩
  rw [← Uf_at (f := f) (d := d) hj]
  exact h2 _ ((free_mem H).mp (List.mem_of_getElem? (frW_get hj))).1
/-- .. with a hinge that leaves it stiff -/
theorem parts_ok {h : Hg} {n : Nat} {z : Nat × Nat} (hz : z ∈ parts h n) : z.1 < n ∧ (z.2 = 0 ∨ (z.2 = 1 ∧ atHg h z.1 0 = false) ∨ (z.2 = 2 ∧ atHg h z.1 1 = false)) := by
  refine ⟨parts_mem hz, ?_⟩
  unfold parts at hz
  obtain ⟨m, hm, hz⟩ := List.mem_flatMap.mp hz
  unfold partsOf at hz
  rcases List.mem_cons.mp hz with rfl | hz
  · exact .inl rfl
  · obtain ⟨e, he, rfl⟩ := List.mem_map.mp hz
    obtain ⟨h1, h2⟩ := List.mem_filter.mp he
    simp at h1 h2
    rcases h1 with rfl | rfl
    · exact .inr (.inl ⟨rfl, h2⟩)
    · exact .inr (.inr ⟨rfl, h2⟩)
theorem ef_work (L : Int) (t : Nat → Rat) (p : Nat) : dot 6 t (ef L (del p 0) (del p 1) (del p 2)) = if p = 0 then ext t else if p = 1 then th0 L t else if p = 2 then th1 L t else 0 := by
  unfold dot ext th0 th1
  simp only [dot, ef, del, div_ip]
  match p with
  | 0 => simp; grind
  | 1 => simp; grind
  | 2 => simp; grind
  | p + 3 => simp; grind
theorem inj_hinge {f : Fr} (D : Drawn f) {h : Hg} (hm : motN f h = 0) : Inj (free f).length (free f).length (tabM f h) := by
  intro d hd j hj
  have h1 := unbent D hd
  have hN : (red (free f).length (balM f h) (parts h f.mb.length).length).2.length = (free f).length := by
    unfold motN at hm
    omega
  obtain ⟨t, ht⟩ := red_onto hN d
  have e : dot (free f).length d (fun i => dot (parts h f.mb.length).length (balM f h i) t) = dot (free f).length d d := dot_congr (fun _ _ => rfl) ht
  rw [dot_swap] at e
  have z : dot (parts h f.mb.length).length (fun j => dot (free f).length d fun i => balM f h i j) t = 0 := dot_zeroL fun j hj => by
    have hz := List.getElem_mem hj
    have e1 : (parts h f.mb.length).getD j (0, 0) = (parts h f.mb.length)[j] := by
      rw [List.getD_eq_getElem?_getD, List.getElem?_eq_getElem hj]
      rfl
    unfold balM
    rw [e1]
    generalize (parts h f.mb.length)[j] = q at hz
    obtain ⟨g1, g2⟩ := parts_ok hz
    have hM := List.getElem?_eq_getElem g1
    obtain ⟨b1, b2, b3⟩ := h1 _ _ hM
    have e2 : ∀ i, getR (colL f q) (frW f i) = atF f.mb[q.1] (cM f f.mb[q.1]) (sM f f.mb[q.1]) (ef (lM f f.mb[q.1]) (del q.2 0) (del q.2 1) (del q.2 2)) (frW f i) := fun i => by
      unfold colL
      rw [hM]
      exact getR_atF _ _ _ _ (frW_3 i)
    rw [show (fun i => getR (colL f q) (frW f i)) = _ from funext e2, work_fr (D.mdr hM).ne]
    show dot 6 (tM f _ (Uf f d)) _ = 0
    rw [ef_work]
    rcases g2 with g2 | ⟨g2, g3⟩ | ⟨g2, g3⟩
    · rw [if_pos g2]
      exact b1
    · rw [if_neg (by omega), if_pos g2]
      exact b2 g3
    · rw [if_neg (by omega), if_neg (by omega), if_pos g2]
      exact b3 g3
  rw [z] at e
  exact dot_sq.2 e.symm j hj
end BW

namespace BW
theorem SuM_congr {f : Fr} {h : Hg} {m : Nat} {M : Mb} (ne : M.i ≠ M.j) {U U' : Way → Rat} (e : ∀ w ∈ wyM M, U w = U' w) (i : Nat) : SuM f h m M U i = SuM f h m M U' i := by
  rw [SuM_six ne U, SuM_six ne U']
  exact six_congr fun w hw => by rw [e w hw]
theorem SuM_add {f : Fr} {h : Hg} {m : Nat} {M : Mb} (ne : M.i ≠ M.j) (U U' : Way → Rat) (i : Nat) : SuM f h m M (fun w => U w + U' w) i = SuM f h m M U i + SuM f h m M U' i := by
  rw [SuM_six ne U, SuM_six ne U', SuM_six ne]
  simp only [six]
  grind
theorem FM_add {f : Fr} {h : Hg} {m : Nat} {M : Mb} (x y : Nat → Rat) (i : Nat) : FM f h m M (fun i => x i + y i) i = FM f h m M x i + FM f h m M y i := by
  unfold FM memF
  split
  · unfold relF
    grind
  · split
    · unfold relF
      grind
    · rfl
theorem FM_zero {f : Fr} {h : Hg} {m : Nat} {M : Mb} (i : Nat) : FM f h m M (fun _ => 0) i = 0 := by
  have := FM_add (f := f) (h := h) (m := m) (M := M) (fun _ => 0) (fun _ => 0) i
  simp only [Rat.add_zero] at this
  grind
theorem atF_add (M : Mb) (c s : Int) (x y : Nat → Rat) (o : Way) : atF M c s (fun i => x i + y i) o = atF M c s x o + atF M c s y o := by
  unfold atF
  split
  · grind
  split
  · grind
  split
  · grind
  split
  · grind
  split
  · grind
  split
  · grind
  · grind
theorem gM_add {f : Fr} {h : Hg} {m : Nat} {M : Mb} (x y : Nat → Rat) {o : Way} (ho : o.2 < 3) : gM f h m M (fun i => x i + y i) o = gM f h m M x o + gM f h m M y o := by
  unfold gM atM
  rw [getR_atF _ _ _ _ ho, getR_atF _ _ _ _ ho, getR_atF _ _ _ _ ho, ← atF_add]
  congr 1
  funext i
  exact FM_add x y i
theorem mbS_add {f : Fr} {g g' : Nat → Mb → Rat} : ∀ k, mbS f (fun m M => g m M + g' m M) k = mbS f g k + mbS f g' k
  | 0 => by unfold mbS; grind
  | k + 1 => by
    unfold mbS
    rw [mbS_add k]
    cases f.mb[k]? with
    | none => grind
    | some M => grind
theorem sysG_add {f : Fr} {h : Hg} (F F' : Nat → Nat → Rat) (k : Nat) {o : Way} (ho : o.2 < 3) : sysG f h (fun m i => F m i + F' m i) k o = sysG f h F k o + sysG f h F' k o := by
  unfold sysG
  rw [mbS_congr (g' := fun m M => gM f h m M (F m) o + gM f h m M (F' m) o) (fun m M _ => gM_add (F m) (F' m) ho) k, mbS_add]
  grind
theorem sysG_zero {f : Fr} {h : Hg} (k : Nat) {o : Way} (ho : o.2 < 3) : sysG f h (fun _ _ => 0) k o = 0 := by
  have := sysG_add (f := f) (h := h) (fun _ _ => 0) (fun _ _ => 0) k ho
  simp only [Rat.add_zero] at this
  grind
def smL (L : List Way) (g : Way → Rat) : Rat := match L with
  | [] => 0
  | w :: L => g w + smL L g
theorem minS_eq (g : Way → Rat) : ∀ (L : List Way) (a : Rat), minS L g a = a - smL L g
  | [], a => by
    show a = a - 0
    grind
  | w :: L, a => by
    show minS L g (a - g w) = a - (g w + smL L g)
    rw [minS_eq g L]
    grind
theorem smL_zero {g : Way → Rat} (h : ∀ w, g w = 0) : ∀ L, smL L g = 0
  | [] => rfl
  | w :: L => by
    show g w + smL L g = 0
    rw [h, smL_zero h L, Rat.add_zero]
theorem rgt_sum {f : Fr} {h : Hg} {J : Nat → Nat → Int} {F F' : Nat → Nat → Rat} {gv : Way → Rat} (i : Nat) : rgtV f h J (fun m i => F m i + F' m i) gv i = rgtV f h J F (fun _ => 0) i + rgtV f h (fun _ _ => 0) (fun _ _ => 0) gv i + rgtV f h (fun _ _ => 0) F' (fun _ => 0) i := by
  unfold rgtV rgtW
  simp only [minS_eq]
  rw [sysG_add F F' _ (frW_3 i), sysG_zero _ (frW_3 i), smL_zero (g := fun w => sysK f h f.mb.length (frW f i) w * 0) fun w => Rat.mul_zero _]
  have : ((0 : Int) : Rat) = 0 := rfl
  rw [this]
  grind
theorem split_ways {f : Fr} (H : HeldW f) {w : Way} (hw : w ∈ waysW f.nd.length) : w ∈ heldW f ∨ ∃ i < (free f).length, frW f i = w := by
  by_cases h : w ∈ heldW f
  · exact .inl h
  · obtain ⟨i, hi⟩ := List.getElem?_of_mem ((free_mem H).mpr ⟨hw, h⟩)
    have hl := (List.getElem?_eq_some_iff.mp hi).1
    have := frW_get hl
    rw [hi] at this
    exact .inr ⟨i, hl, (Option.some.inj this).symm⟩
/-- the moves are told by the table -/
theorem same_moves {f : Fr} {h : Hg} (H : HeldW f) (I : Inj (free f).length (free f).length (tabM f h)) {u u' : Way → Rat} (hh : ∀ w ∈ heldW f, u w = u' w) (ht : ∀ i < (free f).length, dot (free f).length (tabM f h i) (fun j => u (frW f j)) = dot (free f).length (tabM f h i) (fun j => u' (frW f j))) : ∀ w ∈ waysW f.nd.length, u w = u' w := by
  have z : ∀ i < (free f).length, dot (free f).length (tabM f h i) (fun j => u (frW f j) + -1 * u' (frW f j)) = 0 := fun i hi => by
    rw [dot_add, ht i hi, dot_comm (tabM f h i) (fun j => -1 * u' (frW f j)), dot_comm (tabM f h i)]
    have : ∀ n (x y : Nat → Rat), dot n x y + dot n (fun j => -1 * x j) y = 0 := fun n x y => by
      induction n with
      | zero => unfold dot; grind
      | succ n ih =>
        unfold dot
        grind
    exact this _ _ _
  have k := I _ z
  intro w hw
  rcases split_ways H hw with h1 | ⟨i, hi, rfl⟩
  · exact hh w h1
  · have := k i hi
    grind
theorem wyM_ways {f : Fr} {m : Nat} {M : Mb} (D : Mdr f m M) : ∀ w ∈ wyM M, w ∈ waysW f.nd.length := by
  have := D.ij
  have := D.lt
  intro w hw
  rw [waysW_mem]
  simp only [wyM, List.mem_cons, List.not_mem_nil, or_false] at hw
  rcases hw with rfl | rfl | rfl | rfl | rfl | rfl <;> refine ⟨?_, ?_⟩ <;> simp <;> omega
theorem end_congr {f : Fr} (D : Drawn f) {h : Hg} {fix : Nat → Nat → Rat} {u u' : Way → Rat} (e : ∀ w ∈ waysW f.nd.length, u w = u' w) (m i : Nat) : endV f h fix u m i = endV f h fix u' m i := by
  unfold endV
  cases hM : f.mb[m]? with
  | none => rfl
  | some M =>
    show SuM f h m M u i + _ = SuM f h m M u' i + _
    rw [SuM_congr (D.mdr hM).ne (U' := u') fun w hw => e w (wyM_ways (D.mdr hM) w hw)]
theorem law_uq {f : Fr} (D : Drawn f) (H : HeldW f) {h : Hg} (I : Inj (free f).length (free f).length (tabM f h)) (J : Nat → Nat → Int) (fix : Nat → Nat → Rat) (gv : List (Way × Rat)) (u u' : Way → Rat) (a : Sol f h J fix gv u) (b : Sol f h J fix gv u') (m i : Nat) : endV f h fix u m i = endV f h fix u' m i :=
  end_congr D (same_moves H I (fun w hw => by rw [a.1 w hw, b.1 w hw]) fun i hi => by rw [a.2.1 i hi, b.2.1 i hi]) m i
theorem law_lin {f : Fr} (D : Drawn f) (H : HeldW f) {h : Hg} (I : Inj (free f).length (free f).length (tabM f h)) {J : Nat → Nat → Int} {F F' : Nat → Nat → Rat} {gv : List (Way × Rat)} {u uP uG uS : Way → Rat} (a : Sol f h J (fun m i => F m i + F' m i) gv u) (b : Sol f h J F [] uP) (c : Sol f h (fun _ _ => 0) (fun _ _ => 0) gv uG) (d : Sol f h (fun _ _ => 0) F' [] uS) (m : Nat) (hm : m < f.mb.length) (i : Nat) :
    endV f h (fun m i => F m i + F' m i) u m i = endV f h F uP m i + endV f h (fun _ _ => 0) uG m i + endV f h F' uS m i := by
  have e := same_moves H I (u := u) (u' := fun w => uP w + uG w + uS w) (fun w hw => by
    rw [a.1 w hw, b.1 w hw, c.1 w hw, d.1 w hw]
    have : gvF [] w = 0 := rfl
    rw [this]
    grind) fun i hi => by
      rw [a.2.1 i hi, dot_add, dot_add, b.2.1 i hi, c.2.1 i hi, d.2.1 i hi]
      exact rgt_sum i
  have hM := List.getElem?_eq_getElem hm
  have ne := (D.mdr hM).ne
  rw [end_congr D e m i]
  unfold endV
  rw [hM]
  show SuM f h m _ _ i + _ = SuM f h m _ uP i + _ + (SuM f h m _ uG i + _) + (SuM f h m _ uS i + _)
  rw [SuM_add ne (fun w => uP w + uG w) uS, SuM_add ne uP uG, FM_add (F m) (F' m) i, FM_zero]
  grind
end BW

namespace BW
/-! ### sizes: whole numbers over a common denominator -/
def Zd (D B : Nat) (q : Rat) : Prop := ∃ n : Int, q * (D : Rat) = (n : Rat) ∧ n.natAbs ≤ B
theorem Zd.zero (D B : Nat) : Zd D B 0 := ⟨0, by rw [Rat.zero_mul]; rfl, Nat.zero_le _⟩
theorem Zd.add {D B C : Nat} {x y : Rat} (h : Zd D B x) (h' : Zd D C y) : Zd D (B + C) (x + y) := by
  obtain ⟨n, e, l⟩ := h
  obtain ⟨m, e', l'⟩ := h'
  refine ⟨n + m, by rw [Rat.add_mul, e, e', Rat.intCast_add], ?_⟩
  have := Int.natAbs_add_le n m
  omega
theorem Zd.neg {D B : Nat} {x : Rat} (h : Zd D B x) : Zd D B (-x) := by
  obtain ⟨n, e, l⟩ := h
  exact ⟨-n, by rw [Rat.neg_mul, e, Rat.intCast_neg], by omega⟩
theorem Zd.sub {D B C : Nat} {x y : Rat} (h : Zd D B x) (h' : Zd D C y) : Zd D (B + C) (x - y) := by
  rw [Rat.sub_eq_add_neg]
  exact h.add h'.neg
theorem Zd.mul {D E B C : Nat} {x y : Rat} (h : Zd D B x) (h' : Zd E C y) : Zd (D * E) (B * C) (x * y) := by
  obtain ⟨n, e, l⟩ := h
  obtain ⟨m, e', l'⟩ := h'
  refine ⟨n * m, ?_, by rw [Int.natAbs_mul]; exact Nat.mul_le_mul l l'⟩
  rw [Rat.natCast_mul, Rat.intCast_mul, ← e, ← e']
  grind
theorem Zd.mono {D B C : Nat} {x : Rat} (h : Zd D B x) (l : B ≤ C) : Zd D C x := by
  obtain ⟨n, e, l'⟩ := h
  exact ⟨n, e, Nat.le_trans l' l⟩
theorem Zd.up {D B E C : Nat} {x : Rat} (h : Zd D B x) (k : Nat) (e : D * k = E) (l : B * k ≤ C) : Zd E C x := by
  obtain ⟨n, e', l'⟩ := h
  refine ⟨n * k, by rw [← e, Rat.natCast_mul, ← Rat.mul_assoc, e', Rat.intCast_mul]; rfl, ?_⟩
  rw [Int.natAbs_mul, Int.natAbs_natCast]
  exact Nat.le_trans (Nat.mul_le_mul_right _ l') l
theorem Zd.int {B : Nat} {i : Int} (h : i.natAbs ≤ B) : Zd 1 B (i : Rat) := ⟨i, by simp, h⟩
theorem Zd.bd {D B b : Nat} {x : Rat} (h : Zd D B x) (hD : D ≠ 0) (l : D < 2 ^ b) (l' : B < 2 ^ b) : Bd b x := by
  obtain ⟨n, e, ln⟩ := h
  have hD' : (D : Rat) ≠ 0 := fun z => hD (by simpa using z)
  have ex : x = Rat.divInt n (D : Int) := by
    rw [Rat.divInt_eq_div, ← e]
    show x = x * (D : Rat) / (((D : Nat) : Int) : Rat)
    rw [Rat.intCast_natCast, Rat.mul_div_cancel hD']
  rw [ex]
  exact Bd.div (by omega) (by omega) (by omega)
theorem Zd.cm {D B b : Nat} {x : Rat} (h : Zd D B x) (l' : B < 2 ^ b) : CmE b (D : Int) x := by
  obtain ⟨n, e, ln⟩ := h
  exact ⟨n, by rw [Rat.intCast_natCast]; exact e, by omega⟩
theorem Zd.dot {D E B C : Nat} {x y : Nat → Rat} (hx : ∀ i, Zd D B (x i)) (hy : ∀ i, Zd E C (y i)) : ∀ n, Zd (D * E) (n * (B * C)) (dot n x y)
  | 0 => Zd.zero _ _
  | n + 1 => ((Zd.dot hx hy n).add ((hx n).mul (hy n))).mono (by rw [Nat.succ_mul]; exact Nat.le_refl _)
theorem getD_all {α : Type} {P : α → Prop} {l : List α} {d : α} (h : ∀ x ∈ l, P x) (hd : P d) (i : Nat) : P (l.getD i d) := by
  rw [List.getD_eq_getElem?_getD]
  cases e : l[i]? with
  | none => exact hd
  | some x => exact h x (List.mem_of_getElem? e)
theorem tbl_all {P : Rat → Prop} {a b c d h : Rat} (p0 : P 0) (pa : P a) (pb : P b) (pc : P c) (pd : P d) (ph : P h) (na : P (-a)) (nb : P (-b)) (nc : P (-c)) (i j : Nat) : P (((tbl a b c d h).getD i []).getD j 0) := by
  refine getD_all (P := P) (fun x hx => ?_) p0 j
  have key : ∀ r ∈ tbl a b c d h, ∀ x ∈ r, P x := by
    intro r hr x hx
    simp only [tbl, List.mem_cons, List.not_mem_nil, or_false] at hr
    rcases hr with rfl | rfl | rfl | rfl | rfl | rfl <;>
    · simp only [List.mem_cons, List.not_mem_nil, or_false] at hx
      rcases hx with rfl | rfl | rfl | rfl | rfl | rfl <;> assumption
  exact getD_all (P := fun r => ∀ x ∈ r, P x) key (fun x hx => by cases hx) i x hx
theorem ip_zd {L : Int} (h1 : 1 ≤ L) (h4 : L ≤ 4) : Zd 12 12 (ip L) := by
  have hp := ip_mul (L := L) (by omega)
  have : L = 1 ∨ L = 2 ∨ L = 3 ∨ L = 4 := by omega
  rcases this with rfl | rfl | rfl | rfl
  · exact ⟨12, by simp at hp ⊢; grind, by decide⟩
  · exact ⟨6, by simp at hp ⊢; grind, by decide⟩
  · exact ⟨4, by simp at hp ⊢; grind, by decide⟩
  · exact ⟨3, by simp at hp ⊢; grind, by decide⟩
theorem plainS_zd {k s L : Int} (h1 : 1 ≤ L) (h4 : L ≤ 4) (k1 : 1 ≤ k) (k4 : k ≤ 4) (s1 : 1 ≤ s) (s6 : s ≤ 6) (i j : Nat) : Zd 1728 82944 (plainS k s L i j) := by
  have hk : Zd 1 4 (k : Rat) := Zd.int (by omega)
  have hs : Zd 1 6 (s : Rat) := Zd.int (by omega)
  have hp := ip_zd h1 h4
  have n12 : Zd 1 12 (12 : Rat) := ⟨12, by simp, by decide⟩
  have n6 : Zd 1 6 (6 : Rat) := ⟨6, by simp, by decide⟩
  have n4 : Zd 1 4 (4 : Rat) := ⟨4, by simp, by decide⟩
  have n2 : Zd 1 2 (2 : Rat) := ⟨2, by simp, by decide⟩
  have pa : Zd 1728 82944 ((s : Rat) * ip L) := (hs.mul hp).up 144 rfl (by decide)
  have pb : Zd 1728 82944 (12 * (k : Rat) * (ip L * ip L * ip L)) := ((n12.mul hk).mul ((hp.mul hp).mul hp)).up 1 rfl (by decide)
  have pc : Zd 1728 82944 (6 * (k : Rat) * (ip L * ip L)) := ((n6.mul hk).mul (hp.mul hp)).up 12 rfl (by decide)
  have pd : Zd 1728 82944 (4 * (k : Rat) * ip L) := ((n4.mul hk).mul hp).up 144 rfl (by decide)
  have ph : Zd 1728 82944 (2 * (k : Rat) * ip L) := ((n2.mul hk).mul hp).up 144 rfl (by decide)
  rw [plainS_eq]
  exact tbl_all (P := Zd 1728 82944) (Zd.zero _ _) pa pb pc pd ph pa.neg pb.neg pc.neg i j
theorem plainS_hi {k s L : Int} (i j : Nat) : plainS k s L (i + 6) j = 0 := rfl
theorem r_zd0 {k s L : Int} (h1 : 1 ≤ L) (h4 : L ≤ 4) (k1 : 1 ≤ k) (i : Nat) : Zd 24 36 (plainS k s L i 2 / plainS k s L 2 2) := by
  obtain ⟨a, b, c, d, e, f⟩ := rr0 (k := k) (s := s) (L := L) (by omega) (by omega)
  have hp := ip_zd h1 h4
  have n32 : Zd 2 3 (3 / 2 : Rat) := ⟨3, by grind, by decide⟩
  have n1 : Zd 24 36 (1 : Rat) := ⟨24, by grind, by decide⟩
  have n12 : Zd 24 36 (1 / 2 : Rat) := ⟨12, by grind, by decide⟩
  have q : Zd 24 36 (3 / 2 * ip L) := (n32.mul hp).up 1 rfl (by decide)
  match i with
  | 0 => rw [a]; exact Zd.zero _ _
  | 1 => rw [b]; exact q
  | 2 => rw [c]; exact n1
  | 3 => rw [d]; exact Zd.zero _ _
  | 4 => rw [e]; exact q.neg
  | 5 => rw [f]; exact n12
  | i + 6 => rw [plainS_hi, qz]; exact Zd.zero _ _
theorem r_zd1 {k s L : Int} (h1 : 1 ≤ L) (h4 : L ≤ 4) (k1 : 1 ≤ k) (i : Nat) : Zd 24 36 (plainS k s L i 5 / plainS k s L 5 5) := by
  obtain ⟨a, b, c, d, e, f⟩ := rr1 (k := k) (s := s) (L := L) (by omega) (by omega)
  have hp := ip_zd h1 h4
  have n32 : Zd 2 3 (3 / 2 : Rat) := ⟨3, by grind, by decide⟩
  have n1 : Zd 24 36 (1 : Rat) := ⟨24, by grind, by decide⟩
  have n12 : Zd 24 36 (1 / 2 : Rat) := ⟨12, by grind, by decide⟩
  have q : Zd 24 36 (3 / 2 * ip L) := (n32.mul hp).up 1 rfl (by decide)
  match i with
  | 0 => rw [a]; exact Zd.zero _ _
  | 1 => rw [b]; exact q
  | 2 => rw [c]; exact n12
  | 3 => rw [d]; exact Zd.zero _ _
  | 4 => rw [e]; exact q.neg
  | 5 => rw [f]; exact n1
  | i + 6 => rw [plainS_hi, qz]; exact Zd.zero _ _
theorem SM_zd {f : Fr} {h : Hg} {m : Nat} {M : Mb} (D : Mdr f m M) (i j : Nat) : Zd 41472 5000000 (SM f h m M i j) := by
  have hS := plainS_zd D.d.l1 D.d.l4 D.k.1 D.k.2 D.s.1 D.s.2
  unfold SM memS
  split
  · unfold relS
    exact ((hS i j).up 24 rfl (Nat.le_refl _) |>.sub (((r_zd0 D.d.l1 D.d.l4 D.k.1 i).mul (hS 2 j)).up 1 rfl (Nat.le_refl _))).mono (by decide)
  · split
    · unfold relS
      exact ((hS i j).up 24 rfl (Nat.le_refl _) |>.sub (((r_zd1 D.d.l1 D.d.l4 D.k.1 i).mul (hS 5 j)).up 1 rfl (Nat.le_refl _))).mono (by decide)
    · exact (hS i j).up 24 rfl (by decide)
theorem FM_zd {f : Fr} {h : Hg} {m : Nat} {M : Mb} (D : Mdr f m M) {F : Nat → Rat} (hF : ∀ i, Zd 144 10000 (F i)) (i : Nat) : Zd 41472 8000000 (FM f h m M F i) := by
  unfold FM memF
  split
  · unfold relF
    exact ((hF i).up 288 rfl (Nat.le_refl _) |>.sub (((r_zd0 D.d.l1 D.d.l4 D.k.1 i).mul (hF 2)).up 12 rfl (Nat.le_refl _))).mono (by decide)
  · split
    · unfold relF
      exact ((hF i).up 288 rfl (Nat.le_refl _) |>.sub (((r_zd1 D.d.l1 D.d.l4 D.k.1 i).mul (hF 5)).up 12 rfl (Nat.le_refl _))).mono (by decide)
    · exact (hF i).up 288 rfl (by decide)
theorem Dir.zd {c s L : Int} {p q : Int × Int} (D : Dir c s L p q) : Zd 1 1 (c : Rat) ∧ Zd 1 1 (s : Rat) ∧ Zd 1 1 ((-s : Int) : Rat) := by
  have := D.cs
  exact ⟨Zd.int (by omega), Zd.int (by omega), Zd.int (by omega)⟩
theorem pair_zd {D B : Nat} {x y c s : Rat} (hx : Zd D B x) (hy : Zd D B y) (hc : Zd 1 1 c) (hs : Zd 1 1 s) : Zd D (2 * B) (x * c + y * s) :=
  (((hx.mul hc).up 1 (by omega) (Nat.le_refl _)).add ((hy.mul hs).up 1 (by omega) (Nat.le_refl _))).mono (by omega)
theorem tM_zd {f : Fr} {m : Nat} {M : Mb} (D : Mdr f m M) (w : Way) (k : Nat) : Zd 1 2 (tM f M (unit w) k) := by
  obtain ⟨c1, c2, c3⟩ := D.d.zd
  have hu : ∀ v, Zd 1 1 (unit w v) := fun v => by
    unfold unit
    split
    · exact ⟨1, by simp, by decide⟩
    · exact Zd.zero _ _
  unfold tM tE
  split
  · exact pair_zd (hu _) (hu _) c1 c2
  · exact pair_zd (hu _) (hu _) c3 c1
  · exact (hu _).mono (by decide)
  · exact pair_zd (hu _) (hu _) c1 c2
  · exact pair_zd (hu _) (hu _) c3 c1
  · exact (hu _).mono (by decide)
theorem atF_zd {f : Fr} {m : Nat} {M : Mb} (D : Mdr f m M) {E B : Nat} {e : Nat → Rat} (he : ∀ i, Zd E B (e i)) (o : Way) : Zd E (2 * B) (atF M (cM f M) (sM f M) e o) := by
  obtain ⟨c1, c2, c3⟩ := D.d.zd
  unfold atF
  split
  · exact pair_zd (he _) (he _) c1 c3
  split
  · exact pair_zd (he _) (he _) c2 c1
  split
  · exact (he _).mono (by omega)
  split
  · exact pair_zd (he _) (he _) c1 c3
  split
  · exact pair_zd (he _) (he _) c2 c1
  split
  · exact (he _).mono (by omega)
  · exact Zd.zero _ _
theorem kM_zd {f : Fr} {h : Hg} {m : Nat} {M : Mb} (D : Mdr f m M) {o : Way} (ho : o.2 < 3) (w : Way) : Zd 41472 120000000 (kM f h m M o w) := by
  unfold kM atM
  split
  · rw [getR_atF _ _ _ _ ho]
    refine (atF_zd D (E := 41472) (B := 60000000) (fun i => ?_) o).mono (by decide)
    exact (Zd.dot (fun j => SM_zd D i j) (fun k => tM_zd D w k) 6).up 1 rfl (by decide)
  · exact Zd.zero _ _
theorem gM_zd {f : Fr} {h : Hg} {m : Nat} {M : Mb} (D : Mdr f m M) {F : Nat → Rat} (hF : ∀ i, Zd 144 10000 (F i)) {o : Way} (ho : o.2 < 3) : Zd 41472 16000000 (gM f h m M F o) := by
  unfold gM atM
  rw [getR_atF _ _ _ _ ho]
  exact (atF_zd D (fun i => FM_zd D hF i) o).mono (by decide)
theorem mbS_zd {f : Fr} {E B : Nat} {g : Nat → Mb → Rat} (h : ∀ m M, f.mb[m]? = some M → Zd E B (g m M)) : ∀ k, Zd E (k * B) (mbS f g k)
  | 0 => Zd.zero _ _
  | k + 1 => by
    have : Zd E B (match f.mb[k]? with
      | none => 0
      | some M => g k M) := by
      cases e : f.mb[k]? with
      | none => exact Zd.zero _ _
      | some M => exact h k M e
    exact ((mbS_zd h k).add this).mono (by rw [Nat.succ_mul]; exact Nat.le_refl _)
theorem smL_zd {E B : Nat} {g : Way → Rat} (h : ∀ w, Zd E B (g w)) : ∀ L : List Way, Zd E (L.length * B) (smL L g)
  | [] => Zd.zero _ _
  | w :: L => ((h w).add (smL_zd h L)).mono (by rw [List.length_cons, Nat.succ_mul]; omega)
theorem Drawn.m4 {f : Fr} (D : Drawn f) : f.mb.length ≤ 4 := by
  obtain ⟨E, S, hl, _⟩ := D.ex
  have := S.el
  have := S.n5
  omega
theorem sysK_zd {f : Fr} (D : Drawn f) {h : Hg} {o : Way} (ho : o.2 < 3) (w : Way) : Zd 41472 480000000 (sysK f h f.mb.length o w) :=
  (mbS_zd (fun m M hM => kM_zd (D.mdr hM) ho w) f.mb.length).mono (by have := D.m4; omega)
theorem sysG_zd {f : Fr} (D : Drawn f) {h : Hg} {F : Nat → Nat → Rat} (hF : ∀ m i, Zd 144 10000 (F m i)) {o : Way} (ho : o.2 < 3) : Zd 41472 64000000 (sysG f h F f.mb.length o) :=
  ((mbS_zd (fun m M hM => gM_zd (D.mdr hM) (hF m) ho) f.mb.length).mono (by have := D.m4; omega)).neg
theorem tabM_zd {f : Fr} (D : Drawn f) {h : Hg} (i j : Nat) : Zd 497664 10000000000 (tabM f h i j) := (sysK_zd D (frW_3 i) _).up 12 rfl (by decide)
theorem rgtV_zd {f : Fr} (D : Drawn f) (hl : (heldW f).length ≤ 24) {h : Hg} {J : Nat → Nat → Int} (hJ : ∀ i l, -9 ≤ J i l ∧ J i l ≤ 9) {F : Nat → Nat → Rat} (hF : ∀ m i, Zd 144 10000 (F m i)) {gv : Way → Rat} (hg : ∀ w, Zd 12 60 (gv w)) (i : Nat) : Zd 497664 1000000000000 (rgtV f h J F gv i) := by
  unfold rgtV rgtW
  rw [minS_eq]
  have h1 := (sysG_zd D (h := h) hF (frW_3 (f := f) i)).up 12 (E := 497664) rfl (Nat.le_refl _)
  have h2 : Zd 497664 (9 * 497664) ((J (frW f i).1 (frW f i).2 : Int) : Rat) := (Zd.int (B := 9) (by have := hJ (frW f i).1 (frW f i).2; omega)).up 497664 rfl (Nat.le_refl _)
  have h3 := smL_zd (fun w => ((sysK_zd D (h := h) (frW_3 (f := f) i) w).mul (hg w)).up 1 (E := 497664) rfl (Nat.le_refl _)) (heldW f)
  refine ((h1.add h2).sub h3).mono ?_
  have := Nat.mul_le_mul_right (480000000 * 60 * 1) hl
  omega
theorem cm_of {M : Mat} {D B b : Nat} (h : ∀ i j, Zd D B (M i j)) (hD : D ≠ 0) (l : D < 2 ^ b) (l' : B < 2 ^ b) : Cm b M := ⟨(D : Int), by omega, by omega, fun i j => (h i j).cm l'⟩
theorem aug_zd {M : Mat} {r : Nat → Rat} {n D B : Nat} (h : ∀ i j, Zd D B (M i j)) (hr : ∀ i, Zd D B (r i)) (i j : Nat) : Zd D B (aug M r n i j) := by
  unfold aug
  split
  · exact h i j
  · exact hr i
theorem del_zd (a b : Nat) : Zd 1 1 (del a b) := by
  unfold del
  split
  · exact ⟨1, by simp, by decide⟩
  · exact Zd.zero _ _
theorem balM_zd {f : Fr} (D : Drawn f) {h : Hg} (i j : Nat) : Zd 12 100 (balM f h i j) := by
  unfold balM
  generalize (parts h f.mb.length).getD j (0, 0) = z
  unfold colL
  cases hM : f.mb[z.1]? with
  | none => exact Zd.zero _ _
  | some M =>
    have d := D.mdr hM
    show Zd 12 100 (getR (atE M (cM f M) (sM f M) (ef (lM f M) _ _ _)) _)
    rw [getR_atF _ _ _ _ (frW_3 i)]
    refine (atF_zd d (E := 12) (B := 50) (fun k => ?_) _).mono (by decide)
    have u : ∀ a b, Zd 12 50 (del a b) := fun a b => (del_zd a b).up 12 rfl (by decide)
    have q : Zd 12 50 ((del z.2 1 + del z.2 2) / (lM f M : Rat)) := by
      rw [div_ip]
      exact (((del_zd _ _).add (del_zd _ _)).mul (ip_zd d.d.l1 d.d.l4)).up 1 rfl (by decide)
    unfold ef
    split
    · exact (u _ _).neg
    · exact q
    · exact u _ _
    · exact u _ _
    · exact q.neg
    · exact u _ _
end BW

namespace BW
theorem kind_3 {k : List Nat} (h : k ∈ ([[1], [0, 1], [1, 2], [0, 1, 2]] : List (List Nat))) : k.Nodup ∧ k.length ≤ 3 ∧ ∀ l ∈ k, l < 3 := by
  simp only [List.mem_cons, List.not_mem_nil, or_false] at h
  rcases h with rfl | rfl | rfl | rfl <;> decide
theorem hW_cons (s : Nat × List Nat) (SP : List (Nat × List Nat)) : hW (s :: SP) = (s.2.map fun l => (s.1, l)) ++ hW SP := rfl
theorem hW_nd : ∀ {SP : List (Nat × List Nat)}, SP.Pairwise (fun a b => a.1 < b.1) → (∀ s ∈ SP, s.2 ∈ ([[1], [0, 1], [1, 2], [0, 1, 2]] : List (List Nat))) → (hW SP).Nodup ∧ (hW SP).length ≤ 3 * SP.length
  | [], _, _ => ⟨List.nodup_nil, Nat.le_refl _⟩
  | s :: SP, hp, hk => by
    rw [List.pairwise_cons] at hp
    obtain ⟨h1, h2⟩ := hW_nd hp.2 fun t ht => hk t (List.mem_cons_of_mem _ ht)
    obtain ⟨k1, k2, k3⟩ := kind_3 (hk s (List.mem_cons_self ..))
    rw [hW_cons]
    refine ⟨?_, ?_⟩
    · rw [List.nodup_append]
      refine ⟨?_, h1, fun a ha b hb e => ?_⟩
      · rw [List.nodup_iff_pairwise_ne, List.pairwise_map]
        rw [List.nodup_iff_pairwise_ne] at k1
        exact k1.imp fun {a b} hab e => hab (congrArg Prod.snd e)
      · obtain ⟨l, _, rfl⟩ := List.mem_map.mp ha
        obtain ⟨t, ht, e1, _⟩ := mem_hW.mp hb
        have := hp.1 t ht
        have e2 : s.1 = b.1 := by rw [← e]
        omega
    · rw [List.length_append, List.length_map, List.length_cons]
      omega
theorem Drawn.h15 {f : Fr} (D : Drawn f) : (heldW f).Nodup ∧ (heldW f).length ≤ 15 := by
  obtain ⟨E, S, _, _⟩ := D.ex
  obtain ⟨a, b⟩ := hW_nd S.sa S.sk
  have := S.s5
  exact ⟨a, by show (hW f.sp).length ≤ 15; omega⟩
theorem Drawn.hv {f : Fr} (D : Drawn f) : ∀ w ∈ heldW f, w ∈ waysW f.nd.length := by
  obtain ⟨E, S, _, _⟩ := D.ex
  intro w hw
  obtain ⟨s, hs, e1, e2⟩ := mem_hW.mp hw
  have h1 := S.sn s hs
  have h2 := (kind_3 (S.sk s hs)).2.2 _ e2
  exact waysW_mem.mpr ⟨by omega, h2⟩
theorem Drawn.held {f : Fr} (D : Drawn f) : HeldW f := by
  obtain ⟨h1, h2⟩ := D.h15
  have hv := D.hv
  obtain ⟨E, S, _, _⟩ := D.ex
  have := S.s5
  exact ⟨⟨nd_wK (fun w hw => (waysW_mem.mp (hv w hw)).2) h1, by omega, by omega⟩, by omega, hv, fun e => by
    have := S.hx
    unfold heldW at e
    rw [e] at this
    cases this⟩
theorem Drawn.frw {f : Fr} (D : Drawn f) : FrW f := by
  have hm := D.m4
  have n5 : f.nd.length ≤ 5 := by
    obtain ⟨E, S, _, _⟩ := D.ex
    exact S.n5
  have ix : ∀ M ∈ f.mb, ∃ m, Mdr f m M := fun M hM => by
    obtain ⟨m, h⟩ := List.getElem?_of_mem hM
    exact ⟨m, D.mdr h⟩
  refine ⟨by omega, by omega, fun M hM => ?_, fun M hM => ?_⟩
  · obtain ⟨m, d⟩ := ix M hM
    have h1 := d.lt
    have h2 := d.ij
    have l1 := d.d.l1
    have l4 := d.d.l4
    have h5 := d.d.cs
    have k1 := d.k
    have s1 := d.s
    unfold lM at l1 l4
    unfold cM sM at h5
    refine ⟨by omega, by omega, by omega, by omega, ?_, ?_, ?_, ?_, ?_⟩
    · unfold sml
      omega
    · unfold sgnOk
      omega
    · unfold sgnOk
      omega
    · unfold sml
      omega
    · unfold sml
      omega
  · obtain ⟨m, d⟩ := ix M hM
    have := d.k
    omega
theorem Drawn.frc {f : Fr} (D : Drawn f) : FrC f := by
  have hm := D.m4
  have hmd : ∀ (m : Nat) (M : Mb), f.mb[m]? = some M → Mdr f m M := fun m M hM => D.mdr hM
  obtain ⟨E, S, hl, _⟩ := D.ex
  have ix : ∀ M ∈ f.mb, ∃ m, Mdr f m M := fun M hM => by
    obtain ⟨m, h⟩ := List.getElem?_of_mem hM
    exact ⟨m, hmd m M h⟩
  have e1 := S.n2
  have e2 := S.n5
  have e3 := S.el
  have e4 := S.s5
  refine ⟨by omega, by omega, S.nr, S.nn, by omega, by omega, fun M hM => ?_, fun M hM => ?_, fun M hM => ?_, fun a b Ma Mb hab ha hb => ?_, by omega, fun a b x y hab ha hb => ?_, S.sn, fun s hs => ?_⟩
  · obtain ⟨m, d⟩ := ix M hM
    have := d.lt
    have := d.ij
    exact ⟨by omega, by omega, d.ne⟩
  · obtain ⟨m, d⟩ := ix M hM
    have := d.k
    have := d.s
    omega
  · obtain ⟨m, d⟩ := ix M hM
    have x := d.d.x
    have y := d.d.y
    rcases d.d.cs with ⟨h, _⟩ | ⟨h, _⟩
    · rw [h] at x
      left
      omega
    · rw [h] at y
      right
      omega
  · have h1 := (hmd a Ma ha).ij
    have h2 := (hmd b Mb hb).ij
    omega
  · have h1 := (List.getElem?_eq_some_iff.mp ha)
    have h2 := (List.getElem?_eq_some_iff.mp hb)
    obtain ⟨l1, rfl⟩ := h1
    obtain ⟨l2, rfl⟩ := h2
    exact List.pairwise_iff_getElem.mp S.sa a b l1 l2 hab
  · have := S.sk s hs
    simp only [List.mem_cons, List.not_mem_nil, or_false] at this ⊢
    rcases this with e | e | e | e <;> simp [e]
theorem Drawn.n12 {f : Fr} (D : Drawn f) : 0 < (free f).length ∧ (free f).length ≤ 12 := by
  have H := D.held
  obtain ⟨E, S, hl, _⟩ := D.ex
  have e1 := S.n2
  have e2 := S.n5
  have hle : (free f).length ≤ 3 * f.nd.length := by
    rw [← waysW_len]
    exact List.length_filter_le _ _
  refine ⟨?_, ?_⟩
  · exact List.length_pos_of_mem ((free_mem H).mpr ⟨waysW_mem.mpr ⟨(by omega : 1 < f.nd.length), (by decide : (0 : Nat) < 3)⟩, S.f10⟩)
  · by_cases h5 : f.nd.length = 5
    · have e : waysW f.nd.length = (0, 0) :: (0, 1) :: (0, 2) :: [(1, 0), (1, 1), (1, 2), (2, 0), (2, 1), (2, 2), (3, 0), (3, 1), (3, 2), (4, 0), (4, 1), (4, 2)] := by
        rw [h5]
        rfl
      have i0 : isH f (0, 0) = true := (isH_iff H (by decide)).mpr S.hx
      have i1 : isH f (0, 1) = true := (isH_iff H (by decide)).mpr S.hy
      have i2 : isH f (0, 2) = true := (isH_iff H (by decide)).mpr (S.h5 h5)
      unfold free
      rw [e, List.filter_cons_of_neg (by rw [i0]; decide), List.filter_cons_of_neg (by rw [i1]; decide), List.filter_cons_of_neg (by rw [i2]; decide)]
      exact List.length_filter_le _ _
    · omega
theorem Drawn.frok {f : Fr} (D : Drawn f) : FrOk f ∧ HgC f ∧ (heldW f).length ≤ 24 := by
  have h15 := D.h15.2
  have n := D.n12
  have m4 := D.m4
  refine ⟨⟨D.frc, D.frw, D.held, by omega, fun h => ⟨47, cm_of (fun i j => balM_zd D i j) (by decide) (by decide) (by decide), ?_⟩⟩, ⟨by omega, by omega, fun w hw => (waysW_mem.mp (D.hv w hw)).2⟩, by omega⟩
  have := Nat.pow_le_pow_right (n := 2) (by decide) n.2
  omega
/-! ### the loads' sizes -/
theorem Zd.divI {n B : Nat} {a : Int} (hn : n ≠ 0) (h : a.natAbs ≤ B) : Zd n B (Rat.divInt a n) := by
  have hn' : (n : Rat) ≠ 0 := fun z => hn (by simpa using z)
  refine ⟨a, ?_, h⟩
  rw [Rat.divInt_eq_div]
  show (a : Rat) / (((n : Nat) : Int) : Rat) * (n : Rat) = a
  rw [Rat.intCast_natCast, Rat.div_mul_cancel hn']
theorem pushV_zd {p L : Int} (p1 : -6 ≤ p ∧ p ≤ 6) (h1 : 1 ≤ L) (h4 : L ≤ 4) (i : Nat) : Zd 144 2000 (pushV p L i) := by
  have l1 : (-p * L).natAbs ≤ 24 := by
    rw [Int.natAbs_mul]
    show _ ≤ 6 * 4
    exact Nat.mul_le_mul (by omega) (by omega)
  have l2 : (-p * L * L).natAbs ≤ 96 := by
    rw [Int.natAbs_mul]
    show _ ≤ 24 * 4
    exact Nat.mul_le_mul l1 (by omega)
  have q1 : Zd 144 2000 (Rat.divInt (-p * L) 2) := (Zd.divI (n := 2) (by decide) l1).up 72 rfl (by decide)
  have q2 : Zd 144 2000 (Rat.divInt (-p * L * L) 12) := (Zd.divI (n := 12) (by decide) l2).up 12 rfl (by decide)
  unfold pushV
  refine getD_all (P := Zd 144 2000) (fun x hx => ?_) (Zd.zero _ _) i
  simp only [List.mem_cons, List.not_mem_nil, or_false] at hx
  rcases hx with rfl | rfl | rfl | rfl | rfl | rfl
  · exact Zd.zero _ _
  · exact q1
  · exact q2
  · exact Zd.zero _ _
  · exact q1
  · exact q2.neg
theorem QOk.zd {q : Rat} (h : QOk q) : Zd 12 60 q := by
  obtain ⟨h1, h2⟩ := h
  have h0 := q.den_pos
  have e : q * (q.den : Rat) = (q.num : Rat) := by
    have h0' : (q.den : Rat) ≠ 0 := fun z => by
      have : q.den = 0 := by simpa using z
      omega
    have h3 := Rat.num_divInt_den q
    rw [Rat.divInt_eq_div] at h3
    rw [Rat.intCast_natCast] at h3
    have h4 : (q.num : Rat) / (q.den : Rat) * (q.den : Rat) = q.num := Rat.div_mul_cancel h0'
    rw [h3] at h4
    exact h4
  have key : ∀ k : Nat, q.den * k = 12 → k ≤ 12 → Zd 12 60 q := fun k hk hk2 => by
    have : Zd q.den 5 q := ⟨q.num, e, h1⟩
    exact this.up k hk (by omega)
  have : q.den = 1 ∨ q.den = 2 ∨ q.den = 3 ∨ q.den = 4 := by omega
  rcases this with d | d | d | d
  · exact key 12 (by rw [d]) (by decide)
  · exact key 6 (by rw [d]) (by decide)
  · exact key 4 (by rw [d]) (by decide)
  · exact key 3 (by rw [d]) (by decide)
theorem QOk.bd {q : Rat} (h : QOk q) : Bd 30 q := ⟨Nat.lt_of_le_of_lt h.1 (by decide), Nat.lt_of_le_of_lt h.2 (by decide)⟩
theorem strainV_zd {k s L : Int} {a b : Rat} (h1 : 1 ≤ L) (h4 : L ≤ 4) (k1 : 1 ≤ k) (k4 : k ≤ 4) (s1 : 1 ≤ s) (s6 : s ≤ 6) (ha : QOk a) (hb : QOk b) (i : Nat) : Zd 144 5000 (strainV k s L a b i) := by
  have hk : Zd 1 4 (k : Rat) := Zd.int (by omega)
  have hs : Zd 1 6 (s : Rat) := Zd.int (by omega)
  have q1 : Zd 144 5000 ((s : Rat) * a / (L : Rat)) := by
    rw [div_ip]
    exact ((hs.mul ha.zd).mul (ip_zd h1 h4)).up 1 rfl (by decide)
  have q2 : Zd 144 5000 ((k : Rat) * b) := (hk.mul hb.zd).up 12 rfl (by decide)
  unfold strainV
  refine getD_all (P := Zd 144 5000) (fun x hx => ?_) (Zd.zero _ _) i
  simp only [List.mem_cons, List.not_mem_nil, or_false] at hx
  rcases hx with rfl | rfl | rfl | rfl | rfl | rfl
  · exact q1
  · exact Zd.zero _ _
  · exact q2
  · exact q1.neg
  · exact Zd.zero _ _
  · exact q2.neg
theorem fixP_zd {f : Fr} (D : Drawn f) {pu : Nat → Int} (hp : ∀ i, -6 ≤ pu i ∧ pu i ≤ 6) (m i : Nat) : Zd 144 2000 (fixP f pu m i) := by
  unfold fixP
  cases hM : f.mb[m]? with
  | none => exact Zd.zero _ _
  | some M => exact pushV_zd (hp m) (D.mdr hM).d.l1 (D.mdr hM).d.l4 i
theorem fixS_zd {f : Fr} (D : Drawn f) {st : Nat → Nat → Rat} (hs : ∀ i l, QOk (st i l)) (m i : Nat) : Zd 144 5000 (fixS f st m i) := by
  unfold fixS
  cases hM : f.mb[m]? with
  | none => exact Zd.zero _ _
  | some M =>
    have d := D.mdr hM
    exact strainV_zd d.d.l1 d.d.l4 d.k.1 d.k.2 d.s.1 d.s.2 (hs m 0) (hs m 1) i
theorem gvF_zd : ∀ (gv : List (Way × Rat)) (g : Way → Rat), (∀ w, Zd 12 60 (g w)) → (∀ p ∈ gv, QOk p.2) → ∀ w, Zd 12 60 (gv.foldl (fun g p => fun w => if w = p.1 then p.2 else g w) g w)
  | [], g, hg, _, w => hg w
  | p :: gv, g, hg, h, w => by
    refine gvF_zd gv _ (fun w => ?_) (fun q hq => h q (List.mem_cons_of_mem _ hq)) w
    show Zd 12 60 (if w = p.1 then p.2 else g w)
    split
    · exact (h p (List.mem_cons_self ..)).zd
    · exact hg w
theorem resp_drawn {f : Fr} (D : Drawn f) {h : Hg} (I : Inj (free f).length (free f).length (tabM f h)) {J : Nat → Nat → Int} {F : Nat → Nat → Rat} {gv : List (Way × Rat)} (hJ : ∀ i l, -9 ≤ J i l ∧ J i l ≤ 9) (hF : ∀ m i, Zd 144 10000 (F m i)) (hs : (gv.map (·.1)).Sublist (heldW f)) (hq : ∀ p ∈ gv, QOk p.2) : RespOk f h J F gv := by
  have h15 := D.h15.2
  have n := D.n12
  have hlen : gv.length ≤ 15 := by
    have := hs.length_le
    rw [List.length_map] at this
    omega
  refine ⟨D.frw, D.held, fun m i => ((hF m i).bd (b := 40) (by decide) (by decide) (by decide)).mono (by decide), fun i l => ?_, fun p hp => ⟨hs.subset (List.mem_map_of_mem hp), (hq p hp).bd⟩, by omega, n.1, by omega, I, 47, ?_, ?_, ?_⟩
  · have := hJ i l
    omega
  · exact cm_of (fun i j => tabM_zd D i j) (by decide) (by decide) (by decide)
  · exact cm_of (D := 497664) (B := 1000000000000) (aug_zd (fun i j => (tabM_zd D i j).mono (by decide)) (rgtV_zd D (by omega) hJ hF (gvF_zd gv _ (fun _ => Zd.zero _ _) hq))) (by decide) (by decide) (by decide)
  · have := Nat.pow_le_pow_right (n := 2) (by decide) n.2
    omega
theorem math_ok (f : Fr) (h : Hg) (J : Nat → Nat → Int) (pu : Nat → Int) (gv : List (Way × Rat)) (st : Nat → Nat → Rat) (D : Drawn f) (_ : HgOk f h) (hm : h = none ∨ motN f h = 0) (hJ : ∀ i l, -9 ≤ J i l ∧ J i l ≤ 9) (hp : ∀ i, -6 ≤ pu i ∧ pu i ≤ 6) (hs : (gv.map (·.1)).Sublist (heldW f)) (hq : ∀ p ∈ gv, QOk p.2) (hst : ∀ i l, QOk (st i l)) : MathOk f h J pu gv st := by
  have I : Inj (free f).length (free f).length (tabM f h) := by
    rcases hm with rfl | hm
    · exact inj_none D D.held
    · exact inj_hinge D hm
  have z9 : ∀ i l : Nat, -9 ≤ ((fun _ _ => 0 : Nat → Nat → Int) i l) ∧ ((fun _ _ => 0 : Nat → Nat → Int) i l) ≤ 9 := fun _ _ => ⟨(by decide : (-9 : Int) ≤ 0), (by decide : (0 : Int) ≤ 9)⟩
  have n1 : (([] : List (Way × Rat)).map (·.1)).Sublist (heldW f) := List.nil_sublist _
  have n2 : ∀ p ∈ ([] : List (Way × Rat)), QOk p.2 := fun p hp => by cases hp
  refine ⟨resp_drawn D I hJ (fun m i => (fixP_zd D hp m i).mono (by decide)) n1 n2, resp_drawn D I z9 (fun _ _ => Zd.zero _ _) hs hq, resp_drawn D I z9 (fun m i => (fixS_zd D hst m i).mono (by decide)) n1 n2, resp_drawn D I hJ (fun m i => ((fixP_zd D hp m i).add (fixS_zd D hst m i)).mono (by decide)) hs hq, fun u uP uG uS a b c d m hm i => ?_, fun J fix gv u u' a b m i => law_uq D D.held I J fix gv u u' a b m i⟩
  exact law_lin D D.held I a b c d m hm i
end BW

namespace BW
open PySem PySem.Spec PyProof.Rows L2
theorem law_ok {P : Program} {w : World} {K : PySem.W.Frag} {mg : Str → Option Value} {base : Heap} (T : Txt K mg) (z : Seer K mg) (ht : P.given.tree = none) {fa : Addr} {fd : FuncData} (F : FunD K "law" "law" (defArgs (top 105)) (defBody (top 105)) (defScope (top 105)) [] [] fa fd) : FnOk P w K mg base CX0 50 fa fd p_law (PureSp K tf_law) := by
  have c_law_alike := can_alike1 2 3 T (can_alike1 1 2 T (can_alike1 0 1 T (can_alike0 (P := P) (w := w) (base := base) T) (by decide)) (by decide)) (by decide)
  have c_shared := can_shared (P := P) (w := w) (base := base) T
  have c_ratio := can_ratio (P := P) (w := w) (base := base) T z ht c_shared
  have c_plus := can_plus (P := P) (w := w) (base := base) T c_ratio
  have c_minus := can_minus (P := P) (w := w) (base := base) T c_plus
  have c_negative := can_negative (P := P) (w := w) (base := base) T
  have c_whole := can_whole (P := P) (w := w) (base := base) T
  have c_times := can_times (P := P) (w := w) (base := base) T c_ratio
  have c_over := can_over (P := P) (w := w) (base := base) T c_ratio
  have c_total := can_total (P := P) (w := w) (base := base) T c_plus
  have c_length_of := can_length (P := P) (w := w) (base := base) T
  have c_is_integer := can_is_integer (P := P) (w := w) (base := base) T
  have c_is_in := can_is_in (P := P) (w := w) (base := base) T c_is_integer
  have c_is_list := can_is_list (P := P) (w := w) (base := base) T
  have c_along := can_along (P := P) (w := w) (base := base) T z ht c_length_of
  have c_scaled := can_scaled (P := P) (w := w) (base := base) T
  have c_held := can_held (P := P) (w := w) (base := base) T
  have c_free_in := can_free (P := P) (w := w) (base := base) T c_held
  have c_at_nodes := can_at (P := P) (w := w) (base := base) T c_along c_scaled c_plus
  have c_ends_by_forces := can_ebf (P := P) (w := w) (base := base) T c_length_of c_plus c_whole c_over c_negative
  have c_turned := can_turned (P := P) (w := w) (base := base) T c_along c_scaled c_plus
  have c_inner := can_inner (P := P) (w := w) (base := base) T c_times c_total
  have c_plain_rows := can_plain (P := P) (w := w) (base := base) T c_length_of c_ratio c_negative
  have c_pushed := can_pushed (P := P) (w := w) (base := base) T c_length_of c_ratio c_negative
  have c_strained := can_strained (P := P) (w := w) (base := base) T c_length_of c_whole c_times c_over c_negative
  have c_lowered := can_lowered (P := P) (w := w) (base := base) T c_times c_minus
  have c_released := can_released (P := P) (w := w) (base := base) T c_times c_over c_minus
  have c_member_rows := can_member (P := P) (w := w) (base := base) T c_plain_rows c_released
  have c_unit_columns := can_unit (P := P) (w := w) (base := base) T c_turned
  have c_parts_in := can_parts (P := P) (w := w) (base := base) T
  have c_balance_rows := can_bal (P := P) (w := w) (base := base) T c_parts_in c_free_in c_at_nodes c_ends_by_forces
  have c_reduced := can_reduced (P := P) (w := w) (base := base) T c_over c_lowered
  have c_rank := can_rank (P := P) (w := w) (base := base) T c_reduced
  have c_kernel := can_kernel (P := P) (w := w) (base := base) T c_reduced
  have c_solved := can_solved (P := P) (w := w) (base := base) T c_reduced
  have c_system := can_system (P := P) (w := w) (base := base) T c_member_rows c_at_nodes c_unit_columns c_inner c_plus c_minus
  have c_response := can_response (P := P) (w := w) (base := base) T c_system c_free_in c_held c_times c_plus c_whole c_minus c_kernel c_solved c_member_rows c_turned c_inner
  have c_need_nodes := can_need_nodes (P := P) (w := w) (base := base) T c_is_list c_is_in
  have c_is_member := can_is_member (P := P) (w := w) (base := base) T c_is_list c_is_in
  have c_need_members := can_need_members (P := P) (w := w) (base := base) T c_is_list c_is_member
  have c_need_supports := can_need_supports (P := P) (w := w) (base := base) T c_is_list c_is_in
  have c_need_frame := can_need_frame (P := P) (w := w) (base := base) T c_is_list c_need_nodes c_need_members c_need_supports
  have c_need_hinges := can_need_hinges (P := P) (w := w) (base := base) T c_is_list c_is_in
  have c_need := can_need (P := P) (w := w) (base := base) T c_need_frame c_need_hinges
  have c_need_load := can_need_load (P := P) (w := w) (base := base) T c_is_list c_is_in
  have c_need_all := can_need_all (P := P) (w := w) (base := base) T c_need c_need_load
  have c_is_ratio := can_is_ratio (P := P) (w := w) (base := base) T c_is_list c_is_integer c_is_in c_ratio
  have c_is_way := can_is_way (P := P) (w := w) (base := base) T
  have c_need_moves := can_need_moves (P := P) (w := w) (base := base) T c_is_list c_is_way c_is_ratio
  have c_need_strains := can_need_strains (P := P) (w := w) (base := base) T c_is_list c_is_ratio
  have c_need_given := can_need_given (P := P) (w := w) (base := base) T c_need c_need_moves
  have c_need_strained := can_need_strained (P := P) (w := w) (base := base) T c_need c_need_strains
  have c_no_loads := can_no_loads (P := P) (w := w) (base := base) T
  have c_as_moves := can_as_moves (P := P) (w := w) (base := base) T
  have c_fixed_by := can_fixed_by (P := P) (w := w) (base := base) T c_pushed
  have c_by_load := can_by_load (P := P) (w := w) (base := base) T c_response c_fixed_by
  have c_end_forces := can_end_forces (P := P) (w := w) (base := base) T c_need_all c_by_load
  have c_by_moves := can_by_moves (P := P) (w := w) (base := base) T c_response c_no_loads c_as_moves
  have c_sunk_forces := can_sunk (P := P) (w := w) (base := base) T c_need_given c_by_moves
  have c_by_strains := can_by_strains (P := P) (w := w) (base := base) T c_response c_no_loads c_strained
  have c_warped_forces := can_warped (P := P) (w := w) (base := base) T c_need_strained c_by_strains
  have c_motions := can_motions (P := P) (w := w) (base := base) T c_need c_free_in c_rank c_balance_rows
  have c_all_forces := can_all (P := P) (w := w) (base := base) T c_need c_need_load c_need_moves c_need_strains c_pushed c_strained c_plus c_response c_as_moves
  have c_law_taken := can_taken (P := P) (w := w) (base := base) T z ht
  have c_law_pick := can_pick (P := P) (w := w) (base := base) T c_law_taken
  have c_law_signed := can_signed (P := P) (w := w) (base := base) T c_law_taken
  have c_law_gcd := can_lgcd (P := P) (w := w) (base := base) T
  have c_law_lowest := can_lowest (P := P) (w := w) (base := base) T z ht c_law_gcd
  have c_law_plus := can_lplus (P := P) (w := w) (base := base) T c_law_lowest
  have c_law_total := can_ltotal (P := P) (w := w) (base := base) T c_law_plus
  have c_law_joints := can_joints (P := P) (w := w) (base := base) T c_law_pick c_law_signed
  have c_law_load := can_lload (P := P) (w := w) (base := base) T c_law_taken c_law_signed c_law_joints
  have c_law_ratios := can_lratios (P := P) (w := w) (base := base) T c_law_taken c_law_signed c_law_lowest
  have c_law_strains := can_lstrains (P := P) (w := w) (base := base) T c_law_taken c_law_ratios
  have c_law_given := can_lgiven (P := P) (w := w) (base := base) T c_law_taken c_law_signed c_law_lowest
  have c_law_held := can_lheld (P := P) (w := w) (base := base) T
  have c_law_hinges := can_lhinges (P := P) (w := w) (base := base) T c_law_taken c_law_pick c_law_held
  have c_law_stiff_hinges := can_stiff (P := P) (w := w) (base := base) T c_law_hinges c_motions
  have c_law_frame := can_lframe (P := P) (w := w) (base := base) T c_law_taken c_law_pick
  exact can_law T F c_law_frame c_law_load c_law_given c_law_strains c_law_stiff_hinges c_all_forces c_end_forces c_sunk_forces c_warped_forces c_law_total c_law_alike (fun f D => D.frok) math_ok
end BW

set_option maxHeartbeats 0
namespace BW
open PySem PySem.Spec PyProof.Rows L2
theorem rpInts {K : PySem.W.Frag} {F : Hp} : ∀ ns : List Int, RpA K F (ns.map V.int) (ns.map PyData.int)
  | [] => .nil
  | n :: ns => .cons (.int n) (rpInts ns)
theorem law_sp {K : PySem.W.Frag} {H : Hp} {a : Addr} {ns : List Int} (hl : ns.length ≤ 63) (hS : SqL K H a (ns.map V.int)) : PureSp K tf_law [.ref a] H (fun v _ => v = .bl true) fun _ _ _ => False :=
  ⟨fun _ => none, H, [.list (ns.map .int)], fun d => d = .bool true, fun _ _ h => (nomatch h), fun _ _ h => h, fun _ => .inl rfl, .cons (.lst hS (rpInts ns)) .nil, ⟨ns, rfl, by omega, rfl⟩, fun v F' H' d _ _ _ _ r e => by
    subst e
    exact Rp.blE r⟩
theorem facts {P : Program} {w : World} {K : PySem.W.Frag} {h : Heap} {mg : Str → Option Value} {fa : Addr} (ht : P.given.tree = none) (X : K.In h) (G : h.Ns mainGlobals mg) (hfa : mg ("law" : Str) = some (.ref fa)) (c : okX K = true) (d : He.SaysD [] fn K) :
    ∃ fd : FuncData, (∀ (s : Shared) (u : Value), BindsTo s fd ⟨[u], []⟩ [("_law_script", u)]) ∧ ∀ base : Heap, K.In base → base.Ns mainGlobals mg → FnOk P w K mg base CX0 50 fa fd ["_law_script"] (PureSp K tf_law) := by
  obtain ⟨T, z⟩ := head_txt X G c d
  have e := hfa.symm.trans (T.gl 79 _ rfl)
  have e2 : fa = He.ga K "law" := by
    injection e with e
    injection e
  obtain ⟨fd, F⟩ := T.df 79 _ rfl
  rw [e2]
  have b := FunD.bindsA (ps := ["_law_script"]) F fun _ _ _ _ _ _ us hl => match us, hl with | [_], _ => rfl
  exact ⟨fd, fun s u => b s [u] rfl, fun base _ _ => law_ok T z ht F⟩
end BW
open PySem PySem.W PySem.Calls PyProof.Rows
theorem PySem.Challenge.cw_bendworks_k20_whole_causes_together_holds : PySem.Challenge.rw_bendworks_k20_whole_causes_together.Holds := by
  w_on; o_law
  refine HandSHeadRun.head_any (r := BW.R) (q := view BW.R.prog [105]) (H := BW.hk) (ob := BW.ob) (M := 6000) (loose := BW.loose) (d := HandSHeadRun.topDef BW.R.prog 105) (kwd := []) BW.ob_eq
    (by kernel_rfl) (fun s => by kernel_rfl) BW.run (by kernel_rfl) (by kernel_rfl) (by kernel_rfl) (by rfl) (by first | assumption | decide +kernel) (by decide +kernel) ⟨rfl, rfl, rfl, rfl, rfl, by decide +kernel⟩ ?hw ?hc
  case hw => w_witness2
  case hc =>
    refine L2.walk_ofE (l := PySem.Challenge.rw_bendworks_k20_whole_causes_together) (n := 63) (k := 50) (x := "_law_script") (CX := L2.CX0) rfl (by decide) (by kernel_rfl) ⟨rfl, by decide, by decide⟩ ?F (fun _ _ _ _ z => z)
    intro w mg fa h Y G hmg0
    obtain ⟨K, KX, c, d⟩ := Y
    have hmg : mg ("law" : PySem.Str) = some (.ref fa) := by
      have e : (HandSHeadRun.topDef BW.R.prog 105).name = ("law" : PySem.Str) := by kernel_rfl
      rw [← e]
      exact hmg0
    obtain ⟨fd, hb, hF⟩ := BW.facts (P := (PySem.Challenge.rw_bendworks_k20_whole_causes_together).prog) (w := w) (by kernel_rfl) KX G hmg c d
    exact ⟨K, fd, _, KX, hb, fun H a ns hl _ hS => BW.law_sp hl hS, hF⟩
