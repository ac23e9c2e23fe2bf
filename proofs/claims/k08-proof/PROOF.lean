import PyProof.Rows.All
import Wide.All
import OpenK.AllK
import Wide.FinOn
import HandS.ForMost
import HandS.Lambda
import HandS.TryMany
import HandS.WordsExc
import HandS.IsInst
import HandS.TupMul
import HandS.TupAny
import HandS.Style
import HandS.SetKeys
import HandS.DictComp
import HandS.DictTup
import HandS.TupLen
import HandS.Deep
import HandS.Wide
import HandS.Zip
import HandS.RaiseMore
import HandS.Small
import HandS.Conv
import HandS.SortInts
import HandS.NoneIn
import HandS.Head2
import HandS.HeadHook4
import HandS.HeadWalk
import HandS.HeadEnd
import HandS.Defaults
import HandS.HeadHook1
import HandS.HeadHook2
import KE.KTupSum
import PyProof.ReprRoads
import KE.GoesMore
import PyProof.Rows.RegFStrParts
import HandS.Strs
import HandS.Set
import PyProof.Rows.SetFrom
import PyProof.Rows.SortShellAny
import PyProof.Rows.StrMeet
import HandS.More
import KE.KStateDown
import HandS.Head0
import HandS.Head1
import PySem.Challenge.RW_lawasknown_k08_whole_acts_of_twenty_prov
set_option Elab.async false
section
set_option linter.all false
set_option maxRecDepth 100000
set_option maxHeartbeats 4000000
/-! PuA: plain values, the store, what stands for what. -/
namespace Pu
open PySem PySem.Spec PyProof.Rows L2

/-- a plain value: a datum, a place of the store, the script -/
inductive W where
  | d (x : PyData)
  | p (n : Nat)
  | scr
/-- an object of the store -/
inductive Ob where
  | lst (ws : List W)
  | dK (kws : List (Key × W))
  | dT (kws : List (List Key × W))
abbrev Store := List Ob
abbrev Env := List (Option W)
/-- what a piece of the program comes to -/
inductive R (α : Type) where
  | ok (a : α) (M : Store)
  | ex (c : Str) (M : Store)
  | bad
def R.bind {α β : Type} (r : R α) (k : α → Store → R β) : R β := match r with
  | .ok a M => k a M
  | .ex c M => .ex c M
  | .bad => .bad
@[simp] theorem R.bind_ok {α β : Type} (a : α) (M : Store) (k : α → Store → R β) : (R.ok a M).bind k = k a M := rfl
@[simp] theorem R.bind_ex {α β : Type} (c : Str) (M : Store) (k : α → Store → R β) : (R.ex c M : R α).bind k = .ex c M := rfl
@[simp] theorem R.bind_bad {α β : Type} (k : α → Store → R β) : (R.bad : R α).bind k = .bad := rfl
theorem R.bind_assoc {α β γ : Type} (r : R α) (k : α → Store → R β) (l : β → Store → R γ) : (r.bind k).bind l = r.bind fun a M => (k a M).bind l := by
  cases r <;> rfl

/-- the fixed part: the written part, the tables of code objects, the script -/
structure Wd where
  K : PySem.W.Frag
  T : List (Addr × Str)
  sa : Addr
  ns : List Int

/-! ### what stands for a datum -/
mutual
inductive RepD (K : PySem.W.Frag) (F : Hp) : V → PyData → Prop
  | non : RepD K F .non .none
  | bl (b : Bool) : RepD K F (.bl b) (.bool b)
  | int (i : Int) : RepD K F (.int i) (.int i)
  | str (x : Str) : RepD K F (.str x) (.str x)
  | lst {a : Addr} {vs : List V} {ds : List PyData} : F a = some (.lst vs) → RepDs K F vs ds → RepD K F (.ref a) (.list ds)
  | tup {a : Addr} {vs : List V} {ds : List PyData} : F a = some (.tup vs) → RepDs K F vs ds → RepD K F (.ref a) (.tuple ds)
inductive RepDs (K : PySem.W.Frag) (F : Hp) : List V → List PyData → Prop
  | nil : RepDs K F [] []
  | cons {v : V} {vs : List V} {d : PyData} {ds : List PyData} : RepD K F v d → RepDs K F vs ds → RepDs K F (v :: vs) (d :: ds)
end
theorem seqT_mono {K : PySem.W.Frag} {F F' : Hp} {a : Addr} {vs : List V} (h : ∀ b o, F b = some o → F' b = some o) (s : SqT K F a vs) : SqT K F' a vs := by
  rcases s with (s | ⟨o, s⟩) | s
  · exact .inl (.inl (h _ _ s))
  · exact .inl (.inr ⟨o, h _ _ s⟩)
  · exact .inr s
mutual
theorem RepD.mono {K : PySem.W.Frag} {F F' : Hp} (h : ∀ b o, F b = some o → F' b = some o) : ∀ (d : PyData) (v : V), RepD K F v d → RepD K F' v d
  | .none, _, r => by cases r; exact .non
  | .bool _, _, r => by cases r; exact .bl _
  | .int _, _, r => by cases r; exact .int _
  | .str _, _, r => by cases r; exact .str _
  | .list ds, _, r => by
    cases r with
    | lst h1 h2 => exact .lst (h _ _ h1) (RepDs.mono h ds _ h2)
  | .tuple ds, _, r => by
    cases r with
    | tup h1 h2 => exact .tup (h _ _ h1) (RepDs.mono h ds _ h2)
  | .dict _, _, r => by cases r
theorem RepDs.mono {K : PySem.W.Frag} {F F' : Hp} (h : ∀ b o, F b = some o → F' b = some o) : ∀ (ds : List PyData) (vs : List V), RepDs K F vs ds → RepDs K F' vs ds
  | [], _, r => by cases r; exact .nil
  | d :: ds, _, r => by
    cases r with
    | cons h1 h2 => exact .cons (RepD.mono h d _ h1) (RepDs.mono h ds _ h2)
end
mutual
theorem RepD.dp {K : PySem.W.Frag} {F H : Hp} (h : ∀ b o, F b = some o → H b = some o) : ∀ (d : PyData) (v : V), RepD K F v d → Dp K H v d
  | .none, _, r => by cases r; exact .non
  | .bool _, _, r => by cases r; exact .bl _
  | .int _, _, r => by cases r; exact .int _
  | .str _, _, r => by cases r; exact .str _
  | .list ds, _, r => by
    cases r with
    | lst h1 h2 => exact .lst (.inl (.inl (h _ _ h1))) (RepDs.dp h ds _ h2)
  | .tuple ds, _, r => by
    cases r with
    | tup h1 h2 => exact .tup (.inl (.inl (h _ _ h1))) (RepDs.dp h ds _ h2)
  | .dict _, _, r => by cases r
theorem RepDs.dp {K : PySem.W.Frag} {F H : Hp} (h : ∀ b o, F b = some o → H b = some o) : ∀ (ds : List PyData) (vs : List V), RepDs K F vs ds → DpAll K H vs ds
  | [], _, r => by cases r; exact .nil
  | d :: ds, _, r => by
    cases r with
    | cons h1 h2 => exact .cons (RepD.dp h d _ h1) (RepDs.dp h ds _ h2)
end
theorem RepDs.length {K : PySem.W.Frag} {F : Hp} : ∀ {vs : List V} {ds : List PyData}, RepDs K F vs ds → vs.length = ds.length
  | _, _, .nil => rfl
  | _, _, .cons _ t => by rw [List.length_cons, List.length_cons, RepDs.length t]
theorem RepDs.get {K : PySem.W.Frag} {F : Hp} : ∀ {vs : List V} {ds : List PyData} {i : Nat} {v : V}, RepDs K F vs ds → vs[i]? = some v → ∃ d, ds[i]? = some d ∧ RepD K F v d
  | _, _, _, _, .nil, e => by simp at e
  | _, _, 0, _, .cons r _, e => by simp at e; subst e; exact ⟨_, rfl, r⟩
  | _, _, i + 1, v, .cons _ t, e => by
    obtain ⟨d, h1, h2⟩ := RepDs.get (i := i) (v := v) t (by simpa using e)
    exact ⟨d, by simpa using h1, h2⟩
theorem RepDs.get' {K : PySem.W.Frag} {F : Hp} : ∀ {vs : List V} {ds : List PyData} {i : Nat} {d : PyData}, RepDs K F vs ds → ds[i]? = some d → ∃ v, vs[i]? = some v ∧ RepD K F v d
  | _, _, _, _, .nil, e => by simp at e
  | _, _, 0, _, .cons r _, e => by simp at e; subst e; exact ⟨_, rfl, r⟩
  | _, _, i + 1, d, .cons _ t, e => by
    obtain ⟨v, h1, h2⟩ := RepDs.get' (i := i) (d := d) t (by simpa using e)
    exact ⟨v, by simpa using h1, h2⟩
theorem RepDs.append {K : PySem.W.Frag} {F : Hp} : ∀ {vs us : List V} {ds es : List PyData}, RepDs K F vs ds → RepDs K F us es → RepDs K F (vs ++ us) (ds ++ es)
  | _, _, _, _, .nil, s => s
  | _, _, _, _, .cons r t, s => .cons r (RepDs.append t s)
theorem RepDs.take {K : PySem.W.Frag} {F : Hp} : ∀ {vs : List V} {ds : List PyData} (n : Nat), RepDs K F vs ds → RepDs K F (vs.take n) (ds.take n)
  | _, _, 0, _ => .nil
  | _, _, _ + 1, .nil => .nil
  | _, _, n + 1, .cons r t => .cons r (RepDs.take n t)
theorem RepDs.drop {K : PySem.W.Frag} {F : Hp} : ∀ {vs : List V} {ds : List PyData} (n : Nat), RepDs K F vs ds → RepDs K F (vs.drop n) (ds.drop n)
  | _, _, 0, r => r
  | _, _, _ + 1, .nil => .nil
  | _, _, n + 1, .cons _ t => RepDs.drop n t

section
variable (Y : Wd)
/-- what stands for a plain value -/
inductive RepW (F : Hp) (am : List Addr) : V → W → Prop
  | d {v : V} {x : PyData} (r : RepD Y.K F v x) : RepW F am v (.d x)
  | p {a : Addr} {n : Nat} (h : am[n]? = some a) : RepW F am (.ref a) (.p n)
  | scr : RepW F am (.ref Y.sa) .scr
abbrev RepWs (F : Hp) (am : List Addr) : List V → List W → Prop := Paired (RepW Y F am)
/-- a dict's entries -/
abbrev RepKs {κ : Type} (F : Hp) (am : List Addr) : List (κ × V) → List (κ × W) → Prop := Paired fun p q => p.1 = q.1 ∧ RepW Y F am p.2 q.2
/-- what stands for an object of the store -/
inductive RepO (F : Hp) (am : List Addr) : Option HO → Ob → Prop
  | lst {vs : List V} {ws : List W} (r : RepWs Y F am vs ws) : RepO F am (some (.lst vs)) (.lst ws)
  | dK {kvs : List (Key × V)} {kws : List (Key × W)} (r : RepKs Y F am kvs kws) : RepO F am (some (.dK kvs)) (.dK kws)
  | dT {kvs : List (List Key × V)} {kws : List (List Key × W)} (r : RepKs Y F am kvs kws) : RepO F am (some (.dT kvs)) (.dT kws)
/-- the script as an object of the written part -/
def KScr : Prop := ∃ (o : Obj) (its : Array Value) (n : Nat), Y.K.lookup Y.sa = some o ∧ o.cls = .type "list" ∧ o.dict = none ∧ o.data = .seq its n ∧ its.size ≤ sizeLine ∧ Vals (Y.ns.map V.int) its.toList
/-- the heap stands for the store; F: what never changes any more -/
structure Rep (F : Hp) (am : List Addr) (M : Store) (H : Hp) : Prop where
  fz : ∀ a o, F a = some o → H a = some o
  fd : ∀ a o, F a = some o → (∃ xs, o = .lst xs) ∨ ∃ xs, o = .tup xs
  ln : am.length = M.length
  nd : am.Nodup
  sp : ∀ a ∈ am, F a = none
  ob : ∀ (n : Nat) (a : Addr) (o : Ob), am[n]? = some a → M[n]? = some o → RepO Y F am (H a) o
  tb : LamX.Tabs Y.T H
  sc : (Rd H Y.sa (.lst (Y.ns.map V.int)) ∧ Y.sa ∉ am) ∨ KScr Y
end

/-- what a piece of the program leaves: nothing that stood changed but the store's objects (and the tables) -/
def NT (H : Hp) (b : Addr) : Prop := H b = none ∨ ∃ ps, H b = some (.tbl ps)
theorem NT.not {H : Hp} {b : Addr} {o : HO} (n : NT H b) (h : H b = some o) (ho : ∀ ps, o ≠ .tbl ps) : False := by
  rcases n with n | ⟨ps, n⟩
  · rw [h] at n; cases n
  · rw [h] at n; cases n; exact ho ps rfl
structure Ext (F : Hp) (am : List Addr) (H : Hp) (F' : Hp) (am' : List Addr) (H' : Hp) : Prop where
  f : ∀ a o, F a = some o → F' a = some o
  a : ∃ t, am' = am ++ t ∧ ∀ b ∈ t, NT H b
  h : ∀ b o, H b = some o → b ∉ am → (∀ ps, o ≠ .tbl ps) → H' b = some o
  k : ∀ b, NT H' b → NT H b
  g : ∀ b o, F' b = some o → F b = some o ∨ NT H b
theorem Ext.refl (F : Hp) (am : List Addr) (H : Hp) : Ext F am H F am H := ⟨fun _ _ h => h, ⟨[], by simp, fun b hb => by simp at hb⟩, fun _ _ h _ _ => h, fun _ h => h, fun _ _ h => .inl h⟩
theorem Ext.trans {F F1 F2 : Hp} {am am1 am2 : List Addr} {H H1 H2 : Hp} (x : Ext F am H F1 am1 H1) (y : Ext F1 am1 H1 F2 am2 H2) : Ext F am H F2 am2 H2 := by
  obtain ⟨t, e, ht⟩ := x.a
  obtain ⟨u, e2, hu⟩ := y.a
  refine ⟨fun a o h => y.f a o (x.f a o h), ⟨t ++ u, by rw [e2, e, List.append_assoc], fun b hb => ?_⟩, fun b o h hn ht' => ?_, fun b h => x.k b (y.k b h), fun b o h => (y.g b o h).elim (fun z => x.g b o z) fun z => .inr (x.k b z)⟩
  · rcases List.mem_append.mp hb with h | h
    · exact ht b h
    · exact x.k b (hu b h)
  · refine y.h b o (x.h b o h hn ht') (fun hm => ?_) ht'
    rw [e] at hm
    rcases List.mem_append.mp hm with z | z
    · exact hn z
    · exact (ht b z).not h ht'
theorem Ext.am {F F1 : Hp} {am am1 : List Addr} {H H1 : Hp} (x : Ext F am H F1 am1 H1) {n : Nat} {a : Addr} (h : am[n]? = some a) : am1[n]? = some a := by
  obtain ⟨t, e, _⟩ := x.a
  rw [e, List.getElem?_append_left (List.getElem?_eq_some_iff.mp h).1]
  exact h
section
variable {Y : Wd} {F F1 : Hp} {am am1 : List Addr} {H H1 : Hp}
theorem RepW.ext (x : Ext F am H F1 am1 H1) {v : V} {w : W} (r : RepW Y F am v w) : RepW Y F1 am1 v w := by
  cases r with
  | d r => exact .d (r.mono x.f)
  | p h => exact .p (x.am h)
  | scr => exact .scr
theorem Paired.imp {α β : Type} {P Q : α → β → Prop} (h : ∀ a b, P a b → Q a b) : ∀ {xs : List α} {ys : List β}, Paired P xs ys → Paired Q xs ys
  | _, _, .nil => .nil
  | _, _, .cons r t => .cons (h _ _ r) (Paired.imp h t)
theorem RepWs.ext (x : Ext F am H F1 am1 H1) {vs : List V} {ws : List W} (r : RepWs Y F am vs ws) : RepWs Y F1 am1 vs ws := Paired.imp (fun _ _ q => q.ext x) r
theorem RepKs.ext {κ : Type} (x : Ext F am H F1 am1 H1) {vs : List (κ × V)} {ws : List (κ × W)} (r : RepKs Y F am vs ws) : RepKs Y F1 am1 vs ws := Paired.imp (fun _ _ q => ⟨q.1, q.2.ext x⟩) r
theorem RepO.ext (x : Ext F am H F1 am1 H1) {u : Option HO} {o : Ob} (r : RepO Y F am u o) : RepO Y F1 am1 u o := by
  cases r with
  | lst r => exact .lst (RepWs.ext x r)
  | dK r => exact .dK (RepKs.ext x r)
  | dT r => exact .dT (RepKs.ext x r)
/-- the slots -/
def REnv (Y : Wd) (F : Hp) (am : List Addr) (σ : L2.St) (ρ : Env) : Prop := σ.length = ρ.length ∧ ∀ (i : Nat) (w : W), ρ[i]? = some (some w) → ∃ v, σ[i]? = some (some v) ∧ RepW Y F am v w
theorem REnv.ext (x : Ext F am H F1 am1 H1) {σ : L2.St} {ρ : Env} (r : REnv Y F am σ ρ) : REnv Y F1 am1 σ ρ :=
  ⟨r.1, fun i w h => let ⟨v, e, q⟩ := r.2 i w h; ⟨v, e, q.ext x⟩⟩
theorem REnv.set {σ : L2.St} {ρ : Env} (r : REnv Y F am σ ρ) (i : Nat) {v : V} {w : W} (q : RepW Y F am v w) : REnv Y F am (σ.set i (some v)) (ρ.set i (some w)) := by
  refine ⟨by simpa using r.1, fun j u h => ?_⟩
  by_cases e : i = j
  · subst e
    by_cases hl : i < ρ.length
    · rw [List.getElem?_set_self hl] at h
      cases h
      exact ⟨v, by rw [List.getElem?_set_self (by rw [r.1]; exact hl)], q⟩
    · rw [List.getElem?_eq_none (by simpa using hl)] at h
      cases h
  · rw [List.getElem?_set_ne e] at h
    obtain ⟨u', e1, e2⟩ := r.2 j u h
    exact ⟨u', by rw [List.getElem?_set_ne e]; exact e1, e2⟩

/-! ### what follows -/
/-- a wish of an exception -/
abbrev XW := Str → List Addr → Store → Hp → Prop
/-- behind a piece that comes to r: G what follows, Wx what is wished of an exception -/
def Aft (Y : Wd) (Wx : Value → Option Addr → Hp → Prop) (F : Hp) (am : List Addr) (H : Hp) {α : Type} (r : R α) (G : Hp → List Addr → Store → α → Hp → Prop) : Prop :=
  match r with
  | .ok a M' => ∀ F' am' H', Ext F am H F' am' H' → Rep Y F' am' M' H' → G F' am' M' a H'
  | .ex c M' => ∀ F' am' H', Ext F am H F' am' H' → Rep Y F' am' M' H' → Wx (.ref (He.ga Y.K c)) none H'
  | .bad => False
variable {Wx : Value → Option Addr → Hp → Prop} {α β : Type}
theorem Aft.imp {r : R α} {G G' : Hp → List Addr → Store → α → Hp → Prop} (h : Aft Y Wx F am H r G) (i : ∀ F' am' M' a H', Ext F am H F' am' H' → Rep Y F' am' M' H' → G F' am' M' a H' → G' F' am' M' a H') : Aft Y Wx F am H r G' := by
  cases r with
  | ok a M => exact fun F' am' H' x rp => i _ _ _ _ _ x rp (h F' am' H' x rp)
  | ex c M => exact h
  | bad => exact h
theorem Aft.from {r : R α} {G : Hp → List Addr → Store → α → Hp → Prop} (x : Ext F am H F1 am1 H1) (h : Aft Y Wx F am H r G) : Aft Y Wx F1 am1 H1 r G := by
  cases r with
  | ok a M => exact fun F' am' H' x' rp => h F' am' H' (x.trans x') rp
  | ex c M => exact fun F' am' H' x' rp => h F' am' H' (x.trans x') rp
  | bad => exact h
theorem Aft.bind {r : R α} {k : α → Store → R β} {G : Hp → List Addr → Store → β → Hp → Prop} (h : Aft Y Wx F am H (r.bind k) G) : Aft Y Wx F am H r (fun F1 am1 M1 a H1 => Aft Y Wx F1 am1 H1 (k a M1) G) := by
  cases r with
  | ok a M => exact fun F' am' H' x rp => h.from x
  | ex c M => exact h
  | bad => exact h
theorem Aft.ret {a : α} {M : Store} {G : Hp → List Addr → Store → α → Hp → Prop} (rp : Rep Y F am M H) (h : Aft Y Wx F am H (.ok a M) G) : G F am M a H := h F am H (Ext.refl ..) rp
end

/-! ### readings of pieces -/
abbrev PEx := Env → Store → R W
abbrev PTx := Env → Store → R Bool
abbrev PAx := Env → Store → R (List W)
section
variable (Y : Wd) (Wx : WX)
/-- where a piece stands: some plain state that the heap stands for -/
def At (σ : L2.St) (H : Hp) (k : Hp → List Addr → Store → Env → Prop) : Prop := ∃ F am M ρ, Rep Y F am M H ∧ REnv Y F am σ ρ ∧ k F am M ρ
def xT (f : PEx) : TE := fun σ H Q => At Y σ H fun F am M ρ => Aft Y (fun c d H' => Wx c d σ H') F am H (f ρ M) fun F' am' _ w H' => ∀ v, RepW Y F' am' v w → Q v H'
def xB (f : PTx) : TT := fun σ H Q => At Y σ H fun F am M ρ => Aft Y (fun c d H' => Wx c d σ H') F am H (f ρ M) fun _ _ _ b H' => Q b H'
def xA (f : PAx) : TA := fun σ H Q => At Y σ H fun F am M ρ => Aft Y (fun c d H' => Wx c d σ H') F am H (f ρ M) fun F' am' _ ws H' => ∀ vs, RepWs Y F' am' vs ws → Q vs H'
end
/-- weaker readings -/
theorem _root_.L2.PE.to {X : Cx} {e : Expr} {t t' : TE} (h : PE X e t) (i : ∀ σ H Q, t' σ H Q → t σ H Q) : PE X e t' := ⟨fun pins s σ H Q I q => h.run pins s σ H Q I (i σ H Q q)⟩
theorem _root_.L2.PT.to {X : Cx} {e : Expr} {t t' : TT} (h : PT X e t) (i : ∀ σ H Q, t' σ H Q → t σ H Q) : PT X e t' := ⟨fun pins s σ H Q I q => h.run pins s σ H Q I (i σ H Q q)⟩
theorem _root_.L2.PW.to {X : Cx} {e : Expr} {t t' : TT} (h : PW X e t) (i : ∀ σ H Q, t' σ H Q → t σ H Q) : PW X e t' := ⟨fun w pins s σ H Q I q => h.run w pins s σ H Q I (i σ H Q q)⟩
theorem _root_.L2.PA.to {X : Cx} {e : List Expr} {t t' : TA} (h : PA X e t) (i : ∀ σ H Q, t' σ H Q → t σ H Q) : PA X e t' := ⟨fun p pins s σ H Q I q => h.run p pins s σ H Q I (i σ H Q q)⟩
theorem _root_.L2.PS.to {X : Cx} {e : Stmt} {t t' : TS} (h : PS X e t) (i : ∀ D σ H, t' D σ H → t D σ H) : PS X e t' := ⟨fun pins s σ H D I q => h.run pins s σ H D I (i D σ H q)⟩
theorem _root_.L2.PSs.to {X : Cx} {e : List Stmt} {t t' : TS} (h : PSs X e t) (i : ∀ D σ H, t' D σ H → t D σ H) : PSs X e t' := ⟨fun pins s σ H D I q => h.run pins s σ H D I (i D σ H q)⟩
end Pu
end
section
set_option linter.all false
set_option maxRecDepth 100000
set_option maxHeartbeats 4000000
/-! PuB: the heap changes; names, constants, operators, tests. -/
namespace Pu
open PySem PySem.Spec PyProof.Rows L2
section
variable {Y : Wd} {F F1 : Hp} {am am1 : List Addr} {M : Store} {H H1 : Hp}
theorem tabs_upd {H : Hp} {T : List (Addr × Str)} {a : Addr} {o : HO} (t : LamX.Tabs T H) (h : H a = none ∨ ∃ u, H a = some u ∧ (∀ ps, u ≠ .tbl ps) ∧ ∀ c q, u ≠ LamX.CodeO c q) : LamX.Tabs T (upd H a o) := by
  intro p hp
  obtain ⟨ps, h1, h2, h3⟩ := t p hp
  have n1 : ∀ b u, H b = some u → ((∃ ps, u = .tbl ps) ∨ ∃ c q, u = LamX.CodeO c q) → b ≠ a := by
    intro b u e hu z
    subst z
    rcases h with h | ⟨u', e', hn, hc⟩
    · rw [h] at e; cases e
    · rw [e] at e'
      cases e'
      rcases hu with ⟨ps, z⟩ | ⟨c, q, z⟩
      · exact hn ps z
      · exact hc c q z
  refine ⟨ps, by rw [upd_ne (n1 _ _ h1 (.inl ⟨_, rfl⟩))]; exact h1, h2, fun pos cv hc => ?_⟩
  obtain ⟨c, e1, e2⟩ := h3 pos cv hc
  exact ⟨c, e1, by rw [upd_ne (n1 _ _ e2 (.inr ⟨_, _, rfl⟩))]; exact e2⟩
theorem upd_some {H : Hp} {p : Addr} {o : HO} {a : Addr} {u : HO} (hp : H p = none) (h : H a = some u) : upd H p o a = some u := by
  rw [upd_ne (ne_of_none h hp)]; exact h
theorem nt_upd {H : Hp} {p : Addr} {o : HO} {b : Addr} (hp : H p = none) (h : NT (upd H p o) b) : NT H b := by
  by_cases e : b = p
  · rw [e]; exact .inl hp
  · unfold NT at h; rw [upd_ne e] at h; exact h
theorem upd_none {H : Hp} {p : Addr} {o : HO} {b : Addr} (h : upd H p o b = none) : H b = none := by
  unfold upd at h
  split at h
  · cases h
  · exact h
/-- a datum's object is laid -/
theorem Rep.newD {p : Addr} {o : HO} (r : Rep Y F am M H) (hp : H p = none) (ho : (∃ xs, o = .lst xs) ∨ ∃ xs, o = .tup xs) : Rep Y (upd F p o) am M (upd H p o) ∧ Ext F am H (upd F p o) am (upd H p o) := by
  have fp : F p = none := by
    cases e : F p with
    | none => rfl
    | some u => have := r.fz p u e; rw [hp] at this; cases this
  have mo : ∀ a u, F a = some u → upd F p o a = some u := fun a u h => upd_some fp h
  have x : Ext F am H (upd F p o) am (upd H p o) := ⟨mo, ⟨[], by simp, fun b hb => by simp at hb⟩, fun b u h _ _ => upd_some hp h, fun b h => nt_upd hp h, fun b u h => by
    by_cases e : b = p
    · exact .inr (by rw [e]; exact .inl hp)
    · rw [upd_ne e] at h; exact .inl h⟩
  have pam : p ∉ am := fun hm => by
    obtain ⟨n, hl, e⟩ := List.getElem_of_mem hm
    have e2 : am[n]? = some p := by rw [List.getElem?_eq_getElem hl, e]
    have hl2 : n < M.length := by rw [← r.ln]; exact hl
    have q := r.ob n p _ e2 (List.getElem?_eq_getElem hl2)
    rw [hp] at q
    cases q
  refine ⟨⟨fun a u h => ?_, fun a u h => ?_, r.ln, r.nd, fun a ha => ?_, fun n a ob h1 h2 => ?_, tabs_upd r.tb (.inl hp), ?_⟩, x⟩
  · unfold upd at h ⊢
    split at h
    · rename_i e; rw [if_pos e]; exact h
    · rename_i e; rw [if_neg e]; exact r.fz a u h
  · unfold upd at h
    split at h
    · cases h; exact ho
    · exact r.fd a u h
  · rw [upd_ne (fun e => pam (by rw [← e]; exact ha))]; exact r.sp a ha
  · have hne : a ≠ p := fun e => pam (by rw [← e]; exact List.mem_of_getElem? h1)
    rw [upd_ne hne]
    exact (r.ob n a ob h1 h2).ext x
  · rcases r.sc with ⟨h, hn⟩ | h
    · refine .inl ⟨?_, hn⟩
      rcases h with h | ⟨u, h⟩
      · exact .inl (upd_some hp h)
      · exact .inr ⟨u, upd_some hp h⟩
    · exact .inr h
/-- the store's objects stand -/
theorem Rep.at_ (r : Rep Y F am M H) {n : Nat} {a : Addr} (h : am[n]? = some a) : ∃ ob, M[n]? = some ob ∧ RepO Y F am (H a) ob := by
  have hl : n < M.length := by rw [← r.ln]; exact (List.getElem?_eq_some_iff.mp h).1
  exact ⟨_, List.getElem?_eq_getElem hl, r.ob n a _ h (List.getElem?_eq_getElem hl)⟩
theorem RepO.isSome {u : Option HO} {ob : Ob} (r : RepO Y F am u ob) : ∃ o, u = some o ∧ (∀ ps, o ≠ .tbl ps) ∧ ∀ c q, o ≠ LamX.CodeO c q := by
  cases r with
  | lst r => exact ⟨_, rfl, (fun _ e => by cases e), (fun _ _ e => by unfold LamX.CodeO at e; cases e)⟩
  | dK r => exact ⟨_, rfl, (fun _ e => by cases e), (fun _ _ e => by unfold LamX.CodeO at e; cases e)⟩
  | dT r => exact ⟨_, rfl, (fun _ e => by cases e), (fun _ _ e => by unfold LamX.CodeO at e; cases e)⟩
/-- a new object of the store -/
theorem Rep.newS {p : Addr} {o : HO} {ob : Ob} (r : Rep Y F am M H) (hp : H p = none) (ro : RepO Y F am (some o) ob) : Rep Y F (am ++ [p]) (M ++ [ob]) (upd H p o) ∧ Ext F am H F (am ++ [p]) (upd H p o) := by
  have fp : F p = none := by
    cases e : F p with
    | none => rfl
    | some u => have := r.fz p u e; rw [hp] at this; cases this
  have x : Ext F am H F (am ++ [p]) (upd H p o) := ⟨fun _ _ h => h, ⟨[p], rfl, fun b hb => by rw [List.mem_singleton] at hb; rw [hb]; exact .inl hp⟩, fun b u h _ _ => upd_some hp h, fun b h => nt_upd hp h, fun _ _ h => .inl h⟩
  have pam : p ∉ am := fun hm => by
    obtain ⟨n, hl, e⟩ := List.getElem_of_mem hm
    obtain ⟨ob, _, q⟩ := r.at_ (show am[n]? = some p by rw [List.getElem?_eq_getElem hl, e])
    rw [hp] at q
    cases q
  refine ⟨⟨fun a u h => upd_some hp (r.fz a u h), r.fd, by rw [List.length_append, List.length_append, r.ln]; rfl, ?_, fun a ha => ?_, fun n a ob' h1 h2 => ?_, tabs_upd r.tb (.inl hp), ?_⟩, x⟩
  · rw [List.nodup_append]
    refine ⟨r.nd, by simp, fun a ha b hb e => ?_⟩
    rw [List.mem_singleton] at hb
    exact pam (by rw [← hb, ← e]; exact ha)
  · rcases List.mem_append.mp ha with h | h
    · exact r.sp a h
    · rw [List.mem_singleton] at h; rw [h]; exact fp
  · by_cases hn : n < am.length
    · rw [List.getElem?_append_left hn] at h1
      rw [List.getElem?_append_left (by rw [← r.ln]; exact hn)] at h2
      have hne : a ≠ p := fun e => pam (by rw [← e]; exact List.mem_of_getElem? h1)
      rw [upd_ne hne]
      exact (r.ob n a ob' h1 h2).ext x
    · rw [List.getElem?_append_right (by omega)] at h1
      rw [List.getElem?_append_right (by rw [← r.ln]; omega)] at h2
      have z : n - am.length = 0 := by
        have := (List.getElem?_eq_some_iff.mp h1).1
        simp at this
        omega
      rw [z] at h1
      rw [← r.ln, z] at h2
      simp at h1 h2
      subst h1 h2
      rw [upd_same]
      exact ro.ext x
  · rcases r.sc with ⟨h, hn⟩ | h
    · refine .inl ⟨?_, fun hm => ?_⟩
      · rcases h with h | ⟨u, h⟩
        · exact .inl (upd_some hp h)
        · exact .inr ⟨u, upd_some hp h⟩
      · rcases List.mem_append.mp hm with z | z
        · exact hn z
        · rw [List.mem_singleton] at z
          rw [z] at h
          rcases h with h | ⟨u, h⟩ <;> (rw [hp] at h; cases h)
    · exact .inr h
/-- an object of the store is written -/
theorem Rep.write {n : Nat} {a : Addr} {o : HO} {ob : Ob} (r : Rep Y F am M H) (ha : am[n]? = some a) (ro : RepO Y F am (some o) ob) : Rep Y F am (M.set n ob) (upd H a o) ∧ Ext F am H F am (upd H a o) := by
  have hm : a ∈ am := List.mem_of_getElem? ha
  have x : Ext F am H F am (upd H a o) := ⟨fun _ _ h => h, ⟨[], by simp, fun b hb => by simp at hb⟩, fun b u h hn _ => by rw [upd_ne (fun e => hn (by rw [e]; exact hm))]; exact h, fun b h => by
    by_cases e : b = a
    · obtain ⟨u, e1, e2, _⟩ := ro.isSome
      cases e1
      exact (h.not (o := o) (by rw [e, upd_same]) e2).elim
    · unfold NT at h; rw [upd_ne e] at h; exact h, fun _ _ h => .inl h⟩
  refine ⟨⟨fun b u h => ?_, r.fd, by rw [List.length_set]; exact r.ln, r.nd, r.sp, fun m b ob' h1 h2 => ?_, ?_, ?_⟩, x⟩
  · rw [upd_ne (fun e => by rw [e, r.sp a hm] at h; cases h)]
    exact r.fz b u h
  · by_cases e : n = m
    · subst e
      rw [ha] at h1
      cases h1
      rw [List.getElem?_set_self (by rw [← r.ln]; exact (List.getElem?_eq_some_iff.mp ha).1)] at h2
      cases h2
      rw [upd_same]
      exact ro
    · rw [List.getElem?_set_ne e] at h2
      rw [upd_ne (fun z => e (nd_ix r.nd ha (by rw [z] at h1; exact h1)))]
      exact r.ob m b ob' h1 h2
  · obtain ⟨ob0, _, q⟩ := r.at_ ha
    obtain ⟨u, e, n1, n2⟩ := q.isSome
    exact tabs_upd r.tb (.inr ⟨u, e, n1, n2⟩)
  · rcases r.sc with ⟨h, hn⟩ | h
    · have hne : Y.sa ≠ a := fun e => hn (by rw [e]; exact hm)
      refine .inl ⟨?_, hn⟩
      unfold Rd
      rw [upd_ne hne]
      exact h
    · exact .inr h
theorem Rep.scr (r : Rep Y F am M H) : SqL Y.K H Y.sa (Y.ns.map V.int) := by
  rcases r.sc with ⟨h, _⟩ | h
  · exact .inl h
  · exact .inr h
/-- the data stand in the heap -/
theorem Rep.dp (r : Rep Y F am M H) {v : V} {x : PyData} (q : RepD Y.K F v x) : Dp Y.K H v x := q.dp r.fz
theorem Rep.seqT (r : Rep Y F am M H) {a : Addr} {vs : List V} (q : F a = some (.tup vs)) : SqT Y.K H a vs := .inl (.inl (r.fz _ _ q))
end

/-! ### names, constants -/
def xV (i : Nat) : PEx := fun ρ M => match ρ[i]? with
  | some (some w) => .ok w M
  | _ => .bad
def xC (x : PyData) : PEx := fun _ M => .ok (.d x) M
section
variable {X : Cx} {Y : Wd} {Wx : WX}
theorem px_v (i : Nat) {x : Str} {pos : Pos} (hN : X.N[i]? = some x := by rfl) (hv : Vis X.env.scope x := by first | exact .inl rfl | exact .inr (.inl rfl) | exact .inr (.inr rfl))
    (hd : (x == ("__debug__" : Str)) = false := by decide +kernel) (hcd : (x == ("__classdict__" : Str)) = false := by decide +kernel) : PE X (.Name x pos) (xT Y Wx (xV i)) := by
  refine (pe_var (i := i) hN hv hd hcd).to fun σ H Q h => ?_
  obtain ⟨F, am, M, ρ, rp, re, h⟩ := h
  unfold xV at h
  cases e : ρ[i]? with
  | none => rw [e] at h; exact h.elim
  | some o =>
    cases o with
    | none => rw [e] at h; exact h.elim
    | some w =>
      rw [e] at h
      obtain ⟨v, e2, q⟩ := re.2 i w e
      exact ⟨v, e2, h.ret rp v q⟩
/-- a value that stands for the same datum always -/
theorem px_c {e : Expr} {v : V} {x : PyData} (h : PE X e (tC v)) (q : ∀ F, RepD Y.K F v x) : PE X e (xT Y Wx (xC x)) := by
  refine h.to fun σ H Q h => ?_
  obtain ⟨F, am, M, ρ, rp, re, h⟩ := h
  exact Aft.ret rp h v (.d (q F))
theorem px_int {i : Int} {j : Nat} {pos : Pos} : PE X (.Constant (.int i) j pos) (xT Y Wx (xC (.int i))) := px_c pe_int fun _ => .int i
theorem px_bl {b : Bool} {j : Nat} {pos : Pos} : PE X (.Constant (.bool b) j pos) (xT Y Wx (xC (.bool b))) := px_c pe_bl fun _ => .bl b
theorem px_non {j : Nat} {pos : Pos} : PE X (.Constant .none j pos) (xT Y Wx (xC .none)) := px_c pe_non fun _ => .non
theorem px_str {x : Str} {j : Nat} {pos : Pos} : PE X (.Constant (.str x) j pos) (xT Y Wx (xC (.str x))) := px_c pe_str fun _ => .str x
end

/-! ### two operands -/
def x2 (op : W → W → Store → R W) (f g : PEx) : PEx := fun ρ M => (f ρ M).bind fun w M1 => (g ρ M1).bind fun u M2 => op w u M2
/-- an operator's rule does what op says -/
def OpS (Y : Wd) (op : W → W → Store → R W) (r : R2) : Prop := ∀ (F : Hp) (am : List Addr) (M : Store) (H : Hp) (v y : V) (w u : W) (Wx : Value → Option Addr → Hp → Prop) (Q : VK), Rep Y F am M H → RepW Y F am v w → RepW Y F am y u →
  Aft Y Wx F am H (op w u M) (fun F' am' _ z H' => ∀ v, RepW Y F' am' v z → Q v H') → r v y H Q
section
variable {X : Cx} {Y : Wd} {Wx : WX} {a b : Expr} {f g : PEx} {pos : Pos}
theorem two_run {op : W → W → Store → R W} {r : R2} (s : OpS Y op r) {σ : L2.St} {H : Hp} {Q : VK} (h : xT Y Wx (x2 op f g) σ H Q) : tOp r (xT Y Wx f) (xT Y Wx g) σ H Q := by
  obtain ⟨F, am, M, ρ, rp, re, h⟩ := h
  refine ⟨F, am, M, ρ, rp, re, h.bind.imp fun F1 am1 M1 w H1 x1 rp1 h1 v q => ?_⟩
  refine ⟨F1, am1, M1, ρ, rp1, re.ext x1, h1.bind.imp fun F2 am2 M2 u H2 x2 rp2 h2 y q2 => ?_⟩
  exact s F2 am2 M2 H2 v y w u _ Q rp2 (q.ext x2) q2 h2
theorem px_op {o : Operator} {op : W → W → Store → R W} {r : R2} (s : OpS Y op r) (ho : OpR X (binaryOp o) r) (ha : PE X a (xT Y Wx f)) (hb : PE X b (xT Y Wx g)) : PE X (.BinOp a o b pos) (xT Y Wx (x2 op f g)) :=
  (pe_op ho ha hb).to fun _ _ _ h => two_run s h
theorem px_cmp {o : CmpOp} {op : W → W → Store → R W} {r : R2} (s : OpS Y op r) (ho : OpR X (compareOp o) r) (ha : PE X a (xT Y Wx f)) (hb : PE X b (xT Y Wx g)) (hm : behindInMarks o b = false := by first | exact nomark _ | rfl | with_unfolding_all rfl) : PE X (.Compare a [o] [b] pos) (xT Y Wx (x2 op f g)) :=
  (pe_cmpR ho ha hb hm).to fun _ _ _ h => two_run s h
theorem px_ix {op : W → W → Store → R W} {r : R2} (s : OpS Y op r) (ho : IxR X r) (ha : PE X a (xT Y Wx f)) (hb : PE X b (xT Y Wx g)) (hs : PlainIx b := by exact fun _ _ => rfl) : PE X (.Subscript a b pos) (xT Y Wx (x2 op f g)) :=
  (pe_ix ho ha hb hs).to fun _ _ _ h => two_run s h
/-! ### tests -/
/-- a value that is a bool -/
def bOf (w : W) (M : Store) : R Bool := match w with
  | .d (.bool b) => .ok b M
  | _ => .bad
def tE (f : PEx) : PTx := fun ρ M => (f ρ M).bind bOf
theorem RepW.bl {F : Hp} {am : List Addr} {v : V} {b : Bool} (r : RepW Y F am v (.d (.bool b))) : v = .bl b := by
  cases r with
  | d r => cases r; rfl
theorem tE_run {σ : L2.St} {H : Hp} {Q : Bool → Hp → Prop} (h : xB Y Wx (tE f) σ H Q) : tB (xT Y Wx f) σ H Q := by
  obtain ⟨F, am, M, ρ, rp, re, h⟩ := h
  refine ⟨F, am, M, ρ, rp, re, h.bind.imp fun F1 am1 M1 w H1 x1 rp1 h1 v q => ?_⟩
  cases w with
  | d x =>
    cases x with
    | bool b => exact ⟨b, q.bl, Aft.ret rp1 h1⟩
    | _ => exact h1.elim
  | _ => exact h1.elim
theorem pt_e {e : Expr} (h : PE X e (xT Y Wx f)) (he : ∀ whole, isTrue e X.env whole = (do let v ← whole; standAt e.pos; holding [v] (truthy v)) := by intro _; rfl) : PT X e (xB Y Wx (tE f)) :=
  (pt_val h he).to fun _ _ _ h => tE_run h
theorem pt_cmp2 {o : CmpOp} {op : W → W → Store → R W} {r : R2} (s : OpS Y op r) (ho : OpR X (compareOp o) r) (ha : PE X a (xT Y Wx f)) (hb : PE X b (xT Y Wx g)) (hm : behindInMarks o b = false := by first | exact nomark _ | rfl | with_unfolding_all rfl) :
    PT X (.Compare a [o] [b] pos) (xB Y Wx (tE (x2 op f g))) := by
  refine (pt_cmpR ho ha hb hm).to fun σ H Q h => ?_
  exact two_run s (tE_run' h)
where
  tE_run' {σ : L2.St} {H : Hp} {Q : Bool → Hp → Prop} {f : PEx} (h : xB Y Wx (tE f) σ H Q) : xT Y Wx f σ H fun x H' => ∃ k, x = .bl k ∧ Q k H' := tE_run h
def tAnd2 (t u : PTx) : PTx := fun ρ M => (t ρ M).bind fun c M1 => if c = true then u ρ M1 else .ok false M1
def tOr2 (t u : PTx) : PTx := fun ρ M => (t ρ M).bind fun c M1 => if c = true then .ok true M1 else u ρ M1
def tNot2 (t : PTx) : PTx := fun ρ M => (t ρ M).bind fun c M1 => .ok (!c) M1
variable {t u : PTx} {rest : List Expr}
theorem pw_and2 (ha : PT X a (xB Y Wx t)) (hb : PW X (.BoolOp .And (b :: rest) pos) (xB Y Wx u)) : PW X (.BoolOp .And (a :: b :: rest) pos) (xB Y Wx (tAnd2 t u)) := by
  refine (pw_and ha hb).to fun σ H Q h => ?_
  obtain ⟨F, am, M, ρ, rp, re, h⟩ := h
  refine ⟨F, am, M, ρ, rp, re, h.bind.imp fun F1 am1 M1 c H1 x1 rp1 h1 => ?_⟩
  cases c with
  | true => exact ⟨F1, am1, M1, ρ, rp1, re.ext x1, h1⟩
  | false => exact Aft.ret rp1 h1
theorem pw_or2 (ha : PT X a (xB Y Wx t)) (hb : PW X (.BoolOp .Or (b :: rest) pos) (xB Y Wx u)) : PW X (.BoolOp .Or (a :: b :: rest) pos) (xB Y Wx (tOr2 t u)) := by
  refine (pw_or ha hb).to fun σ H Q h => ?_
  obtain ⟨F, am, M, ρ, rp, re, h⟩ := h
  refine ⟨F, am, M, ρ, rp, re, h.bind.imp fun F1 am1 M1 c H1 x1 rp1 h1 => ?_⟩
  cases c with
  | false => exact ⟨F1, am1, M1, ρ, rp1, re.ext x1, h1⟩
  | true => exact Aft.ret rp1 h1
theorem pt_not2 (ha : PT X a (xB Y Wx t)) : PT X (.UnaryOp .Not a pos) (xB Y Wx (tNot2 t)) := by
  refine (pt_not ha).to fun σ H Q h => ?_
  obtain ⟨F, am, M, ρ, rp, re, h⟩ := h
  exact ⟨F, am, M, ρ, rp, re, h.bind.imp fun F1 am1 M1 c H1 x1 rp1 h1 => Aft.ret rp1 h1⟩
/-- .. as values -/
def xAnd2 (f g : PEx) : PEx := fun ρ M => (f ρ M).bind fun w M1 => match w with
  | .d (.bool true) => g ρ M1
  | .d (.bool false) => .ok (.d (.bool false)) M1
  | _ => .bad
def xOr2 (f g : PEx) : PEx := fun ρ M => (f ρ M).bind fun w M1 => match w with
  | .d (.bool false) => g ρ M1
  | .d (.bool true) => .ok (.d (.bool true)) M1
  | _ => .bad
def xNot2 (f : PEx) : PEx := fun ρ M => (f ρ M).bind fun w M1 => match w with
  | .d (.bool b) => .ok (.d (.bool (!b))) M1
  | _ => .bad
theorem px_and (ha : PE X a (xT Y Wx f)) (hb : PE X (.BoolOp .And (b :: rest) pos) (xT Y Wx g)) : PE X (.BoolOp .And (a :: b :: rest) pos) (xT Y Wx (xAnd2 f g)) := by
  refine (pe_and ha hb).to fun σ H Q h => ?_
  obtain ⟨F, am, M, ρ, rp, re, h⟩ := h
  refine ⟨F, am, M, ρ, rp, re, h.bind.imp fun F1 am1 M1 w H1 x1 rp1 h1 v q => ?_⟩
  cases w with
  | d x =>
    cases x with
    | bool b =>
      refine ⟨b, q.bl, ?_⟩
      cases b with
      | true => exact ⟨F1, am1, M1, ρ, rp1, re.ext x1, h1⟩
      | false => exact Aft.ret rp1 h1 _ (.d (.bl _))
    | _ => exact h1.elim
  | _ => exact h1.elim
theorem px_or (ha : PE X a (xT Y Wx f)) (hb : PE X (.BoolOp .Or (b :: rest) pos) (xT Y Wx g)) : PE X (.BoolOp .Or (a :: b :: rest) pos) (xT Y Wx (xOr2 f g)) := by
  refine (pe_or ha hb).to fun σ H Q h => ?_
  obtain ⟨F, am, M, ρ, rp, re, h⟩ := h
  refine ⟨F, am, M, ρ, rp, re, h.bind.imp fun F1 am1 M1 w H1 x1 rp1 h1 v q => ?_⟩
  cases w with
  | d x =>
    cases x with
    | bool b =>
      refine ⟨b, q.bl, ?_⟩
      cases b with
      | false => exact ⟨F1, am1, M1, ρ, rp1, re.ext x1, h1⟩
      | true => exact Aft.ret rp1 h1 _ (.d (.bl _))
    | _ => exact h1.elim
  | _ => exact h1.elim
theorem px_not (ha : PE X a (xT Y Wx f)) : PE X (.UnaryOp .Not a pos) (xT Y Wx (xNot2 f)) := by
  refine (pe_not ha).to fun σ H Q h => ?_
  obtain ⟨F, am, M, ρ, rp, re, h⟩ := h
  refine ⟨F, am, M, ρ, rp, re, h.bind.imp fun F1 am1 M1 w H1 x1 rp1 h1 v q => ?_⟩
  cases w with
  | d x =>
    cases x with
    | bool b => exact ⟨b, q.bl, Aft.ret rp1 h1 _ (.d (.bl _))⟩
    | _ => exact h1.elim
  | _ => exact h1.elim
theorem px_one {op : BoolOp} (h : PE X a (xT Y Wx f)) : PE X (.BoolOp op [a] pos) (xT Y Wx f) := pe_one h
/-- a if t else b -/
def xIf (t : PTx) (f g : PEx) : PEx := fun ρ M => (t ρ M).bind fun c M1 => if c = true then f ρ M1 else g ρ M1
theorem px_if {c : Expr} (hc : PT X c (xB Y Wx t)) (ha : PE X a (xT Y Wx f)) (hb : PE X b (xT Y Wx g)) : PE X (.IfExp c a b pos) (xT Y Wx (xIf t f g)) := by
  refine (pe_ifExp hc ha hb).to fun σ H Q h => ?_
  obtain ⟨F, am, M, ρ, rp, re, h⟩ := h
  refine ⟨F, am, M, ρ, rp, re, h.bind.imp fun F1 am1 M1 c H1 x1 rp1 h1 => ?_⟩
  cases c with
  | true => exact ⟨F1, am1, M1, ρ, rp1, re.ext x1, h1⟩
  | false => exact ⟨F1, am1, M1, ρ, rp1, re.ext x1, h1⟩
/-- a <= b <= c -/
def x3 (op op' : W → W → Store → R W) (f g k : PEx) : PEx := fun ρ M => (f ρ M).bind fun w M1 => (g ρ M1).bind fun u M2 => (op w u M2).bind fun z M3 => match z with
  | .d (.bool true) => (k ρ M3).bind fun y M4 => op' u y M4
  | .d (.bool false) => .ok (.d (.bool false)) M3
  | _ => .bad
theorem chain_run {op op' : W → W → Store → R W} {r r' : R2} {k : PEx} (s : OpS Y op r) (s' : OpS Y op' r') {σ : L2.St} {H : Hp} {Q : VK} (h : xT Y Wx (x3 op op' f g k) σ H Q) : tChain r r' (xT Y Wx f) (xT Y Wx g) (xT Y Wx k) σ H Q := by
  obtain ⟨F, am, M, ρ, rp, re, h⟩ := h
  refine ⟨F, am, M, ρ, rp, re, h.bind.imp fun F1 am1 M1 w H1 x1 rp1 h1 v q => ?_⟩
  refine ⟨F1, am1, M1, ρ, rp1, re.ext x1, h1.bind.imp fun F2 am2 M2 u H2 x2 rp2 h2 y q2 => ?_⟩
  refine s F2 am2 M2 H2 v y w u _ _ rp2 (q.ext x2) q2 (h2.bind.imp fun F3 am3 M3 z H3 x3 rp3 h3 c q3 => ?_)
  cases z with
  | d x =>
    cases x with
    | bool b =>
      refine ⟨b, q3.bl, ?_⟩
      cases b with
      | true =>
        refine ⟨F3, am3, M3, ρ, rp3, (re.ext x1).ext (x2.trans x3), h3.bind.imp fun F4 am4 M4 e H4 x4 rp4 h4 v4 q4 => ?_⟩
        exact s' F4 am4 M4 H4 y v4 u e _ Q rp4 ((q2.ext x3).ext x4) q4 h4
      | false => exact Aft.ret rp3 h3 _ (.d (.bl _))
    | _ => exact h3.elim
  | _ => exact h3.elim
theorem px_chain {c : Expr} {k : PEx} {o o' : CmpOp} {op op' : W → W → Store → R W} {r r' : R2} (s : OpS Y op r) (s' : OpS Y op' r') (ho : OpR X (compareOp o) r) (ho' : OpR X (compareOp o') r') (ha : PE X a (xT Y Wx f)) (hb : PE X b (xT Y Wx g)) (hc : PE X c (xT Y Wx k))
    (hm : lastMarks [o, o'] [b, c] = false := by with_unfolding_all rfl) : PE X (.Compare a [o, o'] [b, c] pos) (xT Y Wx (x3 op op' f g k)) :=
  (pe_chain ho ho' ha hb hc hm).to fun _ _ _ h => chain_run s s' h
theorem pt_chain2 {c : Expr} {k : PEx} {o o' : CmpOp} {op op' : W → W → Store → R W} {r r' : R2} (s : OpS Y op r) (s' : OpS Y op' r') (ho : OpR X (compareOp o) r) (ho' : OpR X (compareOp o') r') (ha : PE X a (xT Y Wx f)) (hb : PE X b (xT Y Wx g)) (hc : PE X c (xT Y Wx k))
    (hm : lastMarks [o, o'] [b, c] = false := by with_unfolding_all rfl) : PT X (.Compare a [o, o'] [b, c] pos) (xB Y Wx (tE (x3 op op' f g k))) :=
  (pt_chain ho ho' ha hb hc hm).to fun _ _ _ h => chain_run s s' (tE_run h)
end
end Pu
end
section
set_option linter.all false
set_option maxRecDepth 100000
set_option maxHeartbeats 4000000
/-! PuC: operators on plain values. -/
namespace Pu
open PySem PySem.Spec PyProof.Rows L2

/-! ### sequences, data -/
def lstOf (M : Store) : W → Option (List W)
  | .d (.list xs) => some (xs.map .d)
  | .d (.tuple xs) => some (xs.map .d)
  | .p n => match M[n]? with
    | some (.lst ws) => some ws
    | _ => none
  | _ => none
def dats : List W → Option (List PyData)
  | [] => some []
  | .d x :: r => (dats r).map (x :: ·)
  | _ :: _ => none
def datOf (M : Store) : W → Option PyData
  | .d x => some x
  | .p n => match M[n]? with
    | some (.lst ws) => (dats ws).map .list
    | _ => none
  | .scr => none
@[simp] theorem dats_map (xs : List PyData) : dats (xs.map .d) = some xs := by
  induction xs with
  | nil => rfl
  | cons x r ih => show (dats (r.map .d)).map (x :: ·) = _; rw [ih]; rfl
theorem dats_eq : ∀ {ws : List W} {ds : List PyData}, dats ws = some ds → ws = ds.map .d
  | [], _, h => by cases h; rfl
  | .d x :: r, ds, h => by
    have h' : (dats r).map (x :: ·) = some ds := h
    cases e : dats r with
    | none => rw [e] at h'; cases h'
    | some es => rw [e] at h'; cases h'; rw [dats_eq e]; rfl
  | .p _ :: _, _, h => by cases h
  | .scr :: _, _, h => by cases h
section
variable {Y : Wd} {F : Hp} {am : List Addr} {M : Store} {H : Hp}
theorem repWs_of {vs : List V} {ds : List PyData} (r : RepDs Y.K F vs ds) : RepWs Y F am vs (ds.map .d) := by
  induction ds generalizing vs with
  | nil => cases r; exact .nil
  | cons d ds ih => cases r with | cons h t => exact .cons (.d h) (ih t)
theorem repDs_of : ∀ {vs : List V} {ds : List PyData}, RepWs Y F am vs (ds.map .d) → RepDs Y.K F vs ds
  | _, [], .nil => .nil
  | _, d :: ds, .cons h t => by
    cases h with
    | d h => exact .cons h (repDs_of t)
theorem RepWs.length {vs : List V} {ws : List W} (r : RepWs Y F am vs ws) : vs.length = ws.length := Paired.length r
theorem RepWs.get {vs : List V} {ws : List W} (r : RepWs Y F am vs ws) {i : Nat} {w : W} (h : ws[i]? = some w) : ∃ v, vs[i]? = some v ∧ RepW Y F am v w := by
  induction r generalizing i with
  | nil => simp at h
  | cons q t ih =>
    cases i with
    | zero => simp at h; subst h; exact ⟨_, rfl, q⟩
    | succ i => simpa using ih (by simpa using h)
theorem RepWs.append {vs us : List V} {ws zs : List W} (r : RepWs Y F am vs ws) (s : RepWs Y F am us zs) : RepWs Y F am (vs ++ us) (ws ++ zs) := by
  induction r with
  | nil => exact s
  | cons q t ih => exact .cons q ih
theorem RepWs.take {vs : List V} {ws : List W} (r : RepWs Y F am vs ws) (n : Nat) : RepWs Y F am (vs.take n) (ws.take n) := by
  induction r generalizing n with
  | nil => simpa using Paired.nil
  | cons q t ih =>
    cases n with
    | zero => exact .nil
    | succ n => exact .cons q (ih n)
theorem RepWs.drop {vs : List V} {ws : List W} (r : RepWs Y F am vs ws) (n : Nat) : RepWs Y F am (vs.drop n) (ws.drop n) := by
  induction r generalizing n with
  | nil => simpa using Paired.nil
  | cons q t ih =>
    cases n with
    | zero => exact .cons q t
    | succ n => exact ih n
theorem RepWs.set {vs : List V} {ws : List W} (r : RepWs Y F am vs ws) (n : Nat) {v : V} {w : W} (h : RepW Y F am v w) : RepWs Y F am (vs.set n v) (ws.set n w) := by
  induction r generalizing n with
  | nil => exact .nil
  | cons q t ih =>
    cases n with
    | zero => exact .cons h t
    | succ n => exact .cons q (ih n)
theorem RepWs.flat {vs : List V} {ws : List W} (r : RepWs Y F am vs ws) (n : Nat) : RepWs Y F am (List.replicate n vs).flatten (List.replicate n ws).flatten := by
  induction n with
  | zero => exact .nil
  | succ n ih => simpa [List.replicate_succ] using RepWs.append r ih
theorem Rep.lst (rp : Rep Y F am M H) {n : Nat} {ws : List W} {a : Addr} (ha : am[n]? = some a) (h : M[n]? = some (.lst ws)) : ∃ vs, H a = some (.lst vs) ∧ RepWs Y F am vs ws := by
  have q := rp.ob n a _ ha h
  generalize e : H a = u at q
  cases q with
  | lst r => exact ⟨_, rfl, r⟩
theorem Rep.dK (rp : Rep Y F am M H) {n : Nat} {ws : List (Key × W)} {a : Addr} (ha : am[n]? = some a) (h : M[n]? = some (.dK ws)) : ∃ vs, H a = some (.dK vs) ∧ RepKs Y F am vs ws := by
  have q := rp.ob n a _ ha h
  generalize e : H a = u at q
  cases q with
  | dK r => exact ⟨_, rfl, r⟩
theorem Rep.dT (rp : Rep Y F am M H) {n : Nat} {ws : List (List Key × W)} {a : Addr} (ha : am[n]? = some a) (h : M[n]? = some (.dT ws)) : ∃ vs, H a = some (.dT vs) ∧ RepKs Y F am vs ws := by
  have q := rp.ob n a _ ha h
  generalize e : H a = u at q
  cases q with
  | dT r => exact ⟨_, rfl, r⟩
/-- a sequence that is read -/
theorem Rep.seq (rp : Rep Y F am M H) {v : V} {w : W} (q : RepW Y F am v w) {ws : List W} (h : lstOf M w = some ws) : ∃ a vs, v = .ref a ∧ (SqL Y.K H a vs ∨ SqT Y.K H a vs) ∧ RepWs Y F am vs ws := by
  cases q with
  | d r =>
    cases r with
    | lst h1 h2 =>
      cases h
      exact ⟨_, _, rfl, .inl (.inl (.inl (rp.fz _ _ h1))), repWs_of h2⟩
    | tup h1 h2 =>
      cases h
      exact ⟨_, _, rfl, .inr (rp.seqT h1), repWs_of h2⟩
    | _ => cases h
  | p ha =>
    rename_i n
    unfold lstOf at h
    cases e : M[n]? with
    | none => simp [e] at h
    | some ob =>
      cases ob with
      | lst us =>
        simp [e] at h
        subst h
        obtain ⟨vs, h1, h2⟩ := rp.lst ha e
        exact ⟨_, vs, rfl, .inl (.inl (.inl h1)), h2⟩
      | dK _ => simp [e] at h
      | dT _ => simp [e] at h
  | scr => cases h
/-- a datum that is read -/
theorem Rep.dat (rp : Rep Y F am M H) {v : V} {w : W} (q : RepW Y F am v w) {x : PyData} (h : datOf M w = some x) : Dp Y.K H v x := by
  cases q with
  | d r => cases h; exact rp.dp r
  | p ha =>
    rename_i n
    unfold datOf at h
    cases e : M[n]? with
    | none => simp [e] at h
    | some ob =>
      cases ob with
      | lst us =>
        simp only [e] at h
        obtain ⟨vs, h1, h2⟩ := rp.lst ha e
        cases e2 : dats us with
        | none => rw [e2] at h; cases h
        | some ds =>
          rw [e2] at h
          cases h
          have e3 := dats_eq e2
          rw [e3] at h2
          exact .lst (.inl (.inl h1)) ((repDs_of h2).dp rp.fz)
      | dK _ => simp [e] at h
      | dT _ => simp [e] at h
  | scr => cases h
theorem RepW.int {v : V} {i : Int} (r : RepW Y F am v (.d (.int i))) : v = .int i := by
  cases r with | d r => cases r; rfl
theorem RepW.str {v : V} {x : Str} (r : RepW Y F am v (.d (.str x))) : v = .str x := by
  cases r with | d r => cases r; rfl
theorem RepW.non {v : V} (r : RepW Y F am v (.d .none)) : v = .non := by
  cases r with | d r => cases r; rfl
theorem RepW.tup {v : V} {xs : List PyData} (r : RepW Y F am v (.d (.tuple xs))) : ∃ a vs, v = .ref a ∧ F a = some (.tup vs) ∧ RepDs Y.K F vs xs := by
  cases r with | d r => cases r with | tup h1 h2 => exact ⟨_, _, rfl, h1, h2⟩
theorem RepW.lst {v : V} {xs : List PyData} (r : RepW Y F am v (.d (.list xs))) : ∃ a vs, v = .ref a ∧ F a = some (.lst vs) ∧ RepDs Y.K F vs xs := by
  cases r with | d r => cases r with | lst h1 h2 => exact ⟨_, _, rfl, h1, h2⟩
/-- a list of the heap, whatever it is -/
def isLst (M : Store) : W → Option (List W)
  | .d (.list xs) => some (xs.map .d)
  | .p n => match M[n]? with
    | some (.lst ws) => some ws
    | _ => none
  | _ => none
theorem Rep.isLst (rp : Rep Y F am M H) {v : V} {w : W} (q : RepW Y F am v w) {ws : List W} (h : isLst M w = some ws) : ∃ a vs, v = .ref a ∧ H a = some (.lst vs) ∧ RepWs Y F am vs ws := by
  cases q with
  | d r =>
    cases r with
    | lst h1 h2 => cases h; exact ⟨_, _, rfl, rp.fz _ _ h1, repWs_of h2⟩
    | _ => cases h
  | p ha =>
    rename_i n
    unfold Pu.isLst at h
    cases e : M[n]? with
    | none => simp [e] at h
    | some ob =>
      cases ob with
      | lst us =>
        simp [e] at h
        subst h
        obtain ⟨vs, h1, h2⟩ := rp.lst ha e
        exact ⟨_, vs, rfl, h1, h2⟩
      | dK _ => simp [e] at h
      | dT _ => simp [e] at h
  | scr => cases h
/-- a new datum is handed on -/
theorem Aft.newL {Wx : Value → Option Addr → Hp → Prop} {ds : List PyData} {vs : List V} {Q : VK} {p : Addr} (rp : Rep Y F am M H) (hp : H p = none) (r : RepDs Y.K F vs ds)
    (h : Aft Y Wx F am H (.ok (W.d (.list ds)) M) (fun F' am' _ z H' => ∀ v, RepW Y F' am' v z → Q v H')) : Q (.ref p) (upd H p (.lst vs)) := by
  obtain ⟨rp', x⟩ := rp.newD hp (.inl ⟨vs, rfl⟩)
  exact h _ _ _ x rp' _ (.d (.lst upd_same (r.mono x.f)))
theorem Aft.newT {Wx : Value → Option Addr → Hp → Prop} {ds : List PyData} {vs : List V} {Q : VK} {p : Addr} (rp : Rep Y F am M H) (hp : H p = none) (r : RepDs Y.K F vs ds)
    (h : Aft Y Wx F am H (.ok (W.d (.tuple ds)) M) (fun F' am' _ z H' => ∀ v, RepW Y F' am' v z → Q v H')) : Q (.ref p) (upd H p (.tup vs)) := by
  obtain ⟨rp', x⟩ := rp.newD hp (.inr ⟨vs, rfl⟩)
  exact h _ _ _ x rp' _ (.d (.tup upd_same (r.mono x.f)))
theorem Aft.newP {Wx : Value → Option Addr → Hp → Prop} {ob : Ob} {o : HO} {Q : VK} {p : Addr} (rp : Rep Y F am M H) (hp : H p = none) (r : RepO Y F am (some o) ob)
    (h : Aft Y Wx F am H (.ok (W.p M.length) (M ++ [ob])) (fun F' am' _ z H' => ∀ v, RepW Y F' am' v z → Q v H')) : Q (.ref p) (upd H p o) := by
  obtain ⟨rp', x⟩ := rp.newS hp r
  exact h _ _ _ x rp' _ (.p (by rw [← rp.ln, List.getElem?_append_right (Nat.le_refl _)]; simp))
end
/-- a new list: of data; of the store -/
def newL (ws : List W) (M : Store) : R W := match dats ws with
  | some ds => .ok (.d (.list ds)) M
  | none => .bad
def newS (ws : List W) (M : Store) : R W := .ok (.p M.length) (M ++ [.lst ws])
/-- where a new list goes -/
def newW (st : Bool) (ws : List W) (M : Store) : R W := if st = true then newS ws M else newL ws M
section
variable {Y : Wd} {F : Hp} {am : List Addr} {M : Store} {H : Hp}
theorem Aft.newW {Wx : Value → Option Addr → Hp → Prop} {st : Bool} {ws : List W} {vs : List V} {Q : VK} {p : Addr} (rp : Rep Y F am M H) (hp : H p = none) (r : RepWs Y F am vs ws)
    (h : Aft Y Wx F am H (newW st ws M) (fun F' am' _ z H' => ∀ v, RepW Y F' am' v z → Q v H')) : Q (.ref p) (upd H p (.lst vs)) := by
  cases st with
  | true => exact Aft.newP rp hp (.lst r) h
  | false =>
    unfold Pu.newW at h
    simp only [Bool.false_eq_true, if_false] at h
    unfold Pu.newL at h
    cases e : dats ws with
    | none => rw [e] at h; exact h.elim
    | some ds =>
      rw [e] at h
      have e2 := dats_eq e
      rw [e2] at r
      exact Aft.newL rp hp (repDs_of r) h
end
/-! ### + -/
def addL (st : Bool) (w u : W) (M : Store) : R W := match isLst M w, isLst M u with
  | some ws, some us => if ws.length + us.length ≤ sizeLine then newW st (ws ++ us) M else .bad
  | _, _ => .bad
def pAdd (st : Bool) (w u : W) (M : Store) : R W := match w, u with
  | .d (.int i), .d (.int j) => .ok (.d (.int (i + j))) M
  | .d (.str x), .d (.str y) => if x.length + y.length ≤ sizeLine then .ok (.d (.str (x ++ y))) M else .bad
  | .d (.tuple xs), .d (.tuple ys) => if xs.length + ys.length ≤ sizeLine then .ok (.d (.tuple (xs ++ ys))) M else .bad
  | w, u => addL st w u M
abbrev rAddA (K : PySem.W.Frag) : R2 := fun x y H Q => (rI0 fun i j => .int (i + j)) x y H Q ∨ (∃ i j, x = .str i ∧ y = .str j ∧ i.length + j.length ≤ sizeLine ∧ Q (.str (i ++ j)) H) ∨ rCatA K x y H Q ∨ rCat x y H Q
theorem or_add {X : Cx} : OpR X (binaryOp .Add) (rAddA X.K) := op_add.or (op_add_str.or (op_catA.or op_cat))
theorem s_add {Y : Wd} (st : Bool) : OpS Y (pAdd st) (rAddA Y.K) := by
  intro F am M H v y w u Wx Q rp rw ru h
  have lists : Aft Y Wx F am H (addL st w u M) (fun F' am' _ z H' => ∀ v, RepW Y F' am' v z → Q v H') → rAddA Y.K v y H Q := by
    intro h
    unfold addL at h
    cases e1 : isLst M w with
    | none => rw [e1] at h; exact h.elim
    | some ws =>
      cases e2 : isLst M u with
      | none => rw [e1, e2] at h; exact h.elim
      | some us =>
        rw [e1, e2] at h
        simp only at h
        obtain ⟨a, vs, rfl, ha, r1⟩ := rp.isLst rw e1
        obtain ⟨b, ys, rfl, hb, r2⟩ := rp.isLst ru e2
        split at h
        · rename_i hz
          refine .inr (.inr (.inr ⟨a, b, vs, ys, rfl, rfl, ha, hb, by rw [r1.length, r2.length]; exact hz, fun p hp => ?_⟩))
          exact Aft.newW rp hp (r1.append r2) h
        · exact h.elim
  unfold pAdd at h
  split at h
  · refine .inl ⟨_, _, rw.int, ru.int, h.ret rp _ (.d (.int _))⟩
  · split at h
    · rename_i hz
      exact .inr (.inl ⟨_, _, rw.str, ru.str, hz, h.ret rp _ (.d (.str _))⟩)
    · exact h.elim
  · rename_i xs ys
    split at h
    · rename_i hz
      obtain ⟨a, vs, rfl, h1, r1⟩ := rw.tup
      obtain ⟨b, us, rfl, h2, r2⟩ := ru.tup
      refine .inr (.inr (.inl ⟨a, b, vs, us, rfl, rfl, rp.seqT h1, rp.seqT h2, by rw [r1.length, r2.length]; exact hz, fun e => ?_, fun e1 e => ?_, fun e1 e2 p hp => ?_⟩))
      · subst e
        cases r1
        exact h.ret rp _ (.d (.tup h2 r2))
      · subst e
        cases r2
        rw [List.append_nil] at h
        exact h.ret rp _ (.d (.tup h1 r1))
      · exact Aft.newT rp hp (r1.append r2) h
    · exact h.elim
  · exact lists h
/-! ### numbers -/
def pInt2 (g : Int → Int → Int) (C : Int → Int → Bool) (w u : W) (M : Store) : R W := match w, u with
  | .d (.int i), .d (.int j) => if C i j = true then .ok (.d (.int (g i j))) M else .bad
  | _, _ => .bad
theorem s_int2 {Y : Wd} {g : Int → Int → Int} {C : Int → Int → Bool} {D : Int → Int → Prop} (hC : ∀ i j, C i j = true → D i j) : OpS Y (pInt2 g C) (rI D fun i j => .int (g i j)) := by
  intro F am M H v y w u Wx Q rp rw ru h
  unfold pInt2 at h
  split at h
  · split at h
    · rename_i hz
      exact ⟨_, _, rw.int, ru.int, hC _ _ hz, h.ret rp _ (.d (.int _))⟩
    · exact h.elim
  · exact h.elim
theorem s_int0 {Y : Wd} {g : Int → Int → Int} : OpS Y (pInt2 g fun _ _ => true) (rI0 fun i j => .int (g i j)) := by
  intro F am M H v y w u Wx Q rp rw ru h
  unfold pInt2 at h
  split at h
  · rw [if_pos rfl] at h
    exact ⟨_, _, rw.int, ru.int, h.ret rp _ (.d (.int _))⟩
  · exact h.elim
def okMul (i j : Int) : Bool := (decide (-(2 ^ 64) < i) && decide (i < 2 ^ 64)) || (decide (-(2 ^ 64) < j) && decide (j < 2 ^ 64))
def okDiv (_ j : Int) : Bool := decide (j ≠ 0) && decide (j.natAbs < 1073741824)
def okMod (_ j : Int) : Bool := decide (j ≠ 0)
def okPow (i j : Int) : Bool := decide (0 ≤ j) && decide (j ≤ 1000000) && decide (i.natAbs < 2 ^ 64)
abbrev pSub := pInt2 (fun i j => i - j) fun _ _ => true
abbrev pDiv := pInt2 (fun i j => i.fdiv j) okDiv
abbrev pMod := pInt2 (fun i j => i.fmod j) okMod
abbrev pPow := pInt2 (fun i j => i ^ j.toNat) okPow
theorem s_sub {Y : Wd} : OpS Y pSub (rI0 fun i j => .int (i - j)) := s_int0
theorem s_div {Y : Wd} : OpS Y pDiv (rI CDivN fun i j => .int (i.fdiv j)) := s_int2 fun i j h => by
  simp only [okDiv, Bool.and_eq_true, decide_eq_true_eq] at h; exact h
theorem s_mod {Y : Wd} : OpS Y pMod (rI (fun _ j => j ≠ 0) fun i j => .int (i.fmod j)) := s_int2 fun i j h => by
  simp only [okMod, decide_eq_true_eq] at h; exact h
theorem s_pow {Y : Wd} : OpS Y pPow (rI CPow fun i j => .int (i ^ j.toNat)) := s_int2 fun i j h => by
  simp only [okPow, Bool.and_eq_true, decide_eq_true_eq] at h; exact ⟨h.1.1, h.1.2, h.2⟩
/-- * : ints, list * n, tuple * n -/
def pMul (st : Bool) (w u : W) (M : Store) : R W := match w, u with
  | .d (.int i), .d (.int j) => if okMul i j = true then .ok (.d (.int (i * j))) M else .bad
  | .d (.tuple xs), .d (.int k) => if 2 ≤ k ∧ k ≤ 1000 ∧ xs.length ≤ 1000 ∧ xs.length ≠ 0 then .ok (.d (.tuple (List.replicate k.toNat xs).flatten)) M else .bad
  | w, .d (.int k) => match isLst M w with
    | some ws => if -(2 ^ 63) ≤ k ∧ k < 2 ^ 63 ∧ ws.length * k.toNat ≤ sizeLine then newW st (List.replicate k.toNat ws).flatten M else .bad
    | none => .bad
  | _, _ => .bad
abbrev rMulA (K : PySem.W.Frag) : R2 := fun x y H Q => (rI CMul fun i j => .int (i * j)) x y H Q ∨ rRepT K x y H Q ∨ rRep x y H Q
theorem or_mul {X : Cx} : OpR X (binaryOp .Mult) (rMulA X.K) := op_mul.or (op_repT.or op_rep)
theorem RepDs.flat {K : PySem.W.Frag} {F : Hp} {vs : List V} {ds : List PyData} (r : RepDs K F vs ds) (n : Nat) : RepDs K F (List.replicate n vs).flatten (List.replicate n ds).flatten := by
  induction n with
  | zero => exact .nil
  | succ n ih => simpa [List.replicate_succ] using r.append ih
theorem s_mul {Y : Wd} (st : Bool) : OpS Y (pMul st) (rMulA Y.K) := by
  intro F am M H v y w u Wx Q rp rw ru h
  unfold pMul at h
  split at h
  · split at h
    · rename_i hz
      refine .inl ⟨_, _, rw.int, ru.int, ?_, h.ret rp _ (.d (.int _))⟩
      simp only [okMul, Bool.or_eq_true, Bool.and_eq_true, decide_eq_true_eq] at hz
      exact hz
    · exact h.elim
  · split at h
    · rename_i hz
      obtain ⟨a, vs, rfl, h1, r1⟩ := rw.tup
      refine .inr (.inl ⟨a, _, vs, rfl, ru.int, rp.seqT h1, fun e => hz.2.2.2 (by rw [← r1.length, e]; rfl), hz.1, hz.2.1, by rw [r1.length]; exact hz.2.2.1, fun p hp => ?_⟩)
      exact Aft.newT rp hp (r1.flat _) h
    · exact h.elim
  · cases e1 : isLst M w with
    | none => rw [e1] at h; exact h.elim
    | some ws =>
      rw [e1] at h
      simp only at h
      split at h
      · rename_i hz
        obtain ⟨a, vs, rfl, ha, r1⟩ := rp.isLst rw e1
        refine .inr (.inr ⟨a, _, vs, rfl, ru.int, ha, hz.1, hz.2.1, by rw [r1.length]; exact hz.2.2, fun p hp => ?_⟩)
        exact Aft.newW rp hp (r1.flat _) h
      · exact h.elim
  · exact h.elim
def pCmpI (p : Int → Int → Bool) (w u : W) (M : Store) : R W := match w, u with
  | .d (.int i), .d (.int j) => .ok (.d (.bool (p i j))) M
  | _, _ => .bad
theorem s_cmpI {Y : Wd} {p : Int → Int → Bool} : OpS Y (pCmpI p) (rI0 fun i j => .bl (p i j)) := by
  intro F am M H v y w u Wx Q rp rw ru h
  unfold pCmpI at h
  split at h
  · exact ⟨_, _, rw.int, ru.int, h.ret rp _ (.d (.bl _))⟩
  · exact h.elim
abbrev pLt := pCmpI fun i j => decide (i < j)
abbrev pLe := pCmpI fun i j => decide (i ≤ j)
abbrev pGt := pCmpI fun i j => decide (j < i)
abbrev pGe := pCmpI fun i j => decide (j ≤ i)
/-! ### == -/
def eqW (w u : W) (M : Store) : Option Bool := match datOf M w, datOf M u with
  | some x, some y => if (SeqAt.shaped x && SeqAt.shaped y) = true then some (PyData.eqv x y) else none
  | _, _ => none
def retB (o : Option Bool) (M : Store) : R W := match o with
  | some b => .ok (.d (.bool b)) M
  | none => .bad
/-- two texts -/
def strB : W → W → Option Bool
  | .d (.str x), .d (.str y) => some (decide (x = y))
  | _, _ => none
def pEq (w u : W) (M : Store) : R W := match strB w u with
  | some b => .ok (.d (.bool b)) M
  | none => retB (eqW w u M) M
def pNe (w u : W) (M : Store) : R W := match strB w u with
  | some b => .ok (.d (.bool (!b))) M
  | none => retB ((eqW w u M).map (!·)) M
theorem strB_some {w u : W} {b : Bool} (h : strB w u = some b) : ∃ x y, w = .d (.str x) ∧ u = .d (.str y) ∧ b = decide (x = y) := by
  unfold strB at h
  split at h
  · cases h; exact ⟨_, _, rfl, rfl, rfl⟩
  · cases h
theorem strB_tup {w : W} {ds : List PyData} : strB w (.d (.tuple ds)) = none := by
  cases w with
  | d x => cases x <;> rfl
  | _ => rfl
abbrev rEqA (K : PySem.W.Frag) : R2 := fun x y H Q => rEq x y H Q ∨ rEqD K x y H Q
abbrev rNeA (K : PySem.W.Frag) : R2 := fun x y H Q => rNe x y H Q ∨ rNeD K x y H Q
theorem or_eq {X : Cx} (hu : X.A.units + 64 < cLine) : OpR X (compareOp .Eq) (rEqA X.K) := op_eq.or (op_eqD hu)
theorem or_ne {X : Cx} (hu : X.A.units + 64 < cLine) : OpR X (compareOp .NotEq) (rNeA X.K) := op_ne.or (op_neD hu)
theorem eqW_some {w u : W} {M : Store} {b : Bool} (h : eqW w u M = some b) : ∃ x y, datOf M w = some x ∧ datOf M u = some y ∧ SeqAt.shaped x = true ∧ SeqAt.shaped y = true ∧ b = PyData.eqv x y := by
  unfold eqW at h
  cases e1 : datOf M w with
  | none => rw [e1] at h; cases h
  | some x =>
    cases e2 : datOf M u with
    | none => rw [e1, e2] at h; cases h
    | some y =>
      rw [e1, e2] at h
      simp only at h
      split at h
      · rename_i hz
        cases h
        exact ⟨x, y, rfl, rfl, (Bool.and_eq_true _ _ ▸ hz).1, (Bool.and_eq_true _ _ ▸ hz).2, rfl⟩
      · cases h
theorem dec_strV {x y : Str} : decide (V.str x = V.str y) = decide (x = y) := by
  rw [Bool.eq_iff_iff]
  simp
theorem s_eq {Y : Wd} : OpS Y pEq (rEqA Y.K) := by
  intro F am M H v y w u Wx Q rp rw ru h
  unfold pEq at h
  cases es : strB w u with
  | some b =>
    rw [es] at h
    obtain ⟨x, z, rfl, rfl, rfl⟩ := strB_some es
    rw [rw.str, ru.str]
    refine .inl ⟨rfl, ?_⟩
    rw [dec_strV]
    exact h.ret rp _ (.d (.bl _))
  | none =>
  rw [es] at h
  refine .inr ?_
  have h : Aft Y Wx F am H (retB (eqW w u M) M) (fun F' am' _ z H' => ∀ v, RepW Y F' am' v z → Q v H') := h
  unfold retB at h
  cases e : eqW w u M with
  | none => rw [e] at h; exact h.elim
  | some b =>
    rw [e] at h
    obtain ⟨x, z, h1, h2, h3, h4, rfl⟩ := eqW_some e
    exact ⟨x, z, rp.dat rw h1, rp.dat ru h2, h3, h4, h.ret rp _ (.d (.bl _))⟩
theorem s_ne {Y : Wd} : OpS Y pNe (rNeA Y.K) := by
  intro F am M H v y w u Wx Q rp rw ru h
  unfold pNe at h
  cases es : strB w u with
  | some b =>
    rw [es] at h
    obtain ⟨x, z, rfl, rfl, rfl⟩ := strB_some es
    rw [rw.str, ru.str]
    refine .inl ⟨rfl, ?_⟩
    rw [dec_strV]
    exact h.ret rp _ (.d (.bl _))
  | none =>
  rw [es] at h
  refine .inr ?_
  have h : Aft Y Wx F am H (retB ((eqW w u M).map (!·)) M) (fun F' am' _ z H' => ∀ v, RepW Y F' am' v z → Q v H') := h
  unfold retB at h
  cases e : eqW w u M with
  | none => rw [e] at h; exact h.elim
  | some b =>
    rw [e] at h
    obtain ⟨x, z, h1, h2, h3, h4, rfl⟩ := eqW_some e
    exact ⟨x, z, rp.dat rw h1, rp.dat ru h2, h3, h4, h.ret rp _ (.d (.bl _))⟩
/-! ### is -/
def isNonW : W → Bool
  | .d .none => true
  | _ => false
def pIs (w u : W) (M : Store) : R W := match w, u with
  | w, .d .none => .ok (.d (.bool (isNonW w))) M
  | .d (.bool a), .d (.bool b) => .ok (.d (.bool (decide (a = b)))) M
  | _, _ => .bad
def pIsNot (w u : W) (M : Store) : R W := match w, u with
  | w, .d .none => .ok (.d (.bool (!isNonW w))) M
  | .d (.bool a), .d (.bool b) => .ok (.d (.bool (!decide (a = b)))) M
  | _, _ => .bad
theorem RepW.isNon {Y : Wd} {F : Hp} {am : List Addr} {v : V} {w : W} (r : RepW Y F am v w) : decide (v = .non) = isNonW w := by
  cases r with
  | d r => cases r <;> rfl
  | p => rfl
  | scr => rfl
abbrev rIsA : R2 := fun x y H Q => (y = .non ∧ Q (.bl (decide (x = .non))) H) ∨ rIsB x y H Q
abbrev rIsNotA : R2 := fun x y H Q => (y = .non ∧ Q (.bl (!decide (x = .non))) H) ∨ rNotB x y H Q
theorem or_is {X : Cx} : OpR X (compareOp .Is) rIsA := op_isN.or op_isBl
theorem or_isNot {X : Cx} : OpR X (compareOp .IsNot) rIsNotA := op_notN.or op_notBl
theorem s_is {Y : Wd} : OpS Y pIs rIsA := by
  intro F am M H v y w u Wx Q rp rw ru h
  unfold pIs at h
  split at h
  · refine .inl ⟨ru.non, ?_⟩
    rw [rw.isNon]
    exact h.ret rp _ (.d (.bl _))
  · exact .inr ⟨_, _, rw.bl, ru.bl, h.ret rp _ (.d (.bl _))⟩
  · exact h.elim
theorem s_isNot {Y : Wd} : OpS Y pIsNot rIsNotA := by
  intro F am M H v y w u Wx Q rp rw ru h
  unfold pIsNot at h
  split at h
  · refine .inl ⟨ru.non, ?_⟩
    rw [rw.isNon]
    exact h.ret rp _ (.d (.bl _))
  · exact .inr ⟨_, _, rw.bl, ru.bl, h.ret rp _ (.d (.bl _))⟩
  · exact h.elim
end Pu
end
section
set_option linter.all false
set_option maxRecDepth 100000
set_option maxHeartbeats 4000000
/-! PuD: dicts, in, subscripts, slices, displays. -/
namespace Pu
open PySem PySem.Spec PyProof.Rows L2

/-! ### dicts -/
section
variable {κ : Type} [DecidableEq κ]
def getK (kws : List (κ × W)) (k : κ) : Option W := (kws.find? fun kv => decide (kv.1 = k)).map (·.2)
def setK (kws : List (κ × W)) (k : κ) (v : W) : List (κ × W) :=
  if (kws.any fun kv => decide (kv.1 = k)) = true then kws.map (fun kv => if kv.1 = k then (kv.1, v) else kv) else kws ++ [(k, v)]
variable {Y : Wd} {F : Hp} {am : List Addr}
theorem RepKs.val {kvs : List (κ × V)} {kws : List (κ × W)} (r : RepKs Y F am kvs kws) (k : κ) : (∀ w, getK kws k = some w → ∃ v, valV kvs k = some v ∧ RepW Y F am v w) ∧ (getK kws k = none → valV kvs k = none) := by
  induction r with
  | nil => exact ⟨fun w h => (by cases h), fun _ => rfl⟩
  | @cons p q ps qs h t ih =>
    by_cases e : p.1 = k
    · have e2 : q.1 = k := by rw [← h.1]; exact e
      refine ⟨fun w hw => ⟨p.2, valV_pos e, ?_⟩, fun hw => ?_⟩
      · have : getK (q :: qs) k = some q.2 := by simp [getK, List.find?_cons, e2]
        rw [this] at hw; cases hw; exact h.2
      · have : getK (q :: qs) k = some q.2 := by simp [getK, List.find?_cons, e2]
        rw [this] at hw; cases hw
    · have e2 : ¬ q.1 = k := by rw [← h.1]; exact e
      have : getK (q :: qs) k = getK qs k := by simp [getK, List.find?_cons, e2]
      rw [this, valV_neg e]
      exact ih
theorem RepKs.any {kvs : List (κ × V)} {kws : List (κ × W)} (r : RepKs Y F am kvs kws) (k : κ) : (kvs.any fun kv => decide (kv.1 = k)) = kws.any fun kv => decide (kv.1 = k) := by
  induction r with
  | nil => rfl
  | @cons p q ps qs h t ih => rw [List.any_cons, List.any_cons, ih, h.1]
theorem RepKs.map_set (k : κ) {v : V} {w : W} (h : RepW Y F am v w) : ∀ {kvs : List (κ × V)} {kws : List (κ × W)}, RepKs Y F am kvs kws → RepKs Y F am (kvs.map fun kv => if kv.1 = k then (kv.1, v) else kv) (kws.map fun kv => if kv.1 = k then (kv.1, w) else kv)
  | _, _, .nil => .nil
  | p :: ps, q :: qs, .cons e t => by
    rw [List.map_cons, List.map_cons]
    refine .cons ?_ (RepKs.map_set k h t)
    by_cases c : p.1 = k
    · rw [if_pos c, if_pos (by rw [← e.1]; exact c)]
      exact ⟨e.1, h⟩
    · rw [if_neg c, if_neg (by rw [← e.1]; exact c)]
      exact e
theorem RepKs.snoc (k : κ) {v : V} {w : W} (h : RepW Y F am v w) : ∀ {kvs : List (κ × V)} {kws : List (κ × W)}, RepKs Y F am kvs kws → RepKs Y F am (kvs ++ [(k, v)]) (kws ++ [(k, w)])
  | _, _, .nil => .cons ⟨rfl, h⟩ .nil
  | _, _, .cons e t => .cons e (RepKs.snoc k h t)
theorem RepKs.put {kvs : List (κ × V)} {kws : List (κ × W)} (r : RepKs Y F am kvs kws) (k : κ) {v : V} {w : W} (h : RepW Y F am v w) : RepKs Y F am (putK kvs k v) (setK kws k w) := by
  unfold putK setK
  rw [r.any k]
  split
  · exact r.map_set k h
  · exact r.snoc k h
theorem RepKs.length {kvs : List (κ × V)} {kws : List (κ × W)} (r : RepKs Y F am kvs kws) : kvs.length = kws.length := Paired.length r
end
def keyD : PyData → Option Key
  | .int i => some (.inl i)
  | .str x => some (.inr x)
  | _ => none
def keysD : List PyData → Option (List Key)
  | [] => some []
  | x :: r => match keyD x, keysD r with
    | some k, some ks => some (k :: ks)
    | _, _ => none
def keyW : W → Option Key
  | .d x => keyD x
  | _ => none
def keyT : W → Option (List Key)
  | .d (.tuple xs) => keysD xs
  | _ => none
theorem keyD_rep {K : PySem.W.Frag} {F : Hp} {v : V} {x : PyData} {k : Key} (r : RepD K F v x) (h : keyD x = some k) : v = kV k := by
  cases r with
  | int i => cases h; rfl
  | str z => cases h; rfl
  | _ => cases h
theorem keysD_rep {K : PySem.W.Frag} {F : Hp} : ∀ {vs : List V} {xs : List PyData} {ks : List Key}, RepDs K F vs xs → keysD xs = some ks → vs = ks.map kV
  | _, [], _, .nil, h => by cases h; rfl
  | _, x :: xs, ks, .cons r t, h => by
    unfold keysD at h
    cases e1 : keyD x with
    | none => rw [e1] at h; cases h
    | some k =>
      cases e2 : keysD xs with
      | none => rw [e1, e2] at h; cases h
      | some ks' =>
        rw [e1, e2] at h
        cases h
        rw [List.map_cons, keyD_rep r e1, keysD_rep t e2]
theorem keyW_rep {Y : Wd} {F : Hp} {am : List Addr} {v : V} {w : W} {k : Key} (r : RepW Y F am v w) (h : keyW w = some k) : v = kV k := by
  cases r with
  | d r => exact keyD_rep r h
  | p => cases h
  | scr => cases h
theorem keyT_rep {Y : Wd} {F : Hp} {am : List Addr} {v : V} {w : W} {ks : List Key} (r : RepW Y F am v w) (h : keyT w = some ks) : ∃ b, v = .ref b ∧ F b = some (.tup (ks.map kV)) := by
  cases r with
  | d r =>
    cases r with
    | tup h1 h2 => exact ⟨_, rfl, by rw [← keysD_rep h2 h]; exact h1⟩
    | _ => cases h
  | p => cases h
  | scr => cases h
/-- what a dict holds, the key tuple tracked or written -/
def DGetS (K : PySem.W.Frag) (H : Hp) (a : Addr) (y : V) (r : Option V) : Prop :=
  (∃ kvs k, Rd H a (.dK kvs) ∧ y = kV k ∧ r = valV kvs k) ∨ ∃ kvs k b, Rd H a (.dT kvs) ∧ y = .ref b ∧ SqT K H b (k.map kV) ∧ r = valV kvs k
theorem key_ofS {X : Cx} {pins : List (Addr × Obj)} {σ : L2.St} {H : Hp} {s : Shared} {b : Addr} {ks : List Key} (I : Inv X pins σ H s) (h : SqT X.K H b (ks.map kV)) : (tupleKind (mixKind X.prog X.w)).is s.heap ks b := by
  obtain ⟨its, r, ⟨o, h1, h2, n, h3⟩, _⟩ := I.tuple h
  exact ⟨o, its.toArray, n, h1, h2, h3, by simpa using items_are r⟩
section
variable {X : Cx} {pins : List (Addr × Obj)} {σ : L2.St} {H : Hp} {s : Shared} {a : Addr} {y v : V} {u : Value} {o : Option V} {E : Value → Shared → Prop}
theorem ds_getItem {Q : Value → Shared → Prop} (hu : X.A.units + 1 < cLine) (I : Inv X pins σ H s) (g : DGetS X.K H a y (some v)) (ry : RelV y u) (h : ∀ w' s', Inv X pins σ H s' → RelV v w' → Q w' s') :
    wpAny (model X.prog X.w) X.A (getItem (.ref a) u) Q E s := by
  rcases g with ⟨kvs, k, e, ey, l⟩ | ⟨kvs, k, b, e, ey, eb, l⟩
  · exact d_getItem hu I (.inl ⟨kvs, k, e, ey, l⟩) ry h
  · subst ey
    cases (show u = Value.ref b from ry)
    obtain ⟨z, hd, xs, rel, dd⟩ := dt_rd I.hok e
    obtain ⟨w', hw, rw'⟩ := RelO.some_of (v := v) (o := (atKey xs k).map (·.2)) (by rw [l]; exact rel.val k)
    obtain ⟨p, hp, hp2⟩ := Option.map_eq_some_iff.mp hw
    refine wpAny_getItem_heap (tupleKind_room_in1 hu) (key_ofS I eb) dd hp ?_
    rw [hp2]
    exact h w' _ (I.tok _) rw'
theorem ds_in {Q : Value → Shared → Prop} (hu : X.A.units + 1 < cLine) (I : Inv X pins σ H s) (g : DGetS X.K H a y o) (ry : RelV y u) (h : ∀ s', Inv X pins σ H s' → Q (.bool o.isSome) s') :
    wpAny (model X.prog X.w) X.A (compareOp .In u (.ref a)) Q E s := by
  rcases g with ⟨kvs, k, e, ey, l⟩ | ⟨kvs, k, b, e, ey, eb, l⟩
  · exact d_in hu I (.inl ⟨kvs, k, e, ey, l⟩) ry h
  · subst ey
    cases (show u = Value.ref b from ry)
    obtain ⟨z, hd, xs, rel, dd⟩ := dt_rd I.hok e
    refine wpAny_in_heap (tupleKind_room_in1 hu) (key_ofS I eb) hd dd ?_
    have q := (rel.val k).isSome_eq
    rw [Option.isSome_map] at q
    rw [← q, ← l]
    exact h _ (I.tok _)
theorem ds_notIn {Q : Value → Shared → Prop} (hu : X.A.units + 1 < cLine) (I : Inv X pins σ H s) (g : DGetS X.K H a y o) (ry : RelV y u) (h : ∀ s', Inv X pins σ H s' → Q (.bool (!o.isSome)) s') :
    wpAny (model X.prog X.w) X.A (compareOp .NotIn u (.ref a)) Q E s := by
  rcases g with ⟨kvs, k, e, ey, l⟩ | ⟨kvs, k, b, e, ey, eb, l⟩
  · exact d_notIn hu I (.inl ⟨kvs, k, e, ey, l⟩) ry h
  · subst ey
    cases (show u = Value.ref b from ry)
    obtain ⟨z, hd, xs, rel, dd⟩ := dt_rd I.hok e
    refine wpAny_notIn_heap (tupleKind_room_in1 hu) (key_ofS I eb) hd dd ?_
    have q := (rel.val k).isSome_eq
    rw [Option.isSome_map] at q
    rw [← q, ← l]
    exact h _ (I.tok _)
theorem ds_typeIs (I : Inv X pins σ H s) (g : DGetS X.K H a y o) : s.TypeIs (.ref a) "dict" := by
  rcases g with ⟨kvs, k, e, _, _⟩ | ⟨kvs, k, b, e, _, _, _⟩
  · exact dict_typeIs I (y := kV k) (.inl ⟨kvs, k, e, rfl, rfl⟩)
  · obtain ⟨_, _, xs, _, o, es, ep, h1, h2, _⟩ := dt_rd I.hok e
    exact ⟨o, h1, h2.1⟩
end
/-- d[y], y in d by values -/
abbrev rIxD (K : PySem.W.Frag) : R2 := fun x y H Q => ∃ a v, x = .ref a ∧ DGetS K H a y (some v) ∧ Q v H
abbrev rInDict (K : PySem.W.Frag) (neg : Bool) : R2 := fun y x H Q => ∃ a o, x = .ref a ∧ DGetS K H a y o ∧ Q (.bl (if neg then !o.isSome else o.isSome)) H
section
variable {X : Cx}
theorem ix_dict (hu : X.A.units + 1 < cLine) : IxR X (rIxD X.K) := by
  intro value slice pins s σ H x y v u Q I rx ry h hs
  obtain ⟨a, z, rfl, g, q⟩ := h
  cases rx
  exact tail_any (ds_typeIs I g) PySem.F.slot_dict_getitem.lookup (ds_getItem hu I g ry fun w' s3 I3 rw' => ⟨z, H, I3, rw', q⟩) hs
theorem op_inDict (hu : X.A.units + 1 < cLine) : OpR X (compareOp .In) (rInDict X.K false) := by
  intro pins s σ H y x u v Q I ry rx h
  obtain ⟨a, o, rfl, g, q⟩ := h
  cases rx
  exact ds_in hu I g ry fun s' I' => ⟨.bl o.isSome, H, I', rfl, q⟩
theorem op_notInDict (hu : X.A.units + 1 < cLine) : OpR X (compareOp .NotIn) (rInDict X.K true) := by
  intro pins s σ H y x u v Q I ry rx h
  obtain ⟨a, o, rfl, g, q⟩ := h
  cases rx
  exact ds_notIn hu I g ry fun s' I' => ⟨.bl (!o.isSome), H, I', rfl, q⟩
end
/-- the value under a key -/
def dget (M : Store) (n : Nat) (k : W) : Option (Option W) := match M[n]? with
  | some (.dK kws) => (keyW k).map (getK kws)
  | some (.dT kws) => (keyT k).map (getK kws)
  | _ => none
theorem Rep.dget {Y : Wd} {F : Hp} {am : List Addr} {M : Store} {H : Hp} (rp : Rep Y F am M H) {n : Nat} {a : Addr} (ha : am[n]? = some a) {y : V} {k : W} (ry : RepW Y F am y k) {o : Option W} (h : dget M n k = some o) :
    ∃ r, DGetS Y.K H a y r ∧ (∀ w, o = some w → ∃ v, r = some v ∧ RepW Y F am v w) ∧ (o = none → r = none) := by
  unfold Pu.dget at h
  cases e : M[n]? with
  | none => rw [e] at h; cases h
  | some ob =>
    cases ob with
    | lst _ => rw [e] at h; cases h
    | dK kws =>
      rw [e] at h
      obtain ⟨kvs, h1, h2⟩ := rp.dK ha e
      cases e2 : keyW k with
      | none => simp [e2] at h
      | some kk =>
        simp [e2] at h
        subst h
        exact ⟨valV kvs kk, .inl ⟨kvs, kk, .inl h1, keyW_rep ry e2, rfl⟩, (h2.val kk).1, (h2.val kk).2⟩
    | dT kws =>
      rw [e] at h
      obtain ⟨kvs, h1, h2⟩ := rp.dT ha e
      cases e2 : keyT k with
      | none => simp [e2] at h
      | some kk =>
        simp [e2] at h
        subst h
        obtain ⟨b, h3, h4⟩ := keyT_rep ry e2
        exact ⟨valV kvs kk, .inr ⟨kvs, kk, b, .inl h1, h3, rp.seqT h4, rfl⟩, (h2.val kk).1, (h2.val kk).2⟩
/-! ### in -/
def flatD : PyData → Bool
  | .none => true
  | .bool _ => true
  | .int _ => true
  | .str _ => true
  | _ => false
def inD (x : PyData) (ys : List PyData) : Bool := ys.any fun y => PyData.eqv y x
/-- in a sequence: flat things in anything, data in a list -/
def inSeq (l : Bool) (x : PyData) (ys : List PyData) : Option Bool :=
  if (flatD x && ys.all flatD) = true then some (inD x ys) else if (l && SeqAt.shaped x && SeqAt.shaped (.list ys)) = true then some (inD x ys) else none
def hasW (w u : W) (M : Store) : Option Bool := match u with
  | .d (.str z) => match w with
    | .d (.str c) => match c.cps.toList with
      | [n] => some (decide (n ∈ z.cps.toList))
      | _ => none
    | _ => none
  | .d (.tuple ys) => (datOf M w).bind fun x => inSeq false x ys
  | .d (.list ys) => (datOf M w).bind fun x => inSeq true x ys
  | .p n => match M[n]? with
    | some (.lst us) => (datOf M w).bind fun x => (dats us).bind fun ys => inSeq true x ys
    | _ => (dget M n w).map fun o => o.isSome
  | _ => none
def pIn (w u : W) (M : Store) : R W := retB (hasW w u M) M
def pNotIn (w u : W) (M : Store) : R W := retB ((hasW w u M).map (!·)) M
abbrev rInA (K : PySem.W.Frag) (neg : Bool) : R2 := fun x y H Q => (∃ (c : Nat) (z : Str), x = .str ⟨#[c]⟩ ∧ y = .str z ∧ Q (.bl (if neg then !decide (c ∈ z.cps.toList) else decide (c ∈ z.cps.toList))) H) ∨ rIn K neg x y H Q ∨
  (∃ d ds, Dp K H x d ∧ Dp K H y (.list ds) ∧ SeqAt.shaped d = true ∧ SeqAt.shaped (.list ds) = true ∧ Q (.bl (if neg then !(ds.any fun z => PyData.eqv z d) else ds.any fun z => PyData.eqv z d)) H) ∨ rInDict K neg x y H Q
theorem or_in {X : Cx} (hu : X.A.units + 65 < cLine) : OpR X (compareOp .In) (rInA X.K false) := op_in_sign.or (op_in_seq.or ((op_inD hu).or (op_inDict (by omega))))
theorem or_notIn {X : Cx} (hu : X.A.units + 65 < cLine) : OpR X (compareOp .NotIn) (rInA X.K true) := op_notIn_sign.or (op_notIn_seq.or ((op_notInD hu).or (op_notInDict (by omega))))
theorem str_one {c : Str} {n : Nat} (h : c.cps.toList = [n]) : c = ⟨#[n]⟩ := by
  cases c with
  | mk a => cases a with | mk l => simp at h; rw [h]
theorem flatD_rep {K : PySem.W.Frag} {F : Hp} {v : V} {x : PyData} (r : Dp K F v x) : flatV v = flatD x := by
  cases r <;> rfl
theorem eqV_rep {K : PySem.W.Frag} {F : Hp} {v u : V} {x y : PyData} (r : Dp K F v x) (q : Dp K F u y) (hx : flatD x = true) (hy : flatD y = true) : eqV v u = PyData.eqv x y := by
  cases r <;> cases q <;> first | exact absurd hx Bool.false_ne_true | exact absurd hy Bool.false_ne_true | simp only [eqV, PyData.eqv]
theorem inV_rep {K : PySem.W.Frag} {F : Hp} {v : V} {x : PyData} (r : Dp K F v x) (hx : flatD x = true) : ∀ {us : List V} {ys : List PyData}, DpAll K F us ys → ys.all flatD = true → us.all flatV = true ∧ inV v us = inD x ys
  | _, _, .nil, _ => ⟨rfl, rfl⟩
  | _, y :: ys, .cons q t, h => by
    rw [List.all_cons, Bool.and_eq_true] at h
    obtain ⟨h1, h2⟩ := inV_rep r hx t h.2
    refine ⟨by rw [List.all_cons, h1, flatD_rep q, h.1]; rfl, ?_⟩
    show (List.any _ _) = (List.any _ _)
    rw [List.any_cons, List.any_cons, eqV_rep q r h.1 hx]
    unfold inV inD at h2
    rw [h2]
theorem inSeq_run {K : PySem.W.Frag} {H : Hp} {v : V} {x : PyData} {a : Addr} {us : List V} {ys : List PyData} {l neg b : Bool} {Q : VK} (r : Dp K H v x) (q : DpAll K H us ys) (hs : SqL K H a us ∨ (l = false ∧ SqT K H a us)) (h : inSeq l x ys = some b)
    (hQ : Q (.bl (if neg then !b else b)) H) : rInA K neg v (.ref a) H Q := by
  unfold inSeq at h
  split at h
  · rename_i hz
    rw [Bool.and_eq_true] at hz
    cases h
    obtain ⟨h1, h2⟩ := inV_rep r hz.1 q hz.2
    refine .inr (.inl ⟨a, us, rfl, hs.elim .inl (fun z => .inr z.2), by rw [flatD_rep r]; exact hz.1, h1, ?_⟩)
    rw [h2]
    exact hQ
  · split at h
    · rename_i hz
      simp only [Bool.and_eq_true] at hz
      cases h
      rcases hs with hs | ⟨e, _⟩
      · exact .inr (.inr (.inl ⟨x, ys, r, .lst hs q, hz.1.2, hz.2, hQ⟩))
      · rw [e] at hz; exact absurd hz.1.1 Bool.false_ne_true
    · cases h
theorem hasW_run {Y : Wd} {F : Hp} {am : List Addr} {M : Store} {H : Hp} {v y : V} {w u : W} {b neg : Bool} {Q : VK} (rp : Rep Y F am M H) (rw' : RepW Y F am v w) (ru : RepW Y F am y u) (h : hasW w u M = some b) (hQ : Q (.bl (if neg then !b else b)) H) : rInA Y.K neg v y H Q := by
  unfold hasW at h
  split at h
  · rename_i z
    split at h
    · rename_i c
      split at h
      · rename_i n e
        cases h
        have e2 := rw'.str
        rw [str_one e] at e2
        exact .inl ⟨n, z, e2, ru.str, hQ⟩
      · cases h
    · cases h
  · obtain ⟨a, us, rfl, h1, h2⟩ := ru.tup
    obtain ⟨x, hx, h3⟩ := Option.bind_eq_some_iff.mp h
    exact inSeq_run (rp.dat rw' hx) (h2.dp rp.fz) (.inr ⟨rfl, rp.seqT h1⟩) h3 hQ
  · obtain ⟨a, us, rfl, h1, h2⟩ := ru.lst
    obtain ⟨x, hx, h3⟩ := Option.bind_eq_some_iff.mp h
    exact inSeq_run (rp.dat rw' hx) (h2.dp rp.fz) (.inl (.inl (.inl (rp.fz _ _ h1)))) h3 hQ
  · rename_i n
    cases ru with
    | p ha =>
      rename_i a
      have dd : (dget M n w).map (fun o => o.isSome) = some b → rInA Y.K neg v (.ref a) H Q := by
        intro h
        cases e : dget M n w with
        | none => rw [e] at h; cases h
        | some o =>
          rw [e] at h
          cases h
          obtain ⟨r, g, g1, g2⟩ := rp.dget ha rw' e
          refine .inr (.inr (.inr ⟨a, r, rfl, g, ?_⟩))
          have e3 : r.isSome = o.isSome := by
            cases o with
            | none => rw [g2 rfl] <;> rfl
            | some w => obtain ⟨v, e4, _⟩ := g1 w rfl; rw [e4]; rfl
          rw [e3]
          exact hQ
      split at h
      · rename_i us e
        obtain ⟨vs, h1, h2⟩ := rp.lst ha e
        obtain ⟨x, hx, h3⟩ := Option.bind_eq_some_iff.mp h
        obtain ⟨ys, hy, h4⟩ := Option.bind_eq_some_iff.mp h3
        rw [dats_eq hy] at h2
        exact inSeq_run (rp.dat rw' hx) ((repDs_of h2).dp rp.fz) (.inl (.inl (.inl h1))) h4 hQ
      · exact dd h
  · cases h
theorem s_in {Y : Wd} : OpS Y pIn (rInA Y.K false) := by
  intro F am M H v y w u Wx Q rp rw ru h
  unfold pIn retB at h
  cases e : hasW w u M with
  | none => rw [e] at h; exact h.elim
  | some b => rw [e] at h; exact hasW_run rp rw ru e (h.ret rp _ (.d (.bl _)))
theorem s_notIn {Y : Wd} : OpS Y pNotIn (rInA Y.K true) := by
  intro F am M H v y w u Wx Q rp rw ru h
  unfold pNotIn retB at h
  cases e : hasW w u M with
  | none => rw [e] at h; exact h.elim
  | some b => rw [e] at h; exact hasW_run rp rw ru e (h.ret rp _ (.d (.bl _)))
/-! ### a[b] -/
def retW (o : Option W) (M : Store) : R W := match o with
  | some w => .ok w M
  | none => .bad
def ixW (w u : W) (M : Store) : Option W := match u with
  | .d (.int i) => match w with
    | .d (.str z) => if z.length ≤ sizeLine then (atI z.cps.toList i).map fun c => .d (.str ⟨#[c]⟩) else none
    | w => match lstOf M w with
      | some ws => atI ws i
      | none => match w with
        | .p n => (dget M n u).bind id
        | _ => none
  | u => match w with
    | .p n => (dget M n u).bind id
    | _ => none
def pIx (w u : W) (M : Store) : R W := retW (ixW w u M) M
abbrev rIxA (K : PySem.W.Frag) : R2 := fun x y H Q => rIx K x y H Q ∨ rIxD K x y H Q
theorem or_ix {X : Cx} (hu : X.A.units + 1 < cLine) : IxR X (rIxA X.K) := ix_seq.or (ix_dict hu)
theorem atI_rep {α β : Type} {P : α → β → Prop} {xs : List α} {ys : List β} (hl : xs.length = ys.length) (hg : ∀ (j : Nat) y, ys[j]? = some y → ∃ x, xs[j]? = some x ∧ P x y) {i : Int} {y : β} (h : atI ys i = some y) : ∃ x, atI xs i = some x ∧ P x y := by
  unfold atI at h ⊢
  rw [hl]
  cases e : ixN ys.length i with
  | none => rw [e] at h; cases h
  | some j => rw [e] at h; exact hg j y h
theorem ixW_run {Y : Wd} {F : Hp} {am : List Addr} {M : Store} {H : Hp} {v y : V} {w u z : W} {Q : VK} (rp : Rep Y F am M H) (rw' : RepW Y F am v w) (ru : RepW Y F am y u) (h : ixW w u M = some z) (hQ : ∀ v', RepW Y F am v' z → Q v' H) : rIxA Y.K v y H Q := by
  have dd : ∀ n a, am[n]? = some a → (dget M n u).bind id = some z → rIxA Y.K (.ref a) y H Q := by
    intro n a ha h
    obtain ⟨o, e1, e2⟩ := Option.bind_eq_some_iff.mp h
    obtain ⟨r, g, g1, g2⟩ := rp.dget ha ru e1
    obtain ⟨v', e3, e4⟩ := g1 z e2
    rw [e3] at g
    exact .inr ⟨a, v', rfl, g, hQ v' e4⟩
  have pp : ∀ n, w = .p n → (dget M n u).bind id = some z → rIxA Y.K v y H Q := by
    intro n e h1
    rw [e] at rw'
    cases rw' with
    | p ha => exact dd n _ ha h1
  unfold ixW at h
  split at h
  · rename_i i
    split at h
    · split at h
      · rename_i x hz
        obtain ⟨c, h1, h2⟩ := Option.map_eq_some_iff.mp h
        subst h2
        exact .inl (.inr (.inr ⟨_, i, c, rw'.str, ru.int, hz, h1, hQ _ (.d (.str _))⟩))
      · cases h
    · split at h
      · rename_i ws e
        obtain ⟨a, vs, rfl, hs, r⟩ := rp.seq rw' e
        obtain ⟨x, h1, h2⟩ := atI_rep r.length (fun j y h => r.get h) h
        rcases hs with hs | hs
        · exact .inl (.inl ⟨a, vs, i, x, rfl, ru.int, hs, h1, hQ x h2⟩)
        · exact .inl (.inr (.inl ⟨a, vs, i, x, rfl, ru.int, hs, h1, hQ x h2⟩))
      · split at h
        · exact pp _ rfl h
        · cases h
  · split at h
    · exact pp _ rfl h
    · cases h
theorem s_ix {Y : Wd} : OpS Y pIx (rIxA Y.K) := by
  intro F am M H v y w u Wx Q rp rw ru h
  unfold pIx retW at h
  cases e : ixW w u M with
  | none => rw [e] at h; exact h.elim
  | some z => rw [e] at h; exact ixW_run rp rw ru e (h.ret rp)
end Pu
end
section
set_option linter.all false
set_option maxRecDepth 100000
set_option maxHeartbeats 4000000
/-! PuE: argument lists, displays, slices, calls of what is built in, methods. -/
namespace Pu
open PySem PySem.Spec PyProof.Rows L2

/-! ### argument lists, displays -/
def aNil : PAx := fun _ M => .ok [] M
def aCons (f : PEx) (r : PAx) : PAx := fun ρ M => (f ρ M).bind fun w M1 => (r ρ M1).bind fun ws M2 => .ok (w :: ws) M2
def mkTup (ws : List W) (M : Store) : R W := match dats ws with
  | some ds => if ds.length ≤ sizeLine then .ok (.d (.tuple ds)) M else .bad
  | none => .bad
def mkLst (st : Bool) (ws : List W) (M : Store) : R W := if ws.length ≤ sizeLine then newW st ws M else .bad
def xTup (as : PAx) : PEx := fun ρ M => (as ρ M).bind mkTup
def xLst (st : Bool) (as : PAx) : PEx := fun ρ M => (as ρ M).bind (mkLst st)
section
variable {X : Cx} {Y : Wd} {Wx : WX} {e : Expr} {es : List Expr} {f : PEx} {as : PAx} {pos : Pos}
theorem pa_n : PA X [] (xA Y Wx aNil) := pa_nil.to fun σ H Q h => by
  obtain ⟨F, am, M, ρ, rp, re, h⟩ := h
  exact Aft.ret rp h [] .nil
theorem pa_c (ha : PE X e (xT Y Wx f)) (hr : PA X es (xA Y Wx as)) (hs : starEach (e :: es) X.env = (false, eval e X.env) :: starEach es X.env := by rfl) : PA X (e :: es) (xA Y Wx (aCons f as)) := (pa_cons ha hr hs).to fun σ H Q h => by
  obtain ⟨F, am, M, ρ, rp, re, h⟩ := h
  refine ⟨F, am, M, ρ, rp, re, h.bind.imp fun F1 am1 M1 w H1 x1 rp1 h1 v q => ?_⟩
  refine ⟨F1, am1, M1, ρ, rp1, re.ext x1, h1.bind.imp fun F2 am2 M2 ws H2 x2 rp2 h2 vs q2 => ?_⟩
  exact Aft.ret rp2 h2 (v :: vs) (.cons (q.ext x2) q2)
theorem px_tup {k : Nat} (h : PA X es (xA Y Wx as)) : PE X (.Tuple es k pos) (xT Y Wx (xTup as)) := (pe_tup h).to fun σ H Q h => by
  obtain ⟨F, am, M, ρ, rp, re, h⟩ := h
  refine ⟨F, am, M, ρ, rp, re, h.bind.imp fun F1 am1 M1 ws H1 x1 rp1 h1 vs q => ?_⟩
  unfold mkTup at h1
  cases e : dats ws with
  | none => rw [e] at h1; exact h1.elim
  | some ds =>
    rw [e] at h1
    simp only at h1
    split at h1
    · rename_i hz
      have q' : RepWs Y F1 am1 vs (ds.map .d) := by rw [← dats_eq e]; exact q
      exact ⟨by rw [(repDs_of q').length]; exact hz, fun p hp => Aft.newT rp1 hp (repDs_of q') h1⟩
    · exact h1.elim
theorem px_lst (st : Bool) (h : PA X es (xA Y Wx as)) : PE X (.List es pos) (xT Y Wx (xLst st as)) := (pe_lst h).to fun σ H Q h => by
  obtain ⟨F, am, M, ρ, rp, re, h⟩ := h
  refine ⟨F, am, M, ρ, rp, re, h.bind.imp fun F1 am1 M1 ws H1 x1 rp1 h1 vs q => ?_⟩
  unfold mkLst at h1
  split at h1
  · rename_i hz
    exact ⟨by rw [q.length]; exact hz, fun p hp => Aft.newW rp1 hp q h1⟩
  · exact h1.elim
/-- {} -/
def xD0K : PEx := fun _ M => .ok (.p M.length) (M ++ [.dK []])
def xD0T : PEx := fun _ M => .ok (.p M.length) (M ++ [.dT []])
theorem px_d0K : PE X (.Dict [] [] pos) (xT Y Wx xD0K) := pe_dnewK.to fun σ H Q h => by
  obtain ⟨F, am, M, ρ, rp, re, h⟩ := h
  exact fun p hp => Aft.newP rp hp (.dK .nil) h
theorem px_d0T : PE X (.Dict [] [] pos) (xT Y Wx xD0T) := pe_dnewT.to fun σ H Q h => by
  obtain ⟨F, am, M, ρ, rp, re, h⟩ := h
  exact fun p hp => Aft.newP rp hp (.dT .nil) h
end
/-! ### slices -/
def cutG {α : Type} (xs : List α) (lo hi : Option Int) : List α := (xs.drop (HT.sIx xs.length 0 lo)).take (HT.sIx xs.length xs.length hi - HT.sIx xs.length 0 lo)
abbrev POx := Env → Store → R (Option Int)
def oNone : POx := fun _ M => .ok none M
def oSome (f : PEx) : POx := fun ρ M => (f ρ M).bind fun w M1 => match w with
  | .d (.int i) => .ok (some i) M1
  | _ => .bad
def cutW (st : Bool) (w : W) (lo hi : Option Int) (M : Store) : R W := match w with
  | .d (.str z) => if z.length ≤ sizeLine then .ok (.d (.str (cutS z lo hi))) M else .bad
  | .d (.tuple xs) => .ok (.d (.tuple (cutG xs lo hi))) M
  | .scr => .bad
  | w => match isLst M w with
    | some ws => newW st (cutG ws lo hi) M
    | none => .bad
def xSl (st : Bool) (f : PEx) (lo hi : POx) : PEx := fun ρ M => (f ρ M).bind fun w M1 => (lo ρ M1).bind fun l M2 => (hi ρ M2).bind fun u M3 => cutW st w l u M3
def xO (Y : Wd) (Wx : WX) (f : POx) : TO := fun σ H Q => At Y σ H fun F am M ρ => Aft Y (fun c d H' => Wx c d σ H') F am H (f ρ M) fun _ _ _ o H' => Q o H'
theorem _root_.L2.PO.to {X : Cx} {e : Option Expr} {t t' : TO} (h : PO X e t) (i : ∀ σ H Q, t' σ H Q → t σ H Q) : PO X e t' := ⟨fun pins s σ H Q I q => h.run pins s σ H Q I (i σ H Q q)⟩
abbrev rSlAll (K : PySem.W.Frag) : V → Option Int → Option Int → Hp → VK → Prop := fun x lo hi H Q => rSlS x lo hi H Q ∨ rSlA K x lo hi H Q ∨ rSlL K x lo hi H Q
theorem sl_all {X : Cx} : SlR X (rSlAll X.K) := sl_str.or (sl_tupA.or sl_list)
section
variable {X : Cx} {Y : Wd} {Wx : WX} {e : Expr} {f : PEx} {pos p2 : Pos}
theorem po_n : PO X none (xO Y Wx oNone) := po_none.to fun σ H Q h => by
  obtain ⟨F, am, M, ρ, rp, re, h⟩ := h
  exact Aft.ret rp h
theorem po_s (h : PE X e (xT Y Wx f)) : PO X (some e) (xO Y Wx (oSome f)) := (po_some h).to fun σ H Q h => by
  obtain ⟨F, am, M, ρ, rp, re, h⟩ := h
  refine ⟨F, am, M, ρ, rp, re, h.bind.imp fun F1 am1 M1 w H1 x1 rp1 h1 v q => ?_⟩
  cases w with
  | d x =>
    cases x with
    | int i => exact ⟨i, q.int, Aft.ret rp1 h1⟩
    | _ => exact h1.elim
  | _ => exact h1.elim
theorem RepDs.cut {K : PySem.W.Frag} {F : Hp} {vs : List V} {xs : List PyData} (r : RepDs K F vs xs) (lo hi : Option Int) : RepDs K F (cutV vs lo hi) (cutG xs lo hi) := by
  unfold cutV cutG
  rw [r.length]
  exact (r.drop _).take _
theorem RepWs.cut {F : Hp} {am : List Addr} {vs : List V} {xs : List W} (r : RepWs Y F am vs xs) (lo hi : Option Int) : RepWs Y F am (cutV vs lo hi) (cutG xs lo hi) := by
  unfold cutV cutG
  rw [r.length]
  exact (r.drop _).take _
theorem cutG_whole {α : Type} {xs : List α} {lo hi : Option Int} (h : HT.sIx xs.length 0 lo = 0 ∧ HT.sIx xs.length xs.length hi = xs.length) : cutG xs lo hi = xs := by
  unfold cutG
  rw [h.1, h.2]
  simp
theorem cutW_run {st : Bool} {F : Hp} {am : List Addr} {M : Store} {H : Hp} {v : V} {w : W} {lo hi : Option Int} {Wx : Value → Option Addr → Hp → Prop} {Q : VK} (rp : Rep Y F am M H) (rw' : RepW Y F am v w)
    (h : Aft Y Wx F am H (cutW st w lo hi M) fun F' am' _ z H' => ∀ v, RepW Y F' am' v z → Q v H') : rSlAll Y.K v lo hi H Q := by
  unfold cutW at h
  split at h
  · split at h
    · rename_i hz
      exact .inl ⟨_, rw'.str, hz, h.ret rp _ (.d (.str _))⟩
    · exact h.elim
  · obtain ⟨a, vs, rfl, h1, r1⟩ := rw'.tup
    refine .inr (.inl ⟨a, vs, rfl, rp.seqT h1, fun c => ?_, fun c p hp => Aft.newT rp hp (r1.cut lo hi) h⟩)
    rw [cutG_whole (by rw [← r1.length]; exact c)] at h
    exact h.ret rp _ (.d (.tup h1 r1))
  · exact h.elim
  · cases e : isLst M w with
    | none => rw [e] at h; exact h.elim
    | some ws =>
      rw [e] at h
      obtain ⟨a, vs, rfl, ha, r1⟩ := rp.isLst rw' e
      exact .inr (.inr ⟨a, vs, rfl, .inl (.inl ha), fun p hp => Aft.newW rp hp (r1.cut lo hi) h⟩)
theorem px_sl (st : Bool) {lo hi : Option Expr} {l u : POx} (he : PE X e (xT Y Wx f)) (hl : PO X lo (xO Y Wx l)) (hu : PO X hi (xO Y Wx u)) (hK : X.K = Y.K := by rfl) : PE X (.Subscript e (.Slice lo hi none p2) pos) (xT Y Wx (xSl st f l u)) := (pe_slice sl_all he hl hu).to fun σ H Q h => by
  obtain ⟨F, am, M, ρ, rp, re, h⟩ := h
  refine ⟨F, am, M, ρ, rp, re, h.bind.imp fun F1 am1 M1 w H1 x1 rp1 h1 v q => ?_⟩
  refine ⟨F1, am1, M1, ρ, rp1, re.ext x1, h1.bind.imp fun F2 am2 M2 ol H2 x2 rp2 h2 => ?_⟩
  refine ⟨F2, am2, M2, ρ, rp2, (re.ext x1).ext x2, h2.bind.imp fun F3 am3 M3 ou H3 x3 rp3 h3 => ?_⟩
  rw [hK]
  exact cutW_run rp3 ((q.ext x2).ext x3) h3
end
/-! ### calls of what is built in, by values -/
def xCall (p : List W → Store → R W) (as : PAx) : PEx := fun ρ M => (as ρ M).bind p
def CallS (Y : Wd) (p : List W → Store → R W) (r : List V → Hp → VK → Prop) : Prop := ∀ (F : Hp) (am : List Addr) (M : Store) (H : Hp) (vs : List V) (ws : List W) (Wx : Value → Option Addr → Hp → Prop) (Q : VK), Rep Y F am M H → RepWs Y F am vs ws →
  Aft Y Wx F am H (p ws M) (fun F' am' _ z H' => ∀ v, RepW Y F' am' v z → Q v H') → r vs H Q
section
variable {X : Cx} {Y : Wd} {Wx : WX} {e : Expr} {es : List Expr} {as : PAx} {pos p : Pos} {x : Str} {id T : String} {r : List V → Hp → VK → Prop} {q : List W → Store → R W}
theorem call_run (s : CallS Y q r) {σ : L2.St} {H : Hp} {Q : VK} (h : xT Y Wx (xCall q as) σ H Q) : tCB r (xA Y Wx as) σ H Q := by
  obtain ⟨F, am, M, ρ, rp, re, h⟩ := h
  exact ⟨F, am, M, ρ, rp, re, h.bind.imp fun F1 am1 M1 ws H1 x1 rp1 h1 vs q => s F1 am1 M1 H1 vs ws _ Q rp1 q h1⟩
theorem px_callB (s : CallS Y q r) (hc : CallR X (.builtin id) r) (hg : Gl X x) (hm : X.mg x = none) (hv : bootBuiltins x = some (.builtin id)) (ha : PA X (e :: es) (xA Y Wx as)) (hn : x ≠ "__name__" := by decide +kernel) (hdb : (x == ("__debug__" : Str)) = false := by decide +kernel)
    (he : starEach (e :: es) X.env = (false, eval e X.env) :: starEach es X.env := by rfl) (hpl : (backTo pos (starEach es X.env)).any (·.1) = false := by rfl) : PE X (.Call (.Name x p) (e :: es) [] pos) (xT Y Wx (xCall q as)) :=
  (pe_callB hc hg hm hv ha hn hdb he hpl).to fun _ _ _ h => call_run s h
theorem px_callT (s : CallS Y q r) (hc : CallR X (.type T) r) (hg : Gl X x) (hm : X.mg x = none) (hv : bootBuiltins x = some (.type T)) (ha : PA X (e :: es) (xA Y Wx as)) (hn : x ≠ "__name__" := by decide +kernel) (hdb : (x == ("__debug__" : Str)) = false := by decide +kernel)
    (he : starEach (e :: es) X.env = (false, eval e X.env) :: starEach es X.env := by rfl) (hpl : (backTo pos (starEach es X.env)).any (·.1) = false := by rfl) : PE X (.Call (.Name x p) (e :: es) [] pos) (xT Y Wx (xCall q as)) :=
  (pe_callTy hc hg hm hv ha hn hdb he hpl).to fun _ _ _ h => call_run s h
end
section
variable {Y : Wd} {F : Hp} {am : List Addr}
theorem RepWs.one {vs : List V} {w : W} (r : RepWs Y F am vs [w]) : ∃ v, vs = [v] ∧ RepW Y F am v w := by
  cases r with | cons h t => cases t; exact ⟨_, rfl, h⟩
theorem RepWs.two {vs : List V} {w u : W} (r : RepWs Y F am vs [w, u]) : ∃ v y, vs = [v, y] ∧ RepW Y F am v w ∧ RepW Y F am y u := by
  cases r with | cons h t => cases t with | cons h2 t2 => cases t2; exact ⟨_, _, rfl, h, h2⟩
end
/-- len -/
def lenW (M : Store) (w : W) : Option Nat := match w with
  | .d (.str z) => if z.length ≤ sizeLine then some z.length else none
  | .p n => match M[n]? with
    | some (.lst ws) => some ws.length
    | some (.dK ws) => some ws.length
    | some (.dT ws) => some ws.length
    | none => none
  | w => (lstOf M w).map (·.length)
def pLen (ws : List W) (M : Store) : R W := match ws with
  | [w] => match lenW M w with
    | some n => .ok (.d (.int (n : Int))) M
    | none => .bad
  | _ => .bad
abbrev rLenA (K : PySem.W.Frag) : List V → Hp → VK → Prop := fun xs H Q => (∃ x n, xs = [x] ∧ LenV K x H n ∧ Q (.int (n : Nat)) H) ∨ (∃ a kvs, xs = [V.ref a] ∧ H a = some (.dK kvs) ∧ Q (.int kvs.length) H) ∨ rLenT xs H Q
theorem or_len {X : Cx} : CallR X (.builtin "len") (rLenA X.K) := call_len.or (call_lenD.or call_len_dT)
theorem s_len {Y : Wd} : CallS Y pLen (rLenA Y.K) := by
  intro F am M H vs ws Wx Q rp rs h
  unfold pLen at h
  split at h
  · rename_i w
    obtain ⟨v, rfl, r⟩ := rs.one
    cases e : lenW M w with
    | none => rw [e] at h; exact h.elim
    | some n =>
      rw [e] at h
      have fin := h.ret rp _ (.d (.int _))
      have seq : (lstOf M w).map (·.length) = some n → rLenA Y.K [v] H Q := fun e => by
        obtain ⟨us, e1, e2⟩ := Option.map_eq_some_iff.mp e
        obtain ⟨a, zs, rfl, hs, r2⟩ := rp.seq r e1
        refine .inl ⟨_, n, rfl, ?_, fin⟩
        rcases hs with hs | hs
        · exact .inl ⟨zs, hs, by rw [r2.length]; exact e2.symm⟩
        · exact .inr ⟨zs, hs, by rw [r2.length]; exact e2.symm⟩
      unfold lenW at e
      split at e
      · split at e
        · rename_i hz
          cases e
          refine .inl ⟨_, _, rfl, ?_, fin⟩
          rw [r.str]
          exact ⟨hz, rfl⟩
        · cases e
      · rename_i m
        cases r with
        | p ha =>
          split at e
          · rename_i us e2
            cases e
            obtain ⟨zs, h1, h2⟩ := rp.lst ha e2
            exact .inl ⟨_, _, rfl, .inl ⟨zs, .inl (.inl h1), h2.length.symm⟩, fin⟩
          · rename_i us e2
            cases e
            obtain ⟨zs, h1, h2⟩ := rp.dK ha e2
            exact .inr (.inl ⟨_, zs, rfl, h1, by rw [h2.length]; exact fin⟩)
          · rename_i us e2
            cases e
            obtain ⟨zs, h1, h2⟩ := rp.dT ha e2
            exact .inr (.inr ⟨_, zs, rfl, h1, by rw [h2.length]; exact fin⟩)
          · cases e
      · exact seq e
  · exact h.elim
/-- int(x), str(x), abs(x) -/
def pInt (ws : List W) (M : Store) : R W := match ws with
  | [.d (.int i)] => .ok (.d (.int i)) M
  | [.d (.bool b)] => .ok (.d (.int (if b then 1 else 0))) M
  | [.d (.str a)] => match PySem.intText? a with
    | some n => if a.length ≤ 640 then .ok (.d (.int n)) M else .bad
    | none => .bad
  | _ => .bad
abbrev rIntA : List V → Hp → VK → Prop := fun xs H Q => ((∃ i, xs = [V.int i] ∧ Q (.int i) H) ∨ ∃ k, xs = [.bl k] ∧ Q (.int (if k then 1 else 0)) H) ∨ (∃ a n, xs = [.str a] ∧ PySem.intText? a = some n ∧ a.length ≤ 640 ∧ Q (.int n) H)
theorem or_int {X : Cx} : CallR X (.type "int") rIntA := call_int1.or call_int_str
theorem s_int {Y : Wd} : CallS Y pInt rIntA := by
  intro F am M H vs ws Wx Q rp rs h
  unfold pInt at h
  split at h
  · obtain ⟨v, rfl, r⟩ := rs.one
    exact .inl (.inl ⟨_, by rw [r.int], h.ret rp _ (.d (.int _))⟩)
  · obtain ⟨v, rfl, r⟩ := rs.one
    exact .inl (.inr ⟨_, by rw [r.bl], h.ret rp _ (.d (.int _))⟩)
  · obtain ⟨v, rfl, r⟩ := rs.one
    rename_i a
    cases e : PySem.intText? a with
    | none => rw [e] at h; exact h.elim
    | some n =>
      rw [e] at h
      simp only at h
      split at h
      · rename_i hz
        exact .inr ⟨a, n, by rw [r.str], e, hz, h.ret rp _ (.d (.int _))⟩
      · exact h.elim
  · exact h.elim
def pStr (ws : List W) (M : Store) : R W := match ws with
  | [.d (.int i)] => if i.natAbs.log2 < 1920 then .ok (.d (.str (toString i))) M else .bad
  | [.d (.str a)] => .ok (.d (.str a)) M
  | _ => .bad
abbrev rStrA : List V → Hp → VK → Prop := fun xs H Q => (∃ i : Int, xs = [V.int i] ∧ i.natAbs.log2 < 1920 ∧ Q (.str (toString i)) H) ∨ ∃ a, xs = [V.str a] ∧ Q (.str a) H
theorem or_str {X : Cx} : CallR X (.type "str") rStrA := call_str_int.or SkE.call_str_str
theorem s_str {Y : Wd} : CallS Y pStr rStrA := by
  intro F am M H vs ws Wx Q rp rs h
  unfold pStr at h
  split at h
  · obtain ⟨v, rfl, r⟩ := rs.one
    split at h
    · rename_i hz
      exact .inl ⟨_, by rw [r.int], hz, h.ret rp _ (.d (.str _))⟩
    · exact h.elim
  · obtain ⟨v, rfl, r⟩ := rs.one
    exact .inr ⟨_, by rw [r.str], h.ret rp _ (.d (.str _))⟩
  · exact h.elim
def pAbs (ws : List W) (M : Store) : R W := match ws with
  | [.d (.int i)] => .ok (.d (.int (if i < 0 then -i else i))) M
  | _ => .bad
theorem s_abs {Y : Wd} : CallS Y pAbs (fun xs H Q => ∃ i, xs = [V.int i] ∧ Q (.int (if i < 0 then -i else i)) H) := by
  intro F am M H vs ws Wx Q rp rs h
  unfold pAbs at h
  split at h
  · obtain ⟨v, rfl, r⟩ := rs.one
    exact ⟨_, by rw [r.int], h.ret rp _ (.d (.int _))⟩
  · exact h.elim
/-- all(bools), any(bools) -/
def bools : List W → Option (List Bool)
  | [] => some []
  | .d (.bool b) :: r => (bools r).map (b :: ·)
  | _ :: _ => none
def intsW : List W → Option (List Int)
  | [] => some []
  | .d (.int b) :: r => (intsW r).map (b :: ·)
  | _ :: _ => none
section
variable {Y : Wd} {F : Hp} {am : List Addr}
theorem bools_rep : ∀ {ws : List W} {vs : List V} {bs : List Bool}, RepWs Y F am vs ws → bools ws = some bs → vs = bs.map V.bl
  | [], _, _, .nil, h => by cases h; rfl
  | w :: r, _, bs, .cons q t, h => by
    cases w with
    | d x =>
      cases x with
      | bool b =>
        have h' : (bools r).map (b :: ·) = some bs := h
        obtain ⟨cs, e1, e2⟩ := Option.map_eq_some_iff.mp h'
        subst e2
        rw [q.bl, bools_rep t e1] <;> rfl
      | _ => cases h
    | _ => cases h
theorem ints_rep : ∀ {ws : List W} {vs : List V} {bs : List Int}, RepWs Y F am vs ws → intsW ws = some bs → vs = bs.map V.int
  | [], _, _, .nil, h => by cases h; rfl
  | w :: r, _, bs, .cons q t, h => by
    cases w with
    | d x =>
      cases x with
      | int b =>
        have h' : (intsW r).map (b :: ·) = some bs := h
        obtain ⟨cs, e1, e2⟩ := Option.map_eq_some_iff.mp h'
        subst e2
        rw [q.int, ints_rep t e1] <;> rfl
      | _ => cases h
    | _ => cases h
end
def pAll (ws : List W) (M : Store) : R W := match ws with
  | [w] => match (isLst M w).bind bools with
    | some bs => .ok (.d (.bool (bs.all id))) M
    | none => .bad
  | _ => .bad
def pAny (ws : List W) (M : Store) : R W := match ws with
  | [w] => match (isLst M w).bind bools with
    | some bs => .ok (.d (.bool (bs.any id))) M
    | none => .bad
  | _ => .bad
theorem s_all {Y : Wd} : CallS Y pAll (rAll Y.K) := by
  intro F am M H vs ws Wx Q rp rs h
  unfold pAll at h
  split at h
  · rename_i w
    obtain ⟨v, rfl, r⟩ := rs.one
    cases e : (isLst M w).bind bools with
    | none => rw [e] at h; exact h.elim
    | some bs =>
      rw [e] at h
      obtain ⟨us, e1, e2⟩ := Option.bind_eq_some_iff.mp e
      obtain ⟨a, zs, rfl, ha, r2⟩ := rp.isLst r e1
      rw [bools_rep r2 e2] at ha
      exact ⟨a, bs, rfl, .inl (.inl ha), h.ret rp _ (.d (.bl _))⟩
  · exact h.elim
theorem s_any {Y : Wd} : CallS Y pAny (rAny Y.K) := by
  intro F am M H vs ws Wx Q rp rs h
  unfold pAny at h
  split at h
  · rename_i w
    obtain ⟨v, rfl, r⟩ := rs.one
    cases e : (isLst M w).bind bools with
    | none => rw [e] at h; exact h.elim
    | some bs =>
      rw [e] at h
      obtain ⟨us, e1, e2⟩ := Option.bind_eq_some_iff.mp e
      obtain ⟨a, zs, rfl, ha, r2⟩ := rp.isLst r e1
      rw [bools_rep r2 e2] at ha
      exact ⟨a, bs, rfl, .inl (.inl ha), h.ret rp _ (.d (.bl _))⟩
  · exact h.elim
/-- sum, max, min of a list of ints; of two -/
def pSum (ws : List W) (M : Store) : R W := match ws with
  | [w] => match (isLst M w).bind intsW with
    | some bs => .ok (.d (.int bs.sum)) M
    | none => .bad
  | _ => .bad
theorem s_sum {Y : Wd} : CallS Y pSum (rSum Y.K) := by
  intro F am M H vs ws Wx Q rp rs h
  unfold pSum at h
  split at h
  · rename_i w
    obtain ⟨v, rfl, r⟩ := rs.one
    cases e : (isLst M w).bind intsW with
    | none => rw [e] at h; exact h.elim
    | some bs =>
      rw [e] at h
      obtain ⟨us, e1, e2⟩ := Option.bind_eq_some_iff.mp e
      obtain ⟨a, zs, rfl, ha, r2⟩ := rp.isLst r e1
      rw [ints_rep r2 e2] at ha
      exact ⟨a, bs, rfl, .inl (.inl ha), h.ret rp _ (.d (.int _))⟩
  · exact h.elim
def maxL : List Int → Int
  | [] => 0
  | [x] => x
  | x :: r => if x ≤ maxL r then maxL r else x
def minL : List Int → Int
  | [] => 0
  | [x] => x
  | x :: r => if minL r ≤ x then minL r else x
theorem maxL_is : ∀ {xs : List Int} {m : Int}, m ∈ xs → (∀ y ∈ xs, y ≤ m) → m = maxL xs
  | [x], m, h, _ => by
    show m = x
    simpa using h
  | x :: y :: r, m, h, hm => by
    show m = if x ≤ maxL (y :: r) then maxL (y :: r) else x
    rcases List.mem_cons.mp h with e | e
    · subst e
      split
      · rename_i c
        have q : ∃ z, z ∈ y :: r ∧ z = maxL (y :: r) := maxL_mem (y :: r) (by simp)
        obtain ⟨z, h1, h2⟩ := q
        have := hm z (List.mem_cons_of_mem _ h1)
        omega
      · rfl
    · have ih := maxL_is e fun z hz => hm z (List.mem_cons_of_mem _ hz)
      have := hm x List.mem_cons_self
      rw [if_pos (by omega)]
      exact ih
where
  maxL_mem : ∀ xs : List Int, xs ≠ [] → ∃ z, z ∈ xs ∧ z = maxL xs
    | [x], _ => ⟨x, by simp, rfl⟩
    | x :: y :: r, _ => by
      obtain ⟨z, h1, h2⟩ := maxL_mem (y :: r) (by simp)
      show ∃ z, z ∈ x :: y :: r ∧ z = if x ≤ maxL (y :: r) then maxL (y :: r) else x
      split
      · exact ⟨z, List.mem_cons_of_mem _ h1, h2⟩
      · exact ⟨x, List.mem_cons_self, rfl⟩
theorem minL_is : ∀ {xs : List Int} {m : Int}, m ∈ xs → (∀ y ∈ xs, m ≤ y) → m = minL xs
  | [x], m, h, _ => by
    show m = x
    simpa using h
  | x :: y :: r, m, h, hm => by
    show m = if minL (y :: r) ≤ x then minL (y :: r) else x
    rcases List.mem_cons.mp h with e | e
    · subst e
      split
      · rename_i c
        have q : ∃ z, z ∈ y :: r ∧ z = minL (y :: r) := minL_mem (y :: r) (by simp)
        obtain ⟨z, h1, h2⟩ := q
        have := hm z (List.mem_cons_of_mem _ h1)
        omega
      · rfl
    · have ih := minL_is e fun z hz => hm z (List.mem_cons_of_mem _ hz)
      have := hm x List.mem_cons_self
      rw [if_pos (by omega)]
      exact ih
where
  minL_mem : ∀ xs : List Int, xs ≠ [] → ∃ z, z ∈ xs ∧ z = minL xs
    | [x], _ => ⟨x, by simp, rfl⟩
    | x :: y :: r, _ => by
      obtain ⟨z, h1, h2⟩ := minL_mem (y :: r) (by simp)
      show ∃ z, z ∈ x :: y :: r ∧ z = if minL (y :: r) ≤ x then minL (y :: r) else x
      split
      · exact ⟨z, List.mem_cons_of_mem _ h1, h2⟩
      · exact ⟨x, List.mem_cons_self, rfl⟩
def pMax (ws : List W) (M : Store) : R W := match ws with
  | [.d (.int i), .d (.int j)] => .ok (.d (.int (if j > i then j else i))) M
  | [w] => match (isLst M w).bind intsW with
    | some (x :: r) => .ok (.d (.int (maxL (x :: r)))) M
    | _ => .bad
  | _ => .bad
def pMin (ws : List W) (M : Store) : R W := match ws with
  | [.d (.int i), .d (.int j)] => .ok (.d (.int (if j < i then j else i))) M
  | [w] => match (isLst M w).bind intsW with
    | some (x :: r) => .ok (.d (.int (minL (x :: r)))) M
    | _ => .bad
  | _ => .bad
abbrev rMaxA (K : PySem.W.Frag) : List V → Hp → VK → Prop := fun xs H Q => (∃ i j, xs = [V.int i, .int j] ∧ Q (.int (if j > i then j else i)) H) ∨ rMax K xs H Q
abbrev rMinA (K : PySem.W.Frag) : List V → Hp → VK → Prop := fun xs H Q => (∃ i j, xs = [V.int i, .int j] ∧ Q (.int (if j < i then j else i)) H) ∨ rMin K xs H Q
theorem or_max {X : Cx} (hc : X.calm = true) : CallR X (.builtin "max") (rMaxA X.K) := (call_max2 hc).or (cr_max hc)
theorem or_min {X : Cx} (hc : X.calm = true) : CallR X (.builtin "min") (rMinA X.K) := (call_min2 hc).or (cr_min hc)
theorem s_max {Y : Wd} : CallS Y pMax (rMaxA Y.K) := by
  intro F am M H vs ws Wx Q rp rs h
  unfold pMax at h
  split at h
  · obtain ⟨v, y, rfl, r, q⟩ := rs.two
    exact .inl ⟨_, _, by rw [r.int, q.int], h.ret rp _ (.d (.int _))⟩
  · rename_i w
    obtain ⟨v, rfl, r⟩ := rs.one
    split at h
    · rename_i x l e
      obtain ⟨us, e1, e2⟩ := Option.bind_eq_some_iff.mp e
      obtain ⟨a, zs, rfl, ha, r2⟩ := rp.isLst r e1
      rw [ints_rep r2 e2] at ha
      refine .inr ⟨a, x :: l, rfl, .inl (.inl ha), by simp, fun m hm hx => ?_⟩
      rw [maxL_is hm hx]
      exact h.ret rp _ (.d (.int _))
    · exact h.elim
  · exact h.elim
theorem s_min {Y : Wd} : CallS Y pMin (rMinA Y.K) := by
  intro F am M H vs ws Wx Q rp rs h
  unfold pMin at h
  split at h
  · obtain ⟨v, y, rfl, r, q⟩ := rs.two
    exact .inl ⟨_, _, by rw [r.int, q.int], h.ret rp _ (.d (.int _))⟩
  · rename_i w
    obtain ⟨v, rfl, r⟩ := rs.one
    split at h
    · rename_i x l e
      obtain ⟨us, e1, e2⟩ := Option.bind_eq_some_iff.mp e
      obtain ⟨a, zs, rfl, ha, r2⟩ := rp.isLst r e1
      rw [ints_rep r2 e2] at ha
      refine .inr ⟨a, x :: l, rfl, .inl (.inl ha), by simp, fun m hm hx => ?_⟩
      rw [minL_is hm hx]
      exact h.ret rp _ (.d (.int _))
    · exact h.elim
  · exact h.elim
/-- tuple(xs), list(xs) -/
def pTuple (ws : List W) (M : Store) : R W := match ws with
  | [.d (.tuple xs)] => .ok (.d (.tuple xs)) M
  | [w] => match (isLst M w).bind dats with
    | some ds => .ok (.d (.tuple ds)) M
    | none => .bad
  | _ => .bad
theorem s_tuple {Y : Wd} : CallS Y pTuple (fun xs H Q => ∃ p ys, xs = [.ref p] ∧ ((SqL Y.K H p ys ∧ ∀ l, H l = none → Q (.ref l) (upd H l (.tup ys))) ∨ (SqT Y.K H p ys ∧ Q (.ref p) H))) := by
  intro F am M H vs ws Wx Q rp rs h
  unfold pTuple at h
  split at h
  · obtain ⟨v, rfl, r⟩ := rs.one
    obtain ⟨a, us, rfl, h1, h2⟩ := r.tup
    exact ⟨a, us, rfl, .inr ⟨rp.seqT h1, h.ret rp _ (.d (.tup h1 h2))⟩⟩
  · rename_i w hn
    obtain ⟨v, rfl, r⟩ := rs.one
    cases e : (isLst M w).bind dats with
    | none => rw [e] at h; exact h.elim
    | some ds =>
      rw [e] at h
      obtain ⟨us, e1, e2⟩ := Option.bind_eq_some_iff.mp e
      obtain ⟨a, zs, rfl, ha, r2⟩ := rp.isLst r e1
      rw [dats_eq e2] at r2
      exact ⟨a, zs, rfl, .inl ⟨.inl (.inl ha), fun p hp => Aft.newT rp hp (repDs_of r2) h⟩⟩
  · exact h.elim
def pList (st : Bool) (ws : List W) (M : Store) : R W := match ws with
  | [w] => match lstOf M w with
    | some us => newW st us M
    | none => .bad
  | _ => .bad
theorem s_list {Y : Wd} (st : Bool) : CallS Y (pList st) (fun xs H Q => ∃ p ys, xs = [.ref p] ∧ (SqL Y.K H p ys ∨ SqT Y.K H p ys) ∧ ∀ l, H l = none → Q (.ref l) (upd H l (.lst ys))) := by
  intro F am M H vs ws Wx Q rp rs h
  unfold pList at h
  split at h
  · rename_i w
    obtain ⟨v, rfl, r⟩ := rs.one
    cases e : lstOf M w with
    | none => rw [e] at h; exact h.elim
    | some us =>
      rw [e] at h
      obtain ⟨a, zs, rfl, ha, r2⟩ := rp.seq r e
      exact ⟨a, zs, rfl, ha, fun p hp => Aft.newW rp hp r2 h⟩
  · exact h.elim
/-! ### isinstance -/
def tyW (M : Store) : W → Option String
  | .d .none => some "NoneType"
  | .d (.bool _) => some "bool"
  | .d (.int _) => some "int"
  | .d (.str _) => some "str"
  | .d (.list _) => some "list"
  | .d (.tuple _) => some "tuple"
  | .p n => match M[n]? with
    | some (.lst _) => some "list"
    | some (.dK _) => some "dict"
    | some (.dT _) => some "dict"
    | none => none
  | _ => none
def isT (a T : String) : Bool := a == T || (a == "bool" && T == "int")
theorem isT_kit : ∀ a ∈ ["NoneType", "bool", "int", "str", "list", "tuple", "dict"], ∀ T ∈ ["bool", "int", "str", "list", "tuple", "dict"], kitB a T = some (isT a T) := by decide +kernel
theorem Rep.ty {Y : Wd} {F : Hp} {am : List Addr} {M : Store} {H : Hp} (rp : Rep Y F am M H) {v : V} {w : W} (r : RepW Y F am v w) {a : String} (h : tyW M w = some a) : TyX Y.K H v (.type a) ∧ a ∈ ["NoneType", "bool", "int", "str", "list", "tuple", "dict"] := by
  cases r with
  | d r =>
    cases r with
    | non => cases h; exact ⟨.base .non, by decide⟩
    | bl b => cases h; exact ⟨.base (.bl b), by decide⟩
    | int b => cases h; exact ⟨.base (.int b), by decide⟩
    | str b => cases h; exact ⟨.base (.str b), by decide⟩
    | lst h1 h2 => cases h; exact ⟨.base (.lst (rp.fz _ _ h1)), by decide⟩
    | tup h1 h2 =>
      cases h
      exact ⟨.base (.tup (rp.fz _ _ h1)), by decide⟩
  | p ha =>
    rename_i n
    unfold tyW at h
    simp only at h
    split at h
    · rename_i e
      cases h
      obtain ⟨vs, h1, _⟩ := rp.lst ha e
      exact ⟨.base (.lst h1), by decide⟩
    · rename_i e
      cases h
      obtain ⟨vs, h1, _⟩ := rp.dK ha e
      exact ⟨.base (.dK h1), by decide⟩
    · rename_i e
      cases h
      obtain ⟨vs, h1, _⟩ := rp.dT ha e
      exact ⟨.base (.dT h1), by decide⟩
    · cases h
  | scr => cases h
def xIsi (T : String) (f : PEx) : PEx := fun ρ M => (f ρ M).bind fun w M1 => match tyW M1 w with
  | some a => .ok (.d (.bool (isT a T))) M1
  | none => .bad
theorem px_isi {X : Cx} {Y : Wd} {Wx : WX} {e : Expr} {f : PEx} {pos p p2 : Pos} {T : String} (ha : PE X e (xT Y Wx f)) (hT : T ∈ ["bool", "int", "str", "list", "tuple", "dict"] := by decide) (hgi : Gl X "isinstance" := by rfl) (hmi : X.mg "isinstance" = none) (hg : Gl X (Str.ofString T) := by rfl) (hm : X.mg (Str.ofString T) = none)
    (hv : bootBuiltins (Str.ofString T) = some (.type T) := by decide +kernel) (hK : X.K = Y.K := by rfl) (hn : Str.ofString T ≠ "__name__" := by decide +kernel) (hdb : (Str.ofString T == ("__debug__" : Str)) = false := by decide +kernel)
    (he : starEach [e, .Name (Str.ofString T) p2] X.env = (false, eval e X.env) :: starEach [.Name (Str.ofString T) p2] X.env := by rfl) (hpl : (backTo pos (starEach [.Name (Str.ofString T) p2] X.env)).any (·.1) = false := by rfl) : PE X (.Call (.Name "isinstance" p) [e, .Name (Str.ofString T) p2] [] pos) (xT Y Wx (xIsi T f)) := by
  refine (pe_callB call_isi hgi hmi boot_isinstance (pa_cons ha (pa_cons (pe_bltn (v := .ty T) hg hm hv rfl hn hdb) pa_nil) he) (by decide +kernel) (by decide +kernel) he hpl).to fun σ H Q h => ?_
  obtain ⟨F, am, M, ρ, rp, re, h⟩ := h
  refine ⟨F, am, M, ρ, rp, re, h.bind.imp fun F1 am1 M1 w H1 x1 rp1 h1 v q => ?_⟩
  cases e : tyW M1 w with
  | none => rw [e] at h1; exact h1.elim
  | some a =>
    rw [e] at h1
    obtain ⟨t1, t2⟩ := rp1.ty q e
    rw [hK]
    exact ⟨v, .ty T, .type a, .type T, isT a T, rfl, ClsV.ty T, t1, kit_ty (isT_kit a t2 T hT), Aft.ret rp1 h1 _ (.d (.bl _))⟩
end Pu
end
section
set_option linter.all false
set_option maxRecDepth 100000
set_option maxHeartbeats 4000000
/-! PuF: statements, loops. -/
namespace Pu
open PySem PySem.Spec PyProof.Rows L2

/-- how a statement ends -/
inductive Fl where
  | nx (ρ : Env)
  | rt (w : W)
  | bk (ρ : Env)
  | ct (ρ : Env)
abbrev Sm := Env → Store → R Fl
/-- what follows a statement's end -/
def FlG (Y : Wd) (D : Ends) : Hp → List Addr → Store → Fl → Hp → Prop := fun F am _ fl H => match fl with
  | .nx ρ => ∀ σ, REnv Y F am σ ρ → D.nx σ H
  | .rt w => ∀ v, RepW Y F am v w → D.rt v H
  | .bk ρ => ∀ σ, REnv Y F am σ ρ → D.bk σ H
  | .ct ρ => ∀ σ, REnv Y F am σ ρ → D.ct σ H
def sT (Y : Wd) (Wx : WX) (g : Sm) : TS := fun D σ H => At Y σ H fun F am M ρ => Aft Y (fun c d H' => ∀ σ', Wx c d σ' H') F am H (g ρ M) (FlG Y D)
theorem Aft.wx {Y : Wd} {F : Hp} {am : List Addr} {H : Hp} {Wx Wx' : Value → Option Addr → Hp → Prop} {α : Type} {r : R α} {G : Hp → List Addr → Store → α → Hp → Prop} (h : Aft Y Wx F am H r G) (i : ∀ c d H', Wx c d H' → Wx' c d H') : Aft Y Wx' F am H r G := by
  cases r with
  | ok a M => exact h
  | ex c M => exact fun F' am' H' x rp => i _ _ _ (h F' am' H' x rp)
  | bad => exact h
theorem Aft.bindW {Y : Wd} {F : Hp} {am : List Addr} {H : Hp} {Wx : WX} {σ : L2.St} {α β : Type} {r : R α} {k : α → Store → R β} {G : Hp → List Addr → Store → β → Hp → Prop} (h : Aft Y (fun c d H' => ∀ σ', Wx c d σ' H') F am H (r.bind k) G) :
    Aft Y (fun c d H' => Wx c d σ H') F am H r (fun F1 am1 M1 a H1 => Aft Y (fun c d H' => ∀ σ', Wx c d σ' H') F1 am1 H1 (k a M1) G) := h.bind.wx fun _ _ _ z => z σ
def sNext : Sm := fun ρ M => .ok (.nx ρ) M
def sSeq (g k : Sm) : Sm := fun ρ M => (g ρ M).bind fun fl M1 => match fl with
  | .nx ρ1 => k ρ1 M1
  | .rt w => .ok (.rt w) M1
  | .bk ρ1 => .ok (.bk ρ1) M1
  | .ct ρ1 => .ok (.ct ρ1) M1
def sRet (f : PEx) : Sm := fun ρ M => (f ρ M).bind fun w M1 => .ok (.rt w) M1
def sRetN : Sm := fun _ M => .ok (.rt (.d .none)) M
def sExpr (f : PEx) : Sm := fun ρ M => (f ρ M).bind fun _ M1 => .ok (.nx ρ) M1
def sIf (t : PTx) (g k : Sm) : Sm := fun ρ M => (t ρ M).bind fun c M1 => if c = true then g ρ M1 else k ρ M1
def sBreak : Sm := fun ρ M => .ok (.bk ρ) M
def sCont : Sm := fun ρ M => .ok (.ct ρ) M
section
variable {X : Cx} {Y : Wd} {Wx : WX} {e : Expr} {st : Stmt} {sts : List Stmt} {f : PEx} {g k : Sm} {t : PTx} {pos : Pos}
theorem ss_nil : PSs X [] (sT Y Wx sNext) := pss_nil.to fun D σ H h => by
  obtain ⟨F, am, M, ρ, rp, re, h⟩ := h
  exact Aft.ret rp h σ re
theorem ss_one (h : PS X st (sT Y Wx g)) : PSs X [st] (sT Y Wx g) := pss_one h
theorem ss_cons (h1 : PS X st (sT Y Wx g)) (h2 : PSs X sts (sT Y Wx k)) : PSs X (st :: sts) (sT Y Wx (sSeq g k)) := (pss_cons h1 h2).to fun D σ H h => by
  obtain ⟨F, am, M, ρ, rp, re, h⟩ := h
  refine ⟨F, am, M, ρ, rp, re, h.bind.imp fun F1 am1 M1 fl H1 x1 rp1 h1 => ?_⟩
  cases fl with
  | nx ρ1 => exact fun σ1 re1 => ⟨F1, am1, M1, ρ1, rp1, re1, h1⟩
  | rt w => exact Aft.ret (a := Fl.rt w) (G := FlG Y D) rp1 h1
  | bk ρ2 => exact Aft.ret (a := Fl.bk ρ2) (G := FlG Y D) rp1 h1
  | ct ρ2 => exact Aft.ret (a := Fl.ct ρ2) (G := FlG Y D) rp1 h1
theorem ps_retS (h : PE X e (xT Y Wx f)) : PS X (.Return (some e) pos) (sT Y Wx (sRet f)) := (ps_ret h).to fun D σ H h => by
  obtain ⟨F, am, M, ρ, rp, re, h⟩ := h
  exact ⟨F, am, M, ρ, rp, re, h.bindW.imp fun F1 am1 M1 w H1 x1 rp1 h1 v q => Aft.ret rp1 h1 v q⟩
theorem ps_retNS : PS X (.Return none pos) (sT Y Wx sRetN) := ps_retN.to fun D σ H h => by
  obtain ⟨F, am, M, ρ, rp, re, h⟩ := h
  exact Aft.ret rp h _ (.d .non)
theorem ps_exprS (h : PE X e (xT Y Wx f)) (hs : swapsWith e none pos.line X.env = pure false := by rfl) : PS X (.Expr e pos) (sT Y Wx (sExpr f)) := (ps_expr h hs).to fun D σ H h => by
  obtain ⟨F, am, M, ρ, rp, re, h⟩ := h
  exact ⟨F, am, M, ρ, rp, re, h.bindW.imp fun F1 am1 M1 w H1 x1 rp1 h1 v q => Aft.ret rp1 h1 σ (re.ext x1)⟩
theorem ps_ifS {a b : List Stmt} {c : Expr} (hc : PT X c (xB Y Wx t)) (ha : PSs X a (sT Y Wx g)) (hb : PSs X b (sT Y Wx k)) : PS X (.If c a b pos) (sT Y Wx (sIf t g k)) := (ps_if hc ha hb).to fun D σ H h => by
  obtain ⟨F, am, M, ρ, rp, re, h⟩ := h
  refine ⟨F, am, M, ρ, rp, re, h.bindW.imp fun F1 am1 M1 c H1 x1 rp1 h1 => ?_⟩
  cases c with
  | true => exact ⟨F1, am1, M1, ρ, rp1, re.ext x1, h1⟩
  | false => exact ⟨F1, am1, M1, ρ, rp1, re.ext x1, h1⟩
theorem ps_passS : PS X (.Pass pos) (sT Y Wx sNext) := ps_pass.to fun D σ H h => by
  obtain ⟨F, am, M, ρ, rp, re, h⟩ := h
  exact Aft.ret rp h σ re
theorem ps_breakS : PS X (.Break pos) (sT Y Wx sBreak) := ps_break.to fun D σ H h => by
  obtain ⟨F, am, M, ρ, rp, re, h⟩ := h
  exact Aft.ret rp h σ re
theorem ps_contS : PS X (.Continue pos) (sT Y Wx sCont) := ps_continue.to fun D σ H h => by
  obtain ⟨F, am, M, ρ, rp, re, h⟩ := h
  exact Aft.ret rp h σ re
end
/-! ### targets -/
abbrev Tg := W → Env → Store → R Env
abbrev Tgs := List W → Env → Store → R Env
/-- what a target leaves of the slots -/
structure Pr where
  on : L2.St → L2.St → Prop
  rf : ∀ σ, on σ σ
  tr : ∀ {σ σ1 σ2}, on σ σ1 → on σ1 σ2 → on σ σ2
def prA : Pr := ⟨fun _ _ => True, fun _ => trivial, fun _ _ => trivial⟩
def prW (vs : List Nat) : Pr := ⟨fun σ σ' => wipe σ' vs = wipe σ vs, fun _ => rfl, fun a b => b.trans a⟩
theorem wipe_set {i : Nat} {x : Option V} : ∀ {vs : List Nat}, i ∈ vs → ∀ σ : L2.St, wipe (σ.set i x) vs = wipe σ vs
  | [], h, _ => by simp at h
  | v :: vs, h, σ => by
    show (wipe (σ.set i x) vs).set v none = (wipe σ vs).set v none
    by_cases hm : i ∈ vs
    · rw [wipe_set hm]
    · have e : i = v := by
        rcases List.mem_cons.mp h with z | z
        · exact z
        · exact absurd z hm
      subst e
      have q : ∀ {us : List Nat}, i ∉ us → wipe (σ.set i x) us = (wipe σ us).set i x := by
        intro us
        induction us with
        | nil => intro _; rfl
        | cons u us ih =>
          intro hn
          have h1 : u ≠ i := fun z => hn (by rw [z]; exact List.mem_cons_self)
          show (wipe (σ.set i x) us).set u none = ((wipe σ us).set u none).set i x
          rw [ih (fun z => hn (List.mem_cons_of_mem _ z)), List.set_comm _ _ (Ne.symm h1)]
      rw [q hm, List.set_set]
def gT (Y : Wd) (Wx : WX) (P : Pr) (t : Tg) : TG := fun v σ H Q => ∃ F am M ρ w, Rep Y F am M H ∧ REnv Y F am σ ρ ∧ RepW Y F am v w ∧ Aft Y (fun c d H' => ∀ σ', Wx c d σ' H') F am H (t w ρ M) fun F' am' _ ρ' H' => ∀ σ', P.on σ σ' → REnv Y F' am' σ' ρ' → Q σ' H'
def gTs (Y : Wd) (Wx : WX) (P : Pr) (t : Tgs) : TGs := fun vs σ H Q => ∃ F am M ρ ws, Rep Y F am M H ∧ REnv Y F am σ ρ ∧ RepWs Y F am vs ws ∧ Aft Y (fun c d H' => ∀ σ', Wx c d σ' H') F am H (t ws ρ M) fun F' am' _ ρ' H' => ∀ σ', P.on σ σ' → REnv Y F' am' σ' ρ' → Q σ' H'
theorem _root_.L2.PG.to {X : Cx} {e : Expr} {t t' : TG} (h : PG X e t) (i : ∀ v σ H Q, t' v σ H Q → t v σ H Q) : PG X e t' := ⟨fun pins s σ H v u Q I r q => h.run pins s σ H v u Q I r (i v σ H Q q)⟩
theorem _root_.L2.PGs.to {X : Cx} {e : List Expr} {t t' : TGs} (h : PGs X e t) (i : ∀ v σ H Q, t' v σ H Q → t v σ H Q) : PGs X e t' := ⟨fun pins s σ H v u Q I r q => h.run pins s σ H v u Q I r (i v σ H Q q)⟩
def gN (i : Nat) : Tg := fun w ρ M => .ok (ρ.set i (some w)) M
def gsNil : Tgs := fun ws ρ M => match ws with
  | [] => .ok ρ M
  | _ => .bad
def gsCons (t : Tg) (u : Tgs) : Tgs := fun ws ρ M => match ws with
  | w :: r => (t w ρ M).bind fun ρ1 M1 => u r ρ1 M1
  | [] => .bad
/-- a tuple's parts, a list's parts -/
def gTu (n : Nat) (u : Tgs) : Tg := fun w ρ M => match w with
  | .d (.tuple ds) => if ds.length = n then u (ds.map .d) ρ M else .bad
  | _ => .bad
def gLi (n : Nat) (u : Tgs) : Tg := fun w ρ M => match isLst M w with
  | some ws => if ws.length = n then u ws ρ M else .bad
  | none => .bad
section
variable {X : Cx} {Y : Wd} {Wx : WX} {P : Pr} {e : Expr} {es : List Expr} {t : Tg} {u : Tgs} {pos : Pos}
theorem pg_n (i : Nat) {x : Str} (hN : X.N.Nodup) (hi : X.N[i]? = some x := by rfl) (hx : Loc X.env.scope x := by first | exact .inl rfl | exact .inr rfl) (hf : X.fn x = true ∨ X.env.scope.names.lookup x = some .local := by first | exact .inl rfl | exact .inr rfl) (hP : ∀ σ v, P.on σ (σ.set i (some v)) := by first | exact fun _ _ => trivial | exact fun σ _ => wipe_set (by decide) σ) : PG X (.Name x pos) (gT Y Wx P (gN i)) :=
  (pg_name hN hi hx hf).to fun v σ H Q h => by
    obtain ⟨F, am, M, ρ, w, rp, re, r, h⟩ := h
    exact Aft.ret rp h _ (hP _ _) (re.set i r)
theorem pgs_n : PGs X [] (gTs Y Wx P gsNil) := pgs_nil.to fun vs σ H Q h => by
  obtain ⟨F, am, M, ρ, ws, rp, re, r, h⟩ := h
  unfold gsNil at h
  split at h
  · cases r
    exact ⟨rfl, Aft.ret rp h _ (P.rf _) re⟩
  · exact h.elim
theorem pgs_c (h1 : PG X e (gT Y Wx P t)) (h2 : PGs X es (gTs Y Wx P u)) (hs : (assignEach (e :: es) X.env).map (·.2) = assign e X.env :: (assignEach es X.env).map (·.2) := by rfl) : PGs X (e :: es) (gTs Y Wx P (gsCons t u)) := (pgs_cons h1 h2 hs).to fun vs σ H Q h => by
  obtain ⟨F, am, M, ρ, ws, rp, re, r, h⟩ := h
  unfold gsCons at h
  split at h
  · cases r with
    | cons r rr =>
      refine ⟨_, _, rfl, F, am, M, ρ, _, rp, re, r, h.bind.imp fun F1 am1 M1 ρ1 H1 x1 rp1 h1 σ1 p1 re1 => ?_⟩
      exact ⟨F1, am1, M1, ρ1, _, rp1, re1, RepWs.ext x1 rr, h1.imp fun _ _ _ _ _ _ _ z σ2 p2 re2 => z σ2 (P.tr p1 p2) re2⟩
  · exact h.elim
theorem pg_tu {n k : Nat} (hc : X.calm = true) (h : PGs X es (gTs Y Wx P u)) (hn : (assignEach es X.env).length = n := by rfl) (hst : (assignEach es X.env).findIdx? (·.1) = none := by rfl) (hK : X.K = Y.K := by rfl) : PG X (.Tuple es k pos) (gT Y Wx P (gTu n u)) := (pg_tup hc h hn hst).to fun v σ H Q h => by
  obtain ⟨F, am, M, ρ, w, rp, re, r, h⟩ := h
  unfold gTu at h
  split at h
  · split at h
    · rename_i hl
      obtain ⟨a, vs, rfl, h1, h2⟩ := r.tup
      exact ⟨a, vs, rfl, by rw [hK]; exact rp.seqT h1, by rw [h2.length]; exact hl, F, am, M, ρ, _, rp, re, repWs_of h2, h⟩
    · exact h.elim
  · exact h.elim
theorem pg_li {n k : Nat} (hc : X.calm = true) (h : PGs X es (gTs Y Wx P u)) (hn : (assignEach es X.env).length = n := by rfl) (hst : (assignEach es X.env).findIdx? (·.1) = none := by rfl) (hK : X.K = Y.K := by rfl) : PG X (.Tuple es k pos) (gT Y Wx P (gLi n u)) := (pg_lst hc h hn hst).to fun v σ H Q h => by
  obtain ⟨F, am, M, ρ, w, rp, re, r, h⟩ := h
  unfold gLi at h
  split at h
  · rename_i ws e
    split at h
    · rename_i hl
      obtain ⟨a, vs, rfl, h1, h2⟩ := rp.isLst r e
      exact ⟨a, vs, rfl, .inl (.inl h1), by rw [h2.length]; exact hl, F, am, M, ρ, _, rp, re, h2, h⟩
    · exact h.elim
  · exact h.elim
/-- target = value -/
def sAsg (f : PEx) (t : Tg) : Sm := fun ρ M => (f ρ M).bind fun w M1 => (t w ρ M1).bind fun ρ1 M2 => .ok (.nx ρ1) M2
theorem asg_run {f : PEx} {D : Ends} {σ : L2.St} {H : Hp} (h : sT Y Wx (sAsg f t) D σ H) : tAsg (xT Y Wx f) (gT Y Wx prA t) D σ H := by
  obtain ⟨F, am, M, ρ, rp, re, h⟩ := h
  refine ⟨F, am, M, ρ, rp, re, h.bindW.imp fun F1 am1 M1 w H1 x1 rp1 h1 v q => ?_⟩
  exact ⟨F1, am1, M1, ρ, w, rp1, re.ext x1, q, h1.bind.imp fun F2 am2 M2 ρ2 H2 x2 rp2 h2 σ2 _ re2 => Aft.ret (a := Fl.nx ρ2) (G := FlG Y D) rp2 h2 σ2 re2⟩
theorem ps_asgS {tg v : Expr} {f : PEx} (he : PE X v (xT Y Wx f)) (hg : PG X tg (gT Y Wx prA t)) (hs : swapsWithSole [tg] v pos.line X.env = pure false := by rfl) (hw : swappedStores [tg] v X.env = pure none := by rfl)
    (h1 : (assignEach [tg] X.env).map (·.2) = [assign tg X.env] := by rfl) : PS X (.Assign [tg] v pos) (sT Y Wx (sAsg f t)) := (ps_asg he hg hs hw h1).to fun _ _ _ h => asg_run h
theorem ps_setS (i : Nat) {x : Str} {v : Expr} {f : PEx} {pos' : Pos} (hN : X.N.Nodup) (he : PE X v (xT Y Wx f)) (hi : X.N[i]? = some x := by rfl) (hx : Loc X.env.scope x := by first | exact .inl rfl | exact .inr rfl) (hs : swapsWith v (some (.Name x pos')) pos.line X.env = pure false := by rfl)
    (hf : X.fn x = true ∨ X.env.scope.names.lookup x = some .local := by first | exact .inl rfl | exact .inr rfl) : PS X (.Assign [.Name x pos'] v pos) (sT Y Wx (sAsg f (gN i))) := (ps_set hN hi hx he hs hf).to fun D σ H h => by
  obtain ⟨F, am, M, ρ, rp, re, h⟩ := h
  refine ⟨F, am, M, ρ, rp, re, h.bindW.imp fun F1 am1 M1 w H1 x1 rp1 h1 v q => ?_⟩
  exact Aft.ret (a := Fl.nx (ρ.set i (some w))) (G := FlG Y D) rp1 h1 _ ((re.ext x1).set i q)
/-- a, b = x, y -/
def sPar (i j : Nat) (as : PAx) : Sm := fun ρ M => (as ρ M).bind fun ws M1 => match ws with
  | [w, u] => .ok (.nx ((ρ.set i (some w)).set j (some u))) M1
  | _ => .bad
theorem ps_parS (i j : Nat) {x y : Str} {a b : Expr} {as : PAx} {px py pt : Pos} {kt k2 : Nat} {pt2 : Pos} (hc : X.calm = true) (hN : X.N.Nodup) (ha : PA X [a, b] (xA Y Wx as)) (hi : X.N[i]? = some x := by rfl) (hj : X.N[j]? = some y := by rfl) (hij : i ≠ j := by decide)
    (hx : X.env.scope.names.lookup x = some .local := by rfl) (hy : X.env.scope.names.lookup y = some .local := by rfl)
    (hw : swappedStores [.Tuple [.Name x px, .Name y py] kt pt] (.Tuple [a, b] k2 pt2) X.env = pure (some [x, y]) := by rfl) (hs : swapsWithSole [.Tuple [.Name x px, .Name y py] kt pt] (.Tuple [a, b] k2 pt2) pos.line X.env = pure false := by rfl) :
    PS X (.Assign [.Tuple [.Name x px, .Name y py] kt pt] (.Tuple [a, b] k2 pt2) pos) (sT Y Wx (sPar i j as)) := (ps_par hc hN hi hj hij hx hy ha hw hs).to fun D σ H h => by
  obtain ⟨F, am, M, ρ, rp, re, h⟩ := h
  refine ⟨F, am, M, ρ, rp, re, h.bindW.imp fun F1 am1 M1 ws H1 x1 rp1 h1 vs q => ?_⟩
  split at h1
  · rename_i w u
    obtain ⟨v, y, rfl, q1, q2⟩ := q.two
    exact ⟨v, y, rfl, Aft.ret (a := Fl.nx ((ρ.set i (some w)).set j (some u))) (G := FlG Y D) rp1 h1 _ (((re.ext x1).set i q1).set j q2)⟩
  · exact h1.elim
def sPar3 (i j l : Nat) (as : PAx) : Sm := fun ρ M => (as ρ M).bind fun ws M1 => match ws with
  | [w, u, z] => .ok (.nx (((ρ.set i (some w)).set j (some u)).set l (some z))) M1
  | _ => .bad
theorem ps_parS3 (i j l : Nat) {x y z : Str} {a b c : Expr} {as : PAx} {px py pz pt : Pos} {kt k2 : Nat} {pt2 : Pos} (hc : X.calm = true) (hN : X.N.Nodup) (ha : PA X [a, b, c] (xA Y Wx as)) (hi : X.N[i]? = some x := by rfl) (hj : X.N[j]? = some y := by rfl) (hl : X.N[l]? = some z := by rfl) (hij : i ≠ j := by decide) (hil : i ≠ l := by decide) (hjl : j ≠ l := by decide)
    (hx : X.env.scope.names.lookup x = some .local := by rfl) (hy : X.env.scope.names.lookup y = some .local := by rfl) (hz : X.env.scope.names.lookup z = some .local := by rfl)
    (hw : swappedStores [.Tuple [.Name x px, .Name y py, .Name z pz] kt pt] (.Tuple [a, b, c] k2 pt2) X.env = pure (some [x, y, z]) := by rfl) (hs : swapsWithSole [.Tuple [.Name x px, .Name y py, .Name z pz] kt pt] (.Tuple [a, b, c] k2 pt2) pos.line X.env = pure false := by rfl) :
    PS X (.Assign [.Tuple [.Name x px, .Name y py, .Name z pz] kt pt] (.Tuple [a, b, c] k2 pt2) pos) (sT Y Wx (sPar3 i j l as)) := by
  refine (ps_par3 hc hN hi hj hl hij hil hjl hx hy hz ha hw hs).to fun D σ H h => ?_
  obtain ⟨F, am, M, ρ, rp, re, h⟩ := h
  refine ⟨F, am, M, ρ, rp, re, h.bindW.imp fun F1 am1 M1 ws H1 x1 rp1 h1 vs q => ?_⟩
  split at h1
  · rename_i w u z
    cases q with
    | cons q1 q => cases q with
      | cons q2 q => cases q with
        | cons q3 q =>
          cases q
          exact ⟨_, _, _, rfl, Aft.ret (a := Fl.nx (((ρ.set i (some w)).set j (some u)).set l (some z))) (G := FlG Y D) rp1 h1 _ ((((re.ext x1).set i q1).set j q2).set l q3)⟩
  · exact h1.elim
/-- x op= e -/
def sAug (i : Nat) (op : W → W → Store → R W) (f : PEx) : Sm := fun ρ M => match ρ[i]? with
  | some (some w) => (f ρ M).bind fun u M1 => (op w u M1).bind fun z M2 => .ok (.nx (ρ.set i (some z))) M2
  | _ => .bad
theorem ps_augS' (i : Nat) {x : Str} {v : Expr} {f : PEx} {o : Operator} {op : W → W → Store → R W} {r : R2} {pos' : Pos} (s : OpS Y op r) (ho : PIp X o r) (hN : X.N.Nodup) (he : PE X v (xT Y Wx f)) (hi : X.N[i]? = some x := by rfl) (hx : Loc X.env.scope x := by first | exact .inl rfl | exact .inr rfl)
    (hf : X.fn x = true ∨ X.env.scope.names.lookup x = some .local := by first | exact .inl rfl | exact .inr rfl) : PS X (.AugAssign (.Name x pos') o v pos) (sT Y Wx (sAug i op f)) := (ps_aug hN hi hx he ho hf).to fun D σ H h => by
  obtain ⟨F, am, M, ρ, rp, re, h⟩ := h
  unfold sAug at h
  split at h
  · rename_i w e
    obtain ⟨v0, e0, q0⟩ := re.2 i w e
    refine ⟨v0, e0, F, am, M, ρ, rp, re, h.bindW.imp fun F1 am1 M1 u H1 x1 rp1 h1 y q => ?_⟩
    refine s F1 am1 M1 H1 v0 y w u (fun c d H' => ∀ σ', Wx c d σ' H') _ rp1 (q0.ext x1) q (h1.bind.imp fun F2 am2 M2 z H2 x2 rp2 h2 z' q2 => ?_)
    exact Aft.ret (a := Fl.nx (ρ.set i (some z))) (G := FlG Y D) rp2 h2 _ (((re.ext x1).ext x2).set i q2)
  · exact h.elim
/-- for an int -/
theorem s_ipAdd : OpS Y (pInt2 (fun i j => i + j) fun _ _ => true) (ipI fun i j => i + j) := s_int0
theorem s_ipSub : OpS Y pSub (ipI fun i j => i - j) := s_int0
/-- o[i] = e -/
def setW (w u z : W) (M : Store) : Option Store := match w with
  | .p n => match M[n]? with
    | some (.lst ws) => match u with
      | .d (.int i) => (ixN ws.length i).map fun j => M.set n (.lst (ws.set j z))
      | _ => none
    | some (.dK kws) => match keyW u with
      | some k => if kws.length < sizeLine then some (M.set n (.dK (setK kws k z))) else none
      | none => none
    | some (.dT kws) => match keyT u with
      | some k => if kws.length < sizeLine then some (M.set n (.dT (setK kws k z))) else none
      | none => none
    | none => none
  | _ => none
def gSb (fo fi : PEx) : Tg := fun z ρ M => (fo ρ M).bind fun w M1 => (fi ρ M1).bind fun u M2 => match setW w u z M2 with
  | some M3 => .ok ρ M3
  | none => .bad
end
end Pu
end
section
set_option linter.all false
set_option maxRecDepth 100000
set_option maxHeartbeats 4000000
/-! PuG: stores into lists and dicts; loops. -/
namespace Pu
open PySem PySem.Spec PyProof.Rows L2

/-! ### o[i] = e -/
theorem ixN_len {n m : Nat} (h : n = m) (i : Int) : ixN n i = ixN m i := by rw [h]
abbrev rSetA : TSet := fun o i v H Q => rSetL o i v H Q ∨ rSetD o i v H Q
theorem or_set {X : Cx} (hu : X.A.units + 1 < cLine) : PSet X rSetA := by
  intro pins s σ H o i v ov iv u Q I ro ri rv h
  rcases h with h | h
  · exact set_list pins s σ H o i v ov iv u Q I ro ri rv h
  · exact set_dict hu pins s σ H o i v ov iv u Q I ro ri rv h
section
variable {X : Cx} {Y : Wd} {Wx : WX} {P : Pr}
theorem setW_run {F : Hp} {am : List Addr} {M M' : Store} {H : Hp} {v y z : V} {w u t : W} {Q : Hp → Prop} (rp : Rep Y F am M H) (rw' : RepW Y F am v w) (ru : RepW Y F am y u) (rt : RepW Y F am z t) (h : setW w u t M = some M')
    (hQ : ∀ H', Ext F am H F am H' → Rep Y F am M' H' → Q H') : rSetA v y z H Q := by
  unfold setW at h
  cases w with
  | d _ => cases h
  | scr => cases h
  | p n =>
    obtain ⟨a, rfl, ha⟩ : ∃ a, v = .ref a ∧ am[n]? = some a := by cases rw' with | p h => exact ⟨_, rfl, h⟩
    simp only at h
    split at h
    · rename_i ws e
      split at h
      · rename_i i
        obtain ⟨j, hj, rfl⟩ := Option.map_eq_some_iff.mp h
        obtain ⟨vs, h1, h2⟩ := rp.lst ha e
        have hl := h2.length
        obtain ⟨rp', x⟩ := rp.write ha (o := .lst (vs.set j z)) (.lst (h2.set j rt))
        exact .inl ⟨a, vs, i, j, rfl, by rw [ru.int], h1, by rw [hl]; exact hj, hQ _ x rp'⟩
      · cases h
    · rename_i kws e
      split at h
      · rename_i k ek
        split at h
        · rename_i hz
          cases h
          obtain ⟨vs, h1, h2⟩ := rp.dK ha e
          obtain ⟨rp', x⟩ := rp.write ha (o := .dK (putK vs k z)) (.dK (h2.put k rt))
          rw [keyW_rep ru ek]
          exact .inr ⟨a, _, rfl, .k h1 (by rw [h2.length]; exact hz), hQ _ x rp'⟩
        · cases h
      · cases h
    · rename_i kws e
      split at h
      · rename_i k ek
        split at h
        · rename_i hz
          cases h
          obtain ⟨vs, h1, h2⟩ := rp.dT ha e
          obtain ⟨b, rfl, hb⟩ := keyT_rep ru ek
          obtain ⟨rp', x⟩ := rp.write ha (o := .dT (putK vs k z)) (.dT (h2.put k rt))
          exact .inr ⟨a, _, rfl, .t h1 (rp.fz _ _ hb) (by rw [h2.length]; exact hz), hQ _ x rp'⟩
        · cases h
      · cases h
    · cases h
theorem pg_sb {o i : Expr} {fo fi : PEx} {pos : Pos} (hu : X.A.units + 1 < cLine) (ho : PE X o (xT Y Wx fo)) (hi : PE X i (xT Y Wx fi))
    (ha : ∀ v, assign (.Subscript o i pos) X.env v = (do
      let ov ← holding [v] (eval o X.env)
      let iv ← holding [v, ov] (eval i X.env)
      standAt pos
      holding [v, ov, iv] (setItem ov iv v)
      release [v, ov, iv] []) := by intro _; rfl) : PG X (.Subscript o i pos) (gT Y Wx P (gSb fo fi)) := (pg_sub ho hi (or_set hu) ha).to fun v σ H Q h => by
  obtain ⟨F, am, M, ρ, z, rp, re, r, h⟩ := h
  refine ⟨F, am, M, ρ, rp, re, h.bindW.imp fun F1 am1 M1 w H1 x1 rp1 h1 v1 q1 => ?_⟩
  refine ⟨F1, am1, M1, ρ, rp1, re.ext x1, h1.bindW.imp fun F2 am2 M2 u H2 x2 rp2 h2 v2 q2 => ?_⟩
  split at h2
  · rename_i M3 e
    refine setW_run rp2 (q1.ext x2) q2 ((r.ext x1).ext x2) e fun H' x rp' => ?_
    exact h2 F2 am2 H' x rp' σ (P.rf _) (((re.ext x1).ext x2).ext x)
  · exact h2.elim
end

/-! ### what a loop walks -/
/-- at turn i, in a store: nothing is known, it has stopped, it yields -/
structure So where
  n : Nat
  at_ : Nat → Store → Option (Option W)
abbrev PIx := Env → Store → R So
structure Walk (Y : Wd) (F : Hp) (am : List Addr) (H : Hp) (J : It) (so : So) : Prop where
  stop : ∀ {F1 am1 M1 H1}, Ext F am H F1 am1 H1 → Rep Y F1 am1 M1 H1 → ∀ i, so.at_ i M1 = some none → J.stop i H1
  go : ∀ {F1 am1 M1 H1}, Ext F am H F1 am1 H1 → Rep Y F1 am1 M1 H1 → ∀ i w, so.at_ i M1 = some (some w) → J.go i H1
  yld : ∀ {F1 am1 M1 H1}, Ext F am H F1 am1 H1 → Rep Y F1 am1 M1 H1 → ∀ i w, so.at_ i M1 = some (some w) → ∀ x H', J.yld i H1 x H' → ∃ F2 am2, Ext F1 am1 H1 F2 am2 H' ∧ Rep Y F2 am2 M1 H' ∧ RepW Y F2 am2 x w
def iT (Y : Wd) (Wx : WX) (f : PIx) : TI := fun σ H Rr => At Y σ H fun F am M ρ => Aft Y (fun c d H' => Wx c d σ H') F am H (f ρ M) fun F' am' _ so H' => ∀ J, Walk Y F' am' H' J so → Rr J H'
theorem _root_.L2.PI.to {X : Cx} {tg e : Expr} {t t' : TI} (h : PI X tg e t) (i : ∀ σ H Q, t' σ H Q → t σ H Q) : PI X tg e t' := ⟨fun pins s σ H Q I q => h.run pins s σ H Q I (i σ H Q q)⟩
/-- the items as they stand -/
def soL (ws : List W) : So := ⟨ws.length, fun i _ => some ws[i]?⟩
/-- a list of the store, as it stands at each turn -/
def soP (n k : Nat) : So := ⟨k, fun i M => match M[n]? with
  | some (.lst ws) => some ws[i]?
  | _ => none⟩
def itW (M : Store) (w : W) : Option So := match w with
  | .d (.list xs) => some (soL (xs.map .d))
  | .d (.tuple xs) => some (soL (xs.map .d))
  | .d (.str x) => some (soL (x.cps.toList.map fun c => .d (.str ⟨#[c]⟩)))
  | .p n => match M[n]? with
    | some (.lst ws) => some (soP n ws.length)
    | _ => none
  | _ => none
def iW (f : PEx) : PIx := fun ρ M => (f ρ M).bind fun w M1 => match itW M1 w with
  | some so => .ok so M1
  | none => .bad
section
variable {Y : Wd} {F : Hp} {am : List Addr} {M : Store} {H : Hp}
theorem walk_L {a : Addr} {vs : List V} {ws : List W} (hf : F a = some (.lst vs)) (r : RepWs Y F am vs ws) : Walk Y F am H (Itl Y.K a) (soL ws) where
  stop := fun {F1 am1 M1 H1} x rp i e => ⟨vs, .inl (.inl (rp.fz _ _ (x.f _ _ hf))), by
    have e : ws[i]? = none := Option.some.inj e
    have := List.getElem?_eq_none_iff.mp e
    rw [r.length]; exact this⟩
  go := fun {F1 am1 M1 H1} x rp i w e => by
    obtain ⟨v, e1, _⟩ := r.get (Option.some.inj e)
    exact ⟨vs, v, .inl (.inl (rp.fz _ _ (x.f _ _ hf))), e1⟩
  yld := fun {F1 am1 M1 H1} x rp i w e y H' q => by
    obtain ⟨v, e1, r1⟩ := r.get (Option.some.inj e)
    obtain ⟨rfl, q⟩ := q
    have := q vs (.inl (.inl (rp.fz _ _ (x.f _ _ hf))))
    rw [e1] at this
    cases this
    exact ⟨F1, am1, Ext.refl .., rp, r1.ext x⟩
theorem walk_P {n : Nat} {a : Addr} {k : Nat} (ha : am[n]? = some a) : Walk Y F am H (Itl Y.K a) (soP n k) where
  stop := fun {F1 am1 M1 H1} x rp i e => by
    have e : (match M1[n]? with | some (.lst ws) => some ws[i]? | _ => none) = some none := e
    split at e
    · rename_i ws e2
      obtain ⟨vs, h1, h2⟩ := rp.lst (x.am ha) e2
      refine ⟨vs, .inl (.inl h1), ?_⟩
      have e : ws[i]? = none := Option.some.inj e
      have := List.getElem?_eq_none_iff.mp e
      rw [h2.length]; exact this
    · cases e
  go := fun {F1 am1 M1 H1} x rp i w e => by
    have e : (match M1[n]? with | some (.lst ws) => some ws[i]? | _ => none) = some (some w) := e
    split at e
    · rename_i ws e2
      obtain ⟨vs, h1, h2⟩ := rp.lst (x.am ha) e2
      obtain ⟨v, e1, _⟩ := h2.get (Option.some.inj e)
      exact ⟨vs, v, .inl (.inl h1), e1⟩
    · cases e
  yld := fun {F1 am1 M1 H1} x rp i w e y H' q => by
    have e : (match M1[n]? with | some (.lst ws) => some ws[i]? | _ => none) = some (some w) := e
    split at e
    · rename_i ws e2
      obtain ⟨vs, h1, h2⟩ := rp.lst (x.am ha) e2
      obtain ⟨v, e1, r1⟩ := h2.get (Option.some.inj e)
      obtain ⟨rfl, q⟩ := q
      have := q vs (.inl (.inl h1))
      rw [e1] at this
      cases this
      exact ⟨F1, am1, Ext.refl .., rp, r1⟩
    · cases e
theorem walk_T {a : Addr} {vs : List V} {ws : List W} (hf : F a = some (.tup vs)) (r : RepWs Y F am vs ws) : Walk Y F am H (Itt Y.K a) (soL ws) where
  stop := fun {F1 am1 M1 H1} x rp i e => ⟨vs, rp.seqT (x.f _ _ hf), by
    have e : ws[i]? = none := Option.some.inj e
    have := List.getElem?_eq_none_iff.mp e
    rw [r.length]; exact this⟩
  go := fun {F1 am1 M1 H1} x rp i w e => by
    obtain ⟨v, e1, _⟩ := r.get (Option.some.inj e)
    exact ⟨vs, v, rp.seqT (x.f _ _ hf), e1⟩
  yld := fun {F1 am1 M1 H1} x rp i w e y H' q => by
    obtain ⟨v, e1, r1⟩ := r.get (Option.some.inj e)
    obtain ⟨rfl, q⟩ := q
    have := q vs (rp.seqT (x.f _ _ hf))
    rw [e1] at this
    cases this
    exact ⟨F1, am1, Ext.refl .., rp, r1.ext x⟩
theorem walk_S {x : Str} : Walk Y F am H (Its x) (soL (x.cps.toList.map fun c => .d (.str ⟨#[c]⟩))) where
  stop := fun {F1 am1 M1 H1} _ rp i e => by
    have e : (x.cps.toList.map fun c => W.d (.str ⟨#[c]⟩))[i]? = none := Option.some.inj e
    have := List.getElem?_eq_none_iff.mp e
    show x.cps.size ≤ i
    simpa using this
  go := fun {F1 am1 M1 H1} _ rp i w e => by
    have e : (x.cps.toList.map fun c => W.d (.str ⟨#[c]⟩))[i]? = some w := Option.some.inj e
    have := (List.getElem?_eq_some_iff.mp e).1
    show i < x.cps.size
    simpa using this
  yld := fun {F1 am1 M1 H1} _ rp i w e y H' q => by
    have e : (x.cps.toList.map fun c => W.d (.str ⟨#[c]⟩))[i]? = some w := Option.some.inj e
    obtain ⟨rfl, c, e1, rfl⟩ := q
    rw [List.getElem?_map] at e
    have e1 : x.cps.toList[i]? = some c := by rw [← e1]; simp
    rw [e1] at e
    cases e
    exact ⟨F1, am1, Ext.refl .., rp, .d (.str _)⟩
end
section
variable {X : Cx} {Y : Wd} {Wx : WX} {tg e : Expr} {f : PEx} {pos : Pos}
/-- a list, a tuple, a string -/
def iAny (K : PySem.W.Frag) (tl : TE) : TI := fun σ H R => tl σ H fun x H1 => (∃ a, x = .ref a ∧ (∃ xs, SqL K H1 a xs) ∧ R (Itl K a) H1) ∨ (∃ a, x = .ref a ∧ (∃ xs, SqT K H1 a xs) ∧ R (Itt K a) H1) ∨ ∃ z, x = .str z ∧ R (Its z) H1
theorem pi_any {te : TE} (he : PE X e te) : PI X tg e (iAny X.K te) := by
  refine ⟨fun pins s σ H R I h => ?_⟩
  refine thn (he.run pins s σ H _ I h) fun v s1 ⟨x, H1, I1, r1, q1⟩ => ?_
  have one : ∀ {J : It} {tn : Nat → Heap → Prop} (o : Obj), Turn X.prog X.w X.K tg J [s1.heap.objs.size] s1.heap.objs.size tn → tn 0 (s1.heap.push o) → R J H1 → PIE X pins σ tg R (.ref s1.heap.objs.size) { s1 with heap := s1.heap.push o, toks := s1.toks } := fun o T st q => pi_one I1 o T st q
  rcases q1 with ⟨a, rfl, ⟨xs, hq⟩, q⟩ | ⟨a, rfl, ⟨xs, hq⟩, q⟩ | ⟨z, rfl, q⟩
  · cases r1
    obtain ⟨its, rv, p, hz⟩ := I1.list hq
    exact wpAny_pyIter_list p.isList (one _ (turn_list a _) ⟨_, Heap.get?_push_size _ rfl, rfl, rfl⟩ q)
  · cases r1
    obtain ⟨its, rv, p, hz⟩ := I1.tuple hq
    exact wpAny_pyIter_tuple (show s1.heap.IsTuple a its.toArray from p) (one _ (turn_tuple a _) ⟨_, Heap.get?_push_size _ rfl, rfl, rfl⟩ q)
  · obtain ⟨t, rfl⟩ := r1
    cases ha : z.cps.all (· < 128)
    · exact wpAny_pyIter_wide ha (one _ (turn_str _ z t "str_iterator" (.inr rfl)) ⟨_, Heap.get?_push_size _ rfl, rfl, rfl⟩ q)
    · exact wpAny_pyIter_ascii ha (one _ (turn_str _ z t "str_ascii_iterator" (.inl rfl)) ⟨_, Heap.get?_push_size _ rfl, rfl, rfl⟩ q)
theorem pi_w (he : PE X e (xT Y Wx f)) (hK : X.K = Y.K := by rfl) : PI X tg e (iT Y Wx (iW f)) := (pi_any he).to fun σ H Q h => by
  obtain ⟨F, am, M, ρ, rp, re, h⟩ := h
  refine ⟨F, am, M, ρ, rp, re, h.bind.imp fun F1 am1 M1 w H1 x1 rp1 h1 v q => ?_⟩
  unfold itW at h1
  rw [hK]
  cases w with
  | scr => exact h1.elim
  | d x =>
    cases x with
    | list xs =>
      obtain ⟨a, vs, rfl, h2, h3⟩ := q.lst
      exact .inl ⟨a, rfl, ⟨vs, .inl (.inl (rp1.fz _ _ h2))⟩, h1.ret rp1 _ (walk_L h2 (repWs_of h3))⟩
    | tuple xs =>
      obtain ⟨a, vs, rfl, h2, h3⟩ := q.tup
      exact .inr (.inl ⟨a, rfl, ⟨vs, rp1.seqT h2⟩, h1.ret rp1 _ (walk_T h2 (repWs_of h3))⟩)
    | str x =>
      obtain rfl := q.str
      exact .inr (.inr ⟨x, rfl, h1.ret rp1 _ walk_S⟩)
    | _ => exact h1.elim
  | p n =>
    cases e : M1[n]? with
    | none => simp only [e] at h1; exact h1.elim
    | some ob =>
      cases ob with
      | lst ws =>
        simp only [e] at h1
        obtain ⟨a, rfl, ha⟩ : ∃ a, v = .ref a ∧ am1[n]? = some a := by cases q with | p h => exact ⟨_, rfl, h⟩
        obtain ⟨vs, h2, h3⟩ := rp1.lst ha e
        exact .inl ⟨a, rfl, ⟨vs, .inl (.inl h2)⟩, h1.ret rp1 _ (walk_P ha)⟩
      | dK _ => simp only [e] at h1; exact h1.elim
      | dT _ => simp only [e] at h1; exact h1.elim
/-- range -/
def rngW (lo hi : Int) : So := soL ((List.range (hi - lo).toNat).map fun i => .d (.int (lo + (i : Nat))))
def small62 (i : Int) : Bool := decide (-(2 ^ 62) ≤ i) && decide (i < 2 ^ 62)
def iR1 (as : PAx) : PIx := fun ρ M => (as ρ M).bind fun ws M1 => match ws with
  | [.d (.int j)] => if small62 j = true then .ok (rngW 0 j) M1 else .bad
  | _ => .bad
def iR2 (as : PAx) : PIx := fun ρ M => (as ρ M).bind fun ws M1 => match ws with
  | [.d (.int i), .d (.int j)] => if small62 i = true ∧ small62 j = true then .ok (rngW i j) M1 else .bad
  | _ => .bad
theorem walk_R {F : Hp} {am : List Addr} {H : Hp} (lo hi : Int) : Walk Y F am H (Itr lo (hi - lo).toNat) (rngW lo hi) where
  stop := fun {F1 am1 M1 H1} _ rp i e => by
    have := List.getElem?_eq_none_iff.mp (Option.some.inj e)
    show (hi - lo).toNat ≤ i
    simpa using this
  go := fun {F1 am1 M1 H1} _ rp i w e => by
    have := (List.getElem?_eq_some_iff.mp (Option.some.inj e)).1
    show i < (hi - lo).toNat
    simpa using this
  yld := fun {F1 am1 M1 H1} _ rp i w e y H' q => by
    obtain ⟨rfl, rfl⟩ := q
    have e := Option.some.inj e
    rw [List.getElem?_map] at e
    obtain ⟨j, e1, rfl⟩ := Option.map_eq_some_iff.mp e
    have e2 : j = i := by
      have := List.getElem?_eq_some_iff.mp e1
      obtain ⟨h1, h2⟩ := this
      simpa using h2.symm
    subst e2
    exact ⟨F1, am1, Ext.refl .., rp, .d (.int _)⟩
theorem pi_r1 {a : Expr} {as : PAx} {p : Pos} (hg : Gl X "range") (hm : X.mg "range" = none) (ha : PA X [a] (xA Y Wx as)) (hs : starEach [a] X.env = [(false, eval a X.env)] := by rfl) : PI X tg (.Call (.Name "range" p) [a] [] pos) (iT Y Wx (iR1 as)) :=
  (pi_range1 hg hm ha hs).to fun σ H Q h => by
    obtain ⟨F, am, M, ρ, rp, re, h⟩ := h
    refine ⟨F, am, M, ρ, rp, re, h.bind.imp fun F1 am1 M1 ws H1 x1 rp1 h1 vs q => ?_⟩
    split at h1
    · obtain ⟨v, rfl, r⟩ := q.one
      rename_i j
      split at h1
      · rename_i hz
        simp only [small62, Bool.and_eq_true, decide_eq_true_eq] at hz
        refine ⟨j, by rw [r.int], hz.1, hz.2, h1.ret rp1 _ ?_⟩
        have := walk_R (Y := Y) (F := F1) (am := am1) (H := H1) 0 j
        rwa [Int.sub_zero] at this
      · exact h1.elim
    · exact h1.elim
theorem pi_r2 {a b : Expr} {as : PAx} {p : Pos} (hg : Gl X "range") (hm : X.mg "range" = none) (ha : PA X [a, b] (xA Y Wx as)) (hs : starEach [a, b] X.env = [(false, eval a X.env), (false, eval b X.env)] := by rfl) (hs2 : starEach [b] X.env = [(false, eval b X.env)] := by rfl) :
    PI X tg (.Call (.Name "range" p) [a, b] [] pos) (iT Y Wx (iR2 as)) :=
  (pi_range2 hg hm ha hs hs2).to fun σ H Q h => by
    obtain ⟨F, am, M, ρ, rp, re, h⟩ := h
    refine ⟨F, am, M, ρ, rp, re, h.bind.imp fun F1 am1 M1 ws H1 x1 rp1 h1 vs q => ?_⟩
    split at h1
    · obtain ⟨v, y, rfl, r, r2⟩ := q.two
      rename_i i j
      split at h1
      · rename_i hz
        simp only [small62, Bool.and_eq_true, decide_eq_true_eq] at hz
        exact ⟨i, j, by rw [r.int, r2.int], ⟨hz.1.1, hz.1.2, hz.2.1, hz.2.2⟩, h1.ret rp1 _ (walk_R i j)⟩
      · exact h1.elim
    · exact h1.elim
end

/-! ### for -/
def loopF (so : So) (t : Tg) (g : Sm) : Nat → Nat → Sm
  | 0, i, ρ, M => match so.at_ i M with
    | some none => .ok (.nx ρ) M
    | _ => .bad
  | k + 1, i, ρ, M => match so.at_ i M with
    | some none => .ok (.nx ρ) M
    | some (some w) => (t w ρ M).bind fun ρ1 M1 => (g ρ1 M1).bind fun fl M2 => match fl with
      | .nx ρ2 => loopF so t g k (i + 1) ρ2 M2
      | .ct ρ2 => loopF so t g k (i + 1) ρ2 M2
      | .bk ρ2 => .ok (.nx ρ2) M2
      | .rt w => .ok (.rt w) M2
    | none => .bad
def sFor (f : PIx) (t : Tg) (g : Sm) : Sm := fun ρ M => (f ρ M).bind fun so M1 => loopF so t g so.n 0 ρ M1
section
variable {X : Cx} {Y : Wd} {Wx : WX} {tg e : Expr} {f : PIx} {t : Tg} {g : Sm} {pos : Pos}
theorem ps_forS {body : List Stmt} (hp : PassesOwn (model X.prog X.w) X.A X.env X.xe) (hc : X.calm = true) (hi : PI X tg e (iT Y Wx f)) (hg : PG X tg (gT Y Wx prA t)) (hb : PSs X body (sT Y Wx g))
    (hs : ∀ x, foldedSetIterable e X.env x = pure x := by intro _; rfl) : PS X (.For tg e body [] pos) (sT Y Wx (sFor f t g)) := (ps_for hp hc hi hg hb hs).to fun D σ H h => by
  obtain ⟨F, am, M, ρ, rp, re, h⟩ := h
  refine ⟨F, am, M, ρ, rp, re, h.bindW.imp fun F1 am1 M1 so H1 x1 rp1 h1 J wk => ?_⟩
  refine ⟨fun i m σ H => ∃ F2 am2 M2 ρ2, Ext F1 am1 H1 F2 am2 H ∧ Rep Y F2 am2 M2 H ∧ REnv Y F2 am2 σ ρ2 ∧ Aft Y (fun c d H' => ∀ σ', Wx c d σ' H') F2 am2 H (loopF so t g m i ρ2 M2) (FlG Y D), ⟨so.n, F1, am1, M1, ρ, Ext.refl .., rp1, re.ext x1, h1⟩, ?_⟩
  rintro i m σ2 H2 ⟨F2, am2, M2, ρ2, x2, rp2, re2, h2⟩
  have stop : so.at_ i M2 = some none → Aft Y (fun c d H' => ∀ σ', Wx c d σ' H') F2 am2 H2 (.ok (Fl.nx ρ2) M2) (FlG Y D) → J.stop i H2 ∧ D.nx σ2 H2 := fun e h => ⟨wk.stop x2 rp2 i e, Aft.ret rp2 h σ2 re2⟩
  cases m with
  | zero =>
    unfold loopF at h2
    split at h2
    · rename_i e; exact .inl (stop e h2)
    · exact h2.elim
  | succ m =>
    unfold loopF at h2
    split at h2
    · rename_i e; exact .inl (stop e h2)
    · rename_i w e
      refine .inr ⟨wk.go x2 rp2 i w e, fun σ H => ∃ F2 am2 M2 ρ2, Ext F1 am1 H1 F2 am2 H ∧ Rep Y F2 am2 M2 H ∧ REnv Y F2 am2 σ ρ2 ∧ Aft Y (fun c d H' => ∀ σ', Wx c d σ' H') F2 am2 H (loopF so t g m (i + 1) ρ2 M2) (FlG Y D), fun σ' H' q => ⟨m, Nat.lt_succ_self _, q⟩, fun x H3 y => ?_⟩
      obtain ⟨F3, am3, x3, rp3, r3⟩ := wk.yld x2 rp2 i w e x H3 y
      refine ⟨F3, am3, M2, ρ2, w, rp3, re2.ext x3, r3, (h2.from x3).bind.imp fun F4 am4 M4 ρ4 H4 x4 rp4 h4 σ4 _ re4 => ?_⟩
      refine ⟨F4, am4, M4, ρ4, rp4, re4, h4.bind.imp fun F5 am5 M5 fl H5 x5 rp5 h5 => ?_⟩
      have xx := (x2.trans x3).trans (x4.trans x5)
      cases fl with
      | nx ρ5 => exact fun σ5 re5 => ⟨F5, am5, M5, ρ5, xx, rp5, re5, h5⟩
      | ct ρ5 => exact fun σ5 re5 => ⟨F5, am5, M5, ρ5, xx, rp5, re5, h5⟩
      | bk ρ5 => exact fun σ5 re5 => Aft.ret (a := Fl.nx ρ5) (G := FlG Y D) rp5 h5 σ5 re5
      | rt w5 => exact Aft.ret (a := Fl.rt w5) (G := FlG Y D) rp5 h5
    · exact h2.elim
end
end Pu
end
section
set_option linter.all false
set_option maxRecDepth 100000
set_option maxHeartbeats 4000000
/-! PuH: comprehensions. -/
namespace Pu
open PySem PySem.Spec PyProof.Rows L2

/-! ### an object that is being made, beside the store -/
structure Sd (Y : Wd) (F : Hp) (am : List Addr) (H : Hp) (D : Addr) (o : HO) : Prop where
  hd : H D = some o
  fd : F D = none
  na : D ∉ am
  sa : D ≠ Y.sa ∨ KScr Y
  nt : (∀ ps, o ≠ .tbl ps) ∧ ∀ c q, o ≠ LamX.CodeO c q
section
variable {Y : Wd} {F F1 : Hp} {am am1 : List Addr} {M : Store} {H H1 : Hp} {D : Addr} {o o' : HO}
theorem RepW.up (mf : ∀ a u, F a = some u → F1 a = some u) (ma : ∀ (n : Nat) a, am[n]? = some a → am1[n]? = some a) {v : V} {w : W} (r : RepW Y F am v w) : RepW Y F1 am1 v w := by
  cases r with
  | d r => exact .d (r.mono mf)
  | p h => exact .p (ma _ _ h)
  | scr => exact .scr
theorem RepO.up (mf : ∀ a u, F a = some u → F1 a = some u) (ma : ∀ (n : Nat) a, am[n]? = some a → am1[n]? = some a) {u : Option HO} {ob : Ob} (r : RepO Y F am u ob) : RepO Y F1 am1 u ob := by
  cases r with
  | lst r => exact .lst (Paired.imp (fun _ _ q => q.up mf ma) r)
  | dK r => exact .dK (Paired.imp (fun _ _ q => ⟨q.1, q.2.up mf ma⟩) r)
  | dT r => exact .dT (Paired.imp (fun _ _ q => ⟨q.1, q.2.up mf ma⟩) r)
theorem Rep.nam (r : Rep Y F am M H) {p : Addr} (hp : H p = none) : p ∉ am := fun hm => by
  obtain ⟨n, hl, e⟩ := List.getElem_of_mem hm
  have e2 : am[n]? = some p := by rw [List.getElem?_eq_getElem hl, e]
  obtain ⟨ob, _, q⟩ := r.at_ e2
  rw [hp] at q
  cases q
theorem Rep.nF (r : Rep Y F am M H) {p : Addr} (hp : H p = none) : F p = none := by
  cases e : F p with
  | none => rfl
  | some u => have := r.fz p u e; rw [hp] at this; cases this
theorem Rep.side (r : Rep Y F am M H) (hF : F D = none) (ha : D ∉ am) (hs : D ≠ Y.sa ∨ KScr Y) (ht : H D = none ∨ ∃ u, H D = some u ∧ (∀ ps, u ≠ .tbl ps) ∧ ∀ c q, u ≠ LamX.CodeO c q) : Rep Y F am M (upd H D o) := by
  refine ⟨fun a u h => ?_, r.fd, r.ln, r.nd, r.sp, fun n a ob h1 h2 => ?_, tabs_upd r.tb ht, ?_⟩
  · rw [upd_ne (fun e => by rw [e, hF] at h; cases h)]; exact r.fz a u h
  · rw [upd_ne (fun e => ha (by rw [← e]; exact List.mem_of_getElem? h1))]; exact r.ob n a ob h1 h2
  · rcases r.sc with ⟨h, hn⟩ | h
    · rcases hs with hs | hs
      · refine .inl ⟨?_, hn⟩
        unfold Rd
        rw [upd_ne (Ne.symm hs)]
        exact h
      · exact .inr hs
    · exact .inr h
theorem Rep.newX (r : Rep Y F am M H) (hp : H D = none) (ho : (∀ ps, o ≠ .tbl ps) ∧ ∀ c q, o ≠ LamX.CodeO c q) : Rep Y F am M (upd H D o) ∧ Ext F am H F am (upd H D o) ∧ Sd Y F am (upd H D o) D o := by
  have hs : D ≠ Y.sa ∨ KScr Y := by
    rcases r.sc with ⟨h, hn⟩ | h
    · refine .inl fun e => ?_
      rw [← e] at h
      rcases h with h | ⟨u, h⟩ <;> (rw [hp] at h; cases h)
    · exact .inr h
  exact ⟨r.side (r.nF hp) (r.nam hp) hs (.inl hp), ⟨fun _ _ h => h, ⟨[], by simp, fun b hb => by simp at hb⟩, fun b u h _ _ => upd_some hp h, fun b h => nt_upd hp h, fun _ _ h => .inl h⟩, ⟨upd_same, r.nF hp, r.nam hp, hs, ho⟩⟩
theorem Sd.ext (d : Sd Y F am H D o) (x : Ext F am H F1 am1 H1) : Sd Y F1 am1 H1 D o := by
  refine ⟨x.h _ _ d.hd d.na d.nt.1, ?_, fun hm => ?_, d.sa, d.nt⟩
  · cases e : F1 D with
    | none => rfl
    | some u =>
      rcases x.g D u e with z | z
      · rw [d.fd] at z; cases z
      · exact (z.not d.hd d.nt.1).elim
  · obtain ⟨t, e, ht⟩ := x.a
    rw [e] at hm
    rcases List.mem_append.mp hm with z | z
    · exact d.na z
    · exact (ht D z).not d.hd d.nt.1
theorem Sd.put (d : Sd Y F am H D o) (r : Rep Y F am M H) (ho : (∀ ps, o' ≠ .tbl ps) ∧ ∀ c q, o' ≠ LamX.CodeO c q) : Rep Y F am M (upd H D o') ∧ Sd Y F am (upd H D o') D o' :=
  ⟨r.side d.fd d.na d.sa (.inr ⟨o, d.hd, d.nt.1, d.nt.2⟩), ⟨upd_same, d.fd, d.na, d.sa, ho⟩⟩
theorem Ext.put (x : Ext F1 am1 H1 F am H) (hp : H1 D = none) : Ext F1 am1 H1 F am (upd H D o') :=
  ⟨x.f, x.a, fun b u h hn ht => by rw [upd_ne (ne_of_none h hp)]; exact x.h b u h hn ht, fun b h => by
    by_cases e : b = D
    · rw [e]; exact .inl hp
    · unfold NT at h; rw [upd_ne e] at h; exact x.k b h, x.g⟩
theorem upd_id (h : H D = some o) : upd H D o = H := by
  funext b
  unfold upd
  split
  · rename_i e; rw [e, h]
  · rfl
theorem Sd.adoptD (d : Sd Y F am H D o) (r : Rep Y F am M H) (ho : (∃ xs, o = .lst xs) ∨ ∃ xs, o = .tup xs) (x : Ext F1 am1 H1 F am H) (hp : H1 D = none) : Rep Y (upd F D o) am M H ∧ Ext F1 am1 H1 (upd F D o) am H := by
  have mo : ∀ a u, F a = some u → upd F D o a = some u := fun a u h => upd_some d.fd h
  refine ⟨⟨fun a u h => ?_, fun a u h => ?_, r.ln, r.nd, fun a ha => ?_, fun n a ob h1 h2 => ?_, r.tb, r.sc⟩, ⟨fun a u h => mo a u (x.f a u h), x.a, x.h, x.k, fun b u h => ?_⟩⟩
  · unfold upd at h
    split at h
    · rename_i e; cases h; rw [e]; exact d.hd
    · exact r.fz a u h
  · unfold upd at h
    split at h
    · cases h; exact ho
    · exact r.fd a u h
  · rw [upd_ne (fun e => d.na (by rw [← e]; exact ha))]; exact r.sp a ha
  · exact (r.ob n a ob h1 h2).up mo fun _ _ h => h
  · unfold upd at h
    split at h
    · rename_i e; rw [e]; exact .inr (.inl hp)
    · exact x.g b u h
theorem Sd.adoptS {ob : Ob} (d : Sd Y F am H D o) (r : Rep Y F am M H) (ro : RepO Y F am (some o) ob) (x : Ext F1 am1 H1 F am H) (hp : H1 D = none) : Rep Y F (am ++ [D]) (M ++ [ob]) H ∧ Ext F1 am1 H1 F (am ++ [D]) H := by
  have ma : ∀ (n : Nat) a, am[n]? = some a → (am ++ [D])[n]? = some a := fun n a h => by rw [List.getElem?_append_left (List.getElem?_eq_some_iff.mp h).1]; exact h
  refine ⟨⟨r.fz, r.fd, by simp [r.ln], ?_, fun a ha => ?_, fun n a ob' h1 h2 => ?_, r.tb, ?_⟩, ⟨x.f, ?_, x.h, x.k, x.g⟩⟩
  · rw [List.nodup_append]
    refine ⟨r.nd, by simp, fun a ha b hb e => ?_⟩
    rw [List.mem_singleton] at hb
    exact d.na (by rw [← hb, ← e]; exact ha)
  · rcases List.mem_append.mp ha with h | h
    · exact r.sp a h
    · rw [List.mem_singleton] at h; rw [h]; exact d.fd
  · by_cases hn : n < am.length
    · rw [List.getElem?_append_left hn] at h1
      rw [List.getElem?_append_left (by rw [← r.ln]; exact hn)] at h2
      exact (r.ob n a ob' h1 h2).up (fun _ _ h => h) ma
    · rw [List.getElem?_append_right (by omega)] at h1
      rw [List.getElem?_append_right (by rw [← r.ln]; omega)] at h2
      have z : n - am.length = 0 := by
        have := (List.getElem?_eq_some_iff.mp h1).1
        simp at this
        omega
      rw [z] at h1
      rw [← r.ln, z] at h2
      simp at h1 h2
      subst h1 h2
      rw [d.hd]
      exact ro.up (fun _ _ h => h) ma
  · rcases r.sc with ⟨h, hn⟩ | h
    · rcases d.sa with hs | hs
      · refine .inl ⟨h, fun hm => ?_⟩
        rcases List.mem_append.mp hm with z | z
        · exact hn z
        · rw [List.mem_singleton] at z; exact hs z.symm
      · exact .inr hs
    · exact .inr h
  · obtain ⟨t, e, ht⟩ := x.a
    refine ⟨t ++ [D], by rw [e, List.append_assoc], fun b hb => ?_⟩
    rcases List.mem_append.mp hb with z | z
    · exact ht b z
    · rw [List.mem_singleton] at z; rw [z]; exact .inl hp
end

/-! ### the block's slots -/
def wipeE (ρ : Env) : List Nat → Env
  | [] => ρ
  | v :: vs => (wipeE ρ vs).set v none
theorem wipeE_length (ρ : Env) : ∀ vs : List Nat, (wipeE ρ vs).length = ρ.length
  | [] => rfl
  | v :: vs => by unfold wipeE; rw [List.length_set, wipeE_length ρ vs]
theorem wipeE_some {ρ : Env} {i : Nat} {x : W} : ∀ {vs : List Nat}, (wipeE ρ vs)[i]? = some (some x) → ρ[i]? = some (some x) ∧ i ∉ vs
  | [], h => ⟨h, by simp⟩
  | v :: vs, h => by
    unfold wipeE at h
    by_cases e : v = i
    · subst e
      by_cases hl : v < (wipeE ρ vs).length
      · rw [List.getElem?_set_self hl] at h; cases h
      · rw [List.getElem?_eq_none (by rw [List.length_set]; omega)] at h; cases h
    · rw [List.getElem?_set_ne e] at h
      obtain ⟨h1, h2⟩ := wipeE_some h
      exact ⟨h1, fun hm => (List.mem_cons.mp hm).elim (fun z => e z.symm) h2⟩
theorem wipe_get (σ : L2.St) (i : Nat) : ∀ vs : List Nat, (L2.wipe σ vs)[i]? = if i ∈ vs ∧ i < σ.length then some none else σ[i]?
  | [] => by simp [L2.wipe]
  | v :: vs => by
    show ((L2.wipe σ vs).set v none)[i]? = _
    rw [List.getElem?_set, wipe_length, wipe_get σ i vs]
    by_cases e : v = i
    · subst e
      by_cases hl : v < σ.length
      · simp [hl]
      · simp [hl]
    · have e2 : ¬ i = v := fun z => e z.symm
      simp [e, e2]
theorem wipe_wipe (σ : L2.St) (vs : List Nat) : L2.wipe (L2.wipe σ vs) vs = L2.wipe σ vs := by
  apply List.ext_getElem?
  intro i
  rw [wipe_get, wipe_get, wipe_length]
  split
  · rfl
  · rfl
theorem REnv.wipe {Y : Wd} {F : Hp} {am : List Addr} {σ : L2.St} {ρ : Env} (r : REnv Y F am σ ρ) (vs : List Nat) : REnv Y F am (L2.wipe σ vs) (wipeE ρ vs) := by
  refine ⟨by rw [wipe_length, wipeE_length]; exact r.1, fun i w h => ?_⟩
  obtain ⟨h1, h2⟩ := wipeE_some h
  rw [L2.wipe_out h2]
  exact r.2 i w h1

/-! ### comprehensions -/
/-- an exception in a block is not let out -/
def R.noX {α : Type} (r : R α) : R α := match r with
  | .ex _ _ => .bad
  | r => r
@[simp] theorem R.noX_ok {α : Type} (a : α) (M : Store) : (R.ok a M).noX = .ok a M := rfl
theorem Aft.noX {Y : Wd} {Wx Wx' : Value → Option Addr → Hp → Prop} {F F1 : Hp} {am am1 : List Addr} {H H1 : Hp} {α β : Type} {r : R α} {k : α → Store → R β} {G : Hp → List Addr → Store → β → Hp → Prop} (h : Aft Y Wx F1 am1 H1 (r.noX.bind k) G) :
    Aft Y Wx' F am H r (fun _ _ M4 a _ => Aft Y Wx F1 am1 H1 (k a M4) G) := by
  cases r with
  | ok a M => exact fun _ _ _ _ _ => h
  | ex c M => exact h.elim
  | bad => exact h.elim
abbrev W0 : WX := fun _ _ _ _ => False
/-- a turn of a block: z is what was gathered, put what is done with a turn's value -/
def loopC {α β : Type} (so : So) (t : Tg) (tt : PTx) (f : Env → Store → R β) (put : α → β → Option α) (ρ : Env) : Nat → Nat → α → Store → R α
  | 0, i, z, M => match so.at_ i M with
    | some none => .ok z M
    | _ => .bad
  | k + 1, i, z, M => match so.at_ i M with
    | some none => .ok z M
    | some (some w) => (t w ρ M).noX.bind fun ρ1 M1 => (tt ρ1 M1).noX.bind fun b M2 =>
      if b = true then (f ρ1 M2).noX.bind fun y M3 => match put z y with
        | some z' => loopC so t tt f put ρ k (i + 1) z' M3
        | none => .bad
      else loopC so t tt f put ρ k (i + 1) z M2
    | none => .bad
def putL (ws : List W) (w : W) : Option (List W) := if ws.length < sizeLine then some (ws ++ [w]) else none
def xLc (st : Bool) (f : PIx) (t : Tg) (tt : PTx) (g : PEx) (vs : List Nat) : PEx := fun ρ M => (f ρ M).bind fun so M1 => (loopC so t tt g putL (wipeE ρ vs) so.n 0 [] M1).bind fun acc M2 => newW st acc M2
theorem _root_.L2.PTs.to {X : Cx} {e : List Expr} {t t' : TT} (h : PTs X e t) (i : ∀ σ H Q, t' σ H Q → t σ H Q) : PTs X e t' := ⟨fun pins s σ H Q I q => h.run pins s σ H Q I (i σ H Q q)⟩
def tYesX : PTx := fun _ M => .ok true M
theorem pts_n {X : Cx} {Y : Wd} {Wx : WX} : PTs X [] (xB Y Wx tYesX) := pts_nil.to fun σ H Q h => by
  obtain ⟨F, am, M, ρ, rp, re, h⟩ := h
  exact Aft.ret rp h
theorem pts_o {X : Cx} {Y : Wd} {Wx : WX} {c : Expr} {t : PTx} (h : PT X c (xB Y Wx t)) : PTs X [c] (xB Y Wx t) := pts_one h
section
variable {X : Cx} {Y : Wd} {Wx : WX} {elt tg iter : Expr} {ifs : List Expr} {scope : Scope} {own : List (Str × Nat)} {pos : Pos} {f : PIx} {t : Tg} {tt : PTx} {g : PEx}
theorem lst_nt (xs : List V) : (∀ ps, HO.lst xs ≠ .tbl ps) ∧ ∀ c q, HO.lst xs ≠ LamX.CodeO c q := ⟨fun _ e => (by cases e), fun _ _ e => (by unfold LamX.CodeO at e; cases e)⟩
theorem lc_run {vs : List Nat} {st : Bool} {σ : L2.St} {H : Hp} {Q : VK} (h : xT Y Wx (xLc st f t tt g vs) σ H Q) : tLc (iT Y Wx f) (gT Y W0 (prW vs) t) (xB Y W0 tt) (xT Y W0 g) vs σ H Q := by
  obtain ⟨F, am, M, ρ, rp, re, h⟩ := h
  refine ⟨F, am, M, ρ, rp, re, h.bind.imp fun F1 am1 M1 so H1 x1 rp1 h1 J wk D hD => ?_⟩
  obtain ⟨rp0, x0, d0⟩ := rp1.newX hD (lst_nt [])
  refine ⟨fun i m H => ∃ F2 am2 M2 vs2 acc, Ext F1 am1 H1 F2 am2 H ∧ Rep Y F2 am2 M2 H ∧ Sd Y F2 am2 H D (.lst vs2) ∧ RepWs Y F2 am2 vs2 acc ∧ Aft Y (fun c d H' => Wx c d σ H') F1 am1 H1 ((loopC so t tt g putL (wipeE ρ vs) m i acc M2).bind fun acc M2 => newW st acc M2) (fun F' am' _ w H' => ∀ v, RepW Y F' am' v w → Q v H'),
    ⟨so.n, F1, am1, M1, [], [], x0, rp0, d0, .nil, h1⟩, ?_⟩
  rintro i m H2 ⟨F2, am2, M2, vs2, acc, x2, rp2, d2, r2, h2⟩
  have stop : so.at_ i M2 = some none → Aft Y (fun c d H' => Wx c d σ H') F1 am1 H1 ((R.ok acc M2).bind fun acc M2 => newW st acc M2) (fun F' am' _ w H' => ∀ v, RepW Y F' am' v w → Q v H') → J.stop i H2 ∧ Q (.ref D) H2 := fun e h => by
    refine ⟨wk.stop x2 rp2 i e, ?_⟩
    have h : Aft Y (fun c d H' => Wx c d σ H') F1 am1 H1 (newW st acc M2) (fun F' am' _ w H' => ∀ v, RepW Y F' am' v w → Q v H') := h
    unfold newW at h
    split at h
    · obtain ⟨rp3, x3⟩ := d2.adoptS rp2 (.lst r2) x2 hD
      refine h _ _ H2 x3 rp3 _ (.p ?_)
      rw [← rp2.ln]
      simp
    · unfold newL at h
      split at h
      · rename_i ds e2
        obtain ⟨rp3, x3⟩ := d2.adoptD rp2 (.inl ⟨_, rfl⟩) x2 hD
        have := dats_eq e2
        rw [this] at r2
        exact h _ _ H2 x3 rp3 _ (.d (.lst upd_same ((repDs_of r2).mono fun a u h => upd_some d2.fd h)))
      · exact h.elim
  cases m with
  | zero =>
    unfold loopC at h2
    split at h2
    · rename_i e; exact .inl (stop e h2)
    · exact h2.elim
  | succ m =>
    unfold loopC at h2
    split at h2
    · rename_i e; exact .inl (stop e h2)
    · rename_i w e
      refine .inr ⟨wk.go x2 rp2 i w e, fun H => ∃ F2 am2 M2 vs2 acc, Ext F1 am1 H1 F2 am2 H ∧ Rep Y F2 am2 M2 H ∧ Sd Y F2 am2 H D (.lst vs2) ∧ RepWs Y F2 am2 vs2 acc ∧ Aft Y (fun c d H' => Wx c d σ H') F1 am1 H1 ((loopC so t tt g putL (wipeE ρ vs) m (i + 1) acc M2).bind fun acc M2 => newW st acc M2) (fun F' am' _ w H' => ∀ v, RepW Y F' am' v w → Q v H'),
        fun H' q => ⟨m, Nat.lt_succ_self _, q⟩, fun x H3 y => ?_⟩
      obtain ⟨F3, am3, x3, rp3, r3⟩ := wk.yld x2 rp2 i w e x H3 y
      rw [R.bind_assoc] at h2
      have d3 := d2.ext x3
      refine ⟨F3, am3, M2, wipeE ρ vs, w, rp3, (((re.ext x1).wipe vs).ext x2).ext x3, r3, h2.noX.imp fun F4 am4 M4 ρ4 H4 x4 rp4 h4 σ4 p4 re4 => ⟨p4.trans (wipe_wipe σ vs), ?_⟩⟩
      rw [R.bind_assoc] at h4
      have d4 := d3.ext x4
      refine ⟨F4, am4, M4, ρ4, rp4, re4, h4.noX.imp fun F5 am5 M5 b H5 x5 rp5 h5 => ?_⟩
      have d5 := d4.ext x5
      have r5 := (r2.ext x3).ext (x4.trans x5)
      have xx := (x2.trans x3).trans (x4.trans x5)
      cases b with
      | false =>
        simp only [Bool.false_eq_true, if_false] at h5 ⊢
        exact ⟨F5, am5, M5, vs2, acc, xx, rp5, d5, r5, h5⟩
      | true =>
        simp only [if_true] at h5 ⊢
        rw [R.bind_assoc] at h5
        refine ⟨F5, am5, M5, ρ4, rp5, re4.ext x5, h5.noX.imp fun F6 am6 M6 z H6 x6 rp6 h6 v6 q6 => ?_⟩
        have d6 := d5.ext x6
        unfold putL at h6
        split at h6
        · rename_i acc' e6
          split at e6
          · rename_i hz
            cases e6
            obtain ⟨rp7, d7⟩ := d6.put rp6 (lst_nt (vs2 ++ [v6]))
            have hl := r2.length
            exact ⟨vs2, d6.hd, by rw [hl]; exact hz, F6, am6, M6, vs2 ++ [v6], acc ++ [z], (xx.trans x6).put hD, rp7, d7, (r5.ext x6).append (.cons q6 .nil), h6⟩
          · cases e6
        · exact h6.elim
    · exact h2.elim
theorem px_lc (st : Bool) (hc : X.calm = true) (hN : X.N.Nodup) (ok : BlkOk X.N X.env.scope scope own) (hi : PI X tg iter (iT Y Wx f))
    (hg : ∀ (s : Shared) (H : Hp) (C : Addr) (cl : List (Str × Addr)) (fp : List Addr), PG (X.blk s H scope (compEnvC scope cl C X.env) fp) tg (gT Y W0 (prW (own.map (·.2))) t))
    (ht : ∀ (s : Shared) (H : Hp) (C : Addr) (cl : List (Str × Addr)) (fp : List Addr), PTs (X.blk s H scope (compEnvC scope cl C X.env) fp) ifs (xB Y W0 tt))
    (he : ∀ (s : Shared) (H : Hp) (C : Addr) (cl : List (Str × Addr)) (fp : List Addr), PE (X.blk s H scope (compEnvC scope cl C X.env) fp) elt (xT Y W0 g)) (hs : ∀ x, foldedSetIterable iter X.env x = pure x := by intro _; rfl) :
    PE X (.ListComp elt [⟨tg, iter, ifs, 0⟩] scope pos) (xT Y Wx (xLc st f t tt g (own.map (·.2)))) := (pe_lc hc hN hi ok hg ht he hs).to fun σ H Q h => lc_run h
theorem ps_lcS (st : Bool) (i : Nat) {y : Str} {py spos : Pos} (hc : X.calm = true) (hN : X.N.Nodup) (ok : BlkOk X.N X.env.scope scope own) (hi : PI X tg iter (iT Y Wx f))
    (hg : ∀ (s : Shared) (H : Hp) (C : Addr) (cl : List (Str × Addr)) (fp : List Addr), PG (X.blk s H scope (compEnvC scope cl C X.env) fp) tg (gT Y W0 (prW (own.map (·.2))) t))
    (ht : ∀ (s : Shared) (H : Hp) (C : Addr) (cl : List (Str × Addr)) (fp : List Addr), PTs (X.blk s H scope (compEnvC scope cl C X.env) fp) ifs (xB Y W0 tt))
    (he : ∀ (s : Shared) (H : Hp) (C : Addr) (cl : List (Str × Addr)) (fp : List Addr), PE (X.blk s H scope (compEnvC scope cl C X.env) fp) elt (xT Y W0 g))
    (hsw : swapsWith (.ListComp elt [⟨tg, iter, ifs, 0⟩] scope pos) (some (.Name y py)) spos.line X.env = pure true) (hy : X.N[i]? = some y := by rfl) (hyl : X.env.scope.names.lookup y = some .local := by rfl) (hs : ∀ x, foldedSetIterable iter X.env x = pure x := by intro _; rfl) :
    PS X (.Assign [.Name y py] (.ListComp elt [⟨tg, iter, ifs, 0⟩] scope pos) spos) (sT Y Wx (sAsg (xLc st f t tt g (own.map (·.2))) (gN i))) := (ps_setLc hc hN hy hyl hsw hi ok hg ht he hs).to fun D σ H h => by
  obtain ⟨F, am, M, ρ, rp, re, h⟩ := h
  exact lc_run (Q := fun x H1 => gName i x σ H1 D.nx) (st := st) (g := g) ⟨F, am, M, ρ, rp, re, h.bindW.imp fun F1 am1 M1 w H1 x1 rp1 h1 v q => Aft.ret (a := Fl.nx (ρ.set i (some w))) (G := FlG Y D) rp1 h1 _ ((re.ext x1).set i q)⟩
end
end Pu
end
section
set_option linter.all false
set_option maxRecDepth 100000
set_option maxHeartbeats 4000000
/-! PuI: defs and their calls. -/
namespace Pu
open PySem PySem.Spec PyProof.Rows L2

abbrev Fn := List W → Store → R W
/-- what a body comes to -/
def endF (fl : Fl) (M : Store) : R W := match fl with
  | .rt w => .ok w M
  | .nx _ => .ok (.d .none) M
  | _ => .bad
def startE (n : Nat) (ws : List W) : Env := ws.map some ++ List.replicate (n - ws.length) none
def runF (n : Nat) (g : Sm) : Fn := fun ws M => (g (startE n ws) M).bind endF
def spF (Y : Wd) (n : Nat) (fn : Fn) : Sp := fun vs H Q E => ∃ F am M ws, Rep Y F am M H ∧ RepWs Y F am vs ws ∧ ws.length = n ∧ Aft Y E F am H (fn ws M) fun F' am' _ w H' => ∀ v, RepW Y F' am' v w → Q v H'
/-- room, and no repr under way -/
structure RG (b : Bool) (k : Nat) (A : Around) : Prop where
  r : Room k A
  g : b = true → A.guards = some []
theorem RG.mono {b c : Bool} {j k : Nat} {A : Around} (r : RG b k A) (h : j ≤ k) (hb : (!c || b) = true) : RG c j A := ⟨r.r.mono h, fun e => r.g (by rw [e] at hb; exact hb)⟩
theorem RG.deeper {b : Bool} {k : Nat} {A : Around} (r : RG b (k + 1) A) (env : PySem.Env) : RG b k (A.deeper env) := ⟨r.r.deeper env, r.g⟩
/-- a def's promise where no repr is under way -/
structure FnG (P : Program) (w : World) (K : PySem.W.Frag) (mg : Str → Option Value) (base : Heap) (b : Bool) (k : Nat) (f : Addr) (fd : FuncData) (ps : List Str) (sp : Sp) : Prop where
  len : ∀ vs H Q E, sp vs H Q E → vs.length = ps.length
  run : ∀ (A : Around) (outer : List PySem.Env) (s : Shared) (H : Hp) (args : Args) (us : List Value) (vs : List V) (Q : VK) (E : XK), RG b k A → Env0 P w K mg base A outer s H → BindsTo s fd args (ps.zip us) → Vals vs us → sp vs H Q E →
    codeAny (model P w) A (.call (.ref f) args) (CR (L2.CX P w) outer P w H s Q E) s
theorem FnG.mono {P : Program} {w : World} {K : PySem.W.Frag} {mg : Str → Option Value} {base : Heap} {b c : Bool} {j k : Nat} {f : Addr} {fd : FuncData} {ps : List Str} {sp : Sp} (F : FnG P w K mg base c j f fd ps sp) (h : j ≤ k) (hb : (!c || b) = true) : FnG P w K mg base b k f fd ps sp :=
  ⟨F.len, fun A outer s H args us vs Q E hr => F.run A outer s H args us vs Q E (hr.mono h hb)⟩
/-- a def of the module under its name -/
structure Okf (Y : Wd) (P : Program) (w : World) (mg : Str → Option Value) (base : Heap) (b : Bool) (k : Nat) (x : Str) (n : Nat) (fn : Fn) : Prop where
  ex : ∃ f fd ps, ps.length = n ∧ FnG P w Y.K mg base b k f fd ps (spF Y n fn) ∧ mg x = some (.ref f) ∧ PySem.W.keepIn Y.K (.ref f) = true ∧ L2.Binds Y.K fd ps []
theorem RepWs.len2 {Y : Wd} {F : Hp} {am : List Addr} {vs : List V} {ws : List W} (r : RepWs Y F am vs ws) : vs.length = ws.length := r.length
section
variable {X : Cx} {Y : Wd} {Wx : WX} {x : Str} {p pos : Pos} {e : Expr} {es : List Expr} {as : PAx} {fn : Fn} {b c : Bool} {j k n : Nat}
theorem run_g {pins : List (Addr × Obj)} {σ : L2.St} {H : Hp} {s : Shared} {Q : VK} {us : List Value} {vs : List V} {f : Addr} {fd : FuncData} {ps : List Str} {sp : Sp} {E : XK} (F : FnG X.prog X.w X.K X.mg X.base b k f fd ps sp) (hr : RG b k X.A) (hb : L2.Binds X.K fd ps []) (hx : PassesAt (L2.CX X.prog X.w) X σ E)
    (I : Inv X pins σ H s) (r : Vals vs us) (h : sp vs H Q E) : wpAny (model X.prog X.w) X.A (call (.ref f) us) (EP X pins σ Q) X.xe s := by
  have bb := hb s us I.kIn (by rw [List.append_nil, ← r.length]; exact F.len _ _ _ _ h)
  rw [List.append_nil] at bb
  refine wpAny_call (codeAny_mono (F.run X.A X.stack s H ⟨us, []⟩ us vs Q E hr I.env0 bb r h) fun o s' hq => ?_)
  match o, hq with
  | .error e, hq => exact hx pins H s e s' I hq
  | .ok (.ret u), hq => exact I.after hq
def xFn (fn : Fn) (as : PAx) : PEx := fun ρ M => (as ρ M).bind fn
/-- f(e, ..) -/
theorem px_fn (Fk : Okf Y X.prog X.w X.mg X.base c j x n fn) (hjk : j ≤ k) (hcb : (!c || b) = true) (hr : RG b k X.A) (tk : Takes X Wx) (hK : X.K = Y.K) (hg : Gl X x) (ha : PA X (e :: es) (xA Y Wx as)) (hn : ∀ ρ M ws M1, as ρ M = .ok ws M1 → ws.length = n) (hdb : (x == ("__debug__" : Str)) = false := by decide)
    (he : starEach (e :: es) X.env = (false, eval e X.env) :: starEach es X.env := by rfl) (hpl : (backTo pos (starEach es X.env)).any (·.1) = false := by rfl) : PE X (.Call (.Name x p) (e :: es) [] pos) (xT Y Wx (xFn fn as)) := by
  obtain ⟨f, fd, ps, hps, G, hm, hk, hb⟩ := Fk.ex
  rw [← hK] at G hk hb
  refine ⟨fun pins s σ H Q I h => ?_⟩
  refine wpAny_Call_Name_kw (ld_glob I hg hm ?_ hdb)
  obtain ⟨F, am, M, ρ, rp, re, h⟩ := h
  refine PySem.W.callWith_K (h₀ := X.base) I.ok.mod.kin hk (thn (ha.run pos pins s σ H (fun vs H1 => spF Y n fn vs H1 Q (fun c d H' => Wx c d σ H')) I ⟨F, am, M, ρ, rp, re, ?_⟩) fun us s1 ⟨vs, H1, I1, r, q⟩ => ⟨I1.kIn, run_g (G.mono hjk hcb) hr hb (passAt tk σ) I1 r q⟩) he hpl
  unfold xFn at h
  show Aft Y _ F am H (as ρ M) _
  cases q : as ρ M with
  | ok ws M1 =>
    rw [q] at h
    intro F1 am1 H1 x1 rp1 vs r
    exact ⟨F1, am1, M1, ws, rp1, r, hn _ _ _ _ q, Aft.from x1 h⟩
  | ex c M1 => rw [q] at h; exact h
  | bad => rw [q] at h; exact h.elim
theorem len_n {ρ : Env} {M M1 : Store} {ws : List W} (h : aNil ρ M = .ok ws M1) : ws.length = 0 := by
  cases h; rfl
theorem len_c {f : PEx} {as : PAx} {n : Nat} (h : ∀ ρ M ws M1, as ρ M = .ok ws M1 → ws.length = n) : ∀ ρ M ws M1, aCons f as ρ M = .ok ws M1 → ws.length = n + 1 := by
  intro ρ M ws M1 e
  unfold aCons at e
  cases q : f ρ M with
  | ok w M2 =>
    rw [q] at e
    have e : (as ρ M2).bind (fun zs M3 => .ok (w :: zs) M3) = R.ok ws M1 := e
    cases q2 : as ρ M2 with
    | ok zs M3 =>
      rw [q2] at e
      cases e
      rw [List.length_cons, h _ _ _ _ q2]
    | ex c M3 => rw [q2] at e; cases e
    | bad => rw [q2] at e; cases e
  | ex c M2 => rw [q] at e; cases e
  | bad => rw [q] at e; cases e
end
section
variable {Y : Wd} {P : Program} {w : World} {mg : Str → Option Value} {base : Heap} {b : Bool} {k : Nat}
theorem REnv.start {F : Hp} {am : List Addr} {vs : List V} {ws : List W} (r : RepWs Y F am vs ws) {N : List Str} {n : Nat} (hn : N.length = n) : REnv Y F am (L2.start N vs) (startE n ws) := by
  have hl := r.length
  subst hn
  unfold L2.start startE
  refine ⟨by simp [hl], fun i u h => ?_⟩
  by_cases hi : i < ws.length
  · rw [List.getElem?_append_left (by simpa using hi), List.getElem?_map] at h
    obtain ⟨u', e1, e2⟩ := Option.map_eq_some_iff.mp h
    cases e2
    obtain ⟨v, e3, q⟩ := r.get e1
    refine ⟨v, ?_, q⟩
    rw [List.getElem?_append_left (by simpa [hl] using hi), List.getElem?_map, e3] <;> rfl
  · rw [List.getElem?_append_right (by simpa using hi)] at h
    have := List.mem_of_getElem? h
    have := List.eq_of_mem_replicate this
    cases this
/-- THE RULE for a def -/
theorem fng_of {x : Str} {params : Arguments} {body : List Stmt} {scope : Scope} {f : Addr} {fd : FuncData} {N ps : List Str} {n m : Nat} {g : Sm} (D : FunD Y.K x x params body scope [] [] f fd) (hf : f = He.fAd Y.K (x, none)) (S : FnScope N ps scope) (hps : ps.length = n) (hN : N.length = m)
    (hbody : ∀ (cdv : Value) (_ : cdv = .ref (He.codeOf Y.K (x, none))) (A : Around) (outer : List PySem.Env) (s : Shared) (H : Hp) (E : XK), RG b k (A.deeper (envOfC x scope s.heap.objs.size f cdv)) →
      PSs (cxOf (L2.CX P w) P w Y.K mg base N x scope f cdv A outer s H E) body (sT Y (fun c d _ H' => E c d H') g)) : FnG P w Y.K mg base b (k + 1) f fd ps (spF Y n (runF m g)) := by
  obtain ⟨oc, od, dV, kV, doc, pm, an, cdv, ct, osl, hfd, lk, hcd, hD, _⟩ := D.ex
  have len : ∀ vs H Q E, spF Y n (runF m g) vs H Q E → vs.length = ps.length := fun vs H Q E ⟨F, am, M, ws, _, r, hl, _⟩ => by rw [r.length, hl, hps]
  refine ⟨len, fun A outer s H args us vs Q E hr e0 hb r hsp => ?_⟩
  subst hfd
  have hc : cdv = .ref (He.codeOf Y.K (x, none)) := by
    obtain ⟨c, e⟩ := He.codeIn_ref hcd
    rw [e, He.codeOf_eq (p := (x, none)) (by rw [← hf]; exact lk) e]
  refine LamX.run_ofS (N := N) lk hcd S hr.r e0 hb r (len _ _ _ _ hsp) fun _ => ?_
  obtain ⟨F, am, M, ws, rp, rw', hl, h⟩ := hsp
  refine ⟨_, hbody cdv hc A outer s H E (hr.deeper _), F, am, M, startE m ws, rp, REnv.start rw' hN, ?_⟩
  have h : Aft Y E F am H ((g (startE m ws) M).bind endF) fun F' am' _ w H' => ∀ v, RepW Y F' am' v w → Q v H' := h
  refine (h.bind.imp fun F1 am1 M1 fl H1 x1 rp1 h1 => ?_).wx fun c d H' z _ => z
  cases fl with
  | nx ρ => exact fun σ _ => Aft.ret (a := W.d .none) rp1 h1 _ (.d .non)
  | rt w => exact fun v q => Aft.ret (a := w) rp1 h1 v q
  | bk ρ => exact h1.elim
  | ct ρ => exact h1.elim
theorem okf_of {x : Str} {params : Arguments} {body : List Stmt} {scope : Scope} {f : Addr} {fd : FuncData} {N ps : List Str} {n m : Nat} {g : Sm} (D : FunD Y.K x x params body scope [] [] f fd) (hf : f = He.fAd Y.K (x, none)) (hm : mg x = some (.ref f)) (S : FnScope N ps scope) (hps : ps.length = n) (hN : N.length = m)
    (hbind : ∀ (kV doc pm : Value) (an : Option Addr) (cdv ct : Value) (us : List Value), us.length = ps.length → bindArgs (PySem.W.fnOf x x params body scope .none kV doc pm an cdv ct) ⟨us, []⟩ = pure (ps.zip us))
    (hbody : ∀ (cdv : Value) (_ : cdv = .ref (He.codeOf Y.K (x, none))) (A : Around) (outer : List PySem.Env) (s : Shared) (H : Hp) (E : XK), RG b k (A.deeper (envOfC x scope s.heap.objs.size f cdv)) →
      PSs (cxOf (L2.CX P w) P w Y.K mg base N x scope f cdv A outer s H E) body (sT Y (fun c d _ H' => E c d H') g)) : Okf Y P w mg base b (k + 1) x n (runF m g) := by
  refine ⟨f, fd, ps, hps, fng_of D hf S hps hN hbody, hm, D.kp, ?_⟩
  obtain ⟨oc, od, dV, kV, doc, pm, an, cdv, ct, osl, hfd, lk, hcd, hD, _⟩ := D.ex
  have hdV : dV = .none := by
    rcases hD with ⟨_, e⟩ | ⟨e, _⟩
    · exact e
    · exact absurd rfl e
  subst hdV
  rw [hfd]
  exact .all (hbind kV doc pm an cdv ct)
/-! ### what the head tells -/
structure Said (fa : List He.Fa) (fn : List He.DefD) (Y : Wd) (mg : Str → Option Value) : Prop where
  h : ∃ h : Heap, Y.K.In h ∧ h.Ns mainGlobals mg
  c : He.SaysD fa fn Y.K
section
variable {fa : List He.Fa} {fn : List He.DefD} (S : Said fa fn Y mg)
include S
theorem Said.glo (i : Nat) {x : Str} (e : fa[i]? = some (.glo x)) : mg x = some (.ref (He.ga Y.K x)) := let ⟨_, h1, h2⟩ := S.h; He.glo_ok h1 h2 (S.c.fact i e)
theorem Said.free (i : Nat) {x : Str} (e : fa[i]? = some (.free x)) : mg x = none := let ⟨_, h1, h2⟩ := S.h; He.free_ok h1 h2 (S.c.fact i e)
theorem Said.int (i : Nat) {x : Str} {n : Int} (e : fa[i]? = some (.int x n)) : ∃ t, mg x = some (.int n t) := let ⟨_, h1, h2⟩ := S.h; He.int_ok h1 h2 (S.c.fact i e)
theorem Said.str (i : Nat) {x z : Str} (e : fa[i]? = some (.str x z)) : ∃ t, mg x = some (.str z t) := let ⟨_, h1, h2⟩ := S.h; He.str_ok h1 h2 (S.c.fact i e)
theorem Said.dfn (i : Nat) {d : He.DefD} (e : fn[i]? = some d) : ∃ fd, FunD Y.K d.name d.qual d.params d.body d.scope (d.dvs Y.K) (d.kws Y.K) (He.fAd Y.K d.at_) fd := S.c.def_ i e
end
end
end Pu
end
section
set_option linter.all false
set_option maxRecDepth 100000
set_option maxHeartbeats 4000000
/-! PuJ: module constants, methods, while, raise, sum, repr. -/
namespace Pu
open PySem PySem.Spec PyProof.Rows L2

/-! ### module constants -/
section
variable {X : Cx} {Y : Wd} {Wx : WX} {x : Str} {pos : Pos}
theorem px_gi {i : Int} (hm : ∃ t, X.mg x = some (.int i t)) (hg : Gl X x) (hd : (x == ("__debug__" : Str)) = false := by decide) : PE X (.Name x pos) (xT Y Wx (xC (.int i))) := by
  obtain ⟨t, hm⟩ := hm
  exact px_c (pe_glob hg hm (v := .int i) ⟨t, rfl⟩ hd) fun _ => .int i
theorem px_gs {z : Str} (hm : ∃ t, X.mg x = some (.str z t)) (hg : Gl X x) (hd : (x == ("__debug__" : Str)) = false := by decide) : PE X (.Name x pos) (xT Y Wx (xC (.str z))) := by
  obtain ⟨t, hm⟩ := hm
  exact px_c (pe_glob hg hm (v := .str z) ⟨t, rfl⟩ hd) fun _ => .str z
end
/-- a tuple of the module's text -/
def KTup (Y : Wd) (mg : Str → Option Value) (x : Str) (ds : List PyData) : Prop := ∃ a vs, mg x = some (.ref a) ∧ (∀ H, SqT Y.K H a vs) ∧ ∀ F, RepDs Y.K F vs ds
/-- what an operator says of such a right side -/
def OpSK (Y : Wd) (ds : List PyData) (op : W → W → Store → R W) (r : R2) : Prop := ∀ (F : Hp) (am : List Addr) (M : Store) (H : Hp) (v : V) (a : Addr) (vs : List V) (w : W) (Wx : Value → Option Addr → Hp → Prop) (Q : VK), Rep Y F am M H → RepW Y F am v w → SqT Y.K H a vs → RepDs Y.K F vs ds →
  Aft Y Wx F am H (op w (.d (.tuple ds)) M) (fun F' am' _ z H' => ∀ v, RepW Y F' am' v z → Q v H') → r v (.ref a) H Q
section
variable {X : Cx} {Y : Wd} {Wx : WX} {a : Expr} {f : PEx} {pos p : Pos} {c : Str} {ds : List PyData}
theorem k_run {op : W → W → Store → R W} {r : R2} {b : Addr} {vs : List V} (s : OpSK Y ds op r) (h1 : ∀ H, SqT Y.K H b vs) (h2 : ∀ F, RepDs Y.K F vs ds) {σ : L2.St} {H : Hp} {Q : VK} (h : xT Y Wx (x2 op f (xC (.tuple ds))) σ H Q) : tOp r (xT Y Wx f) (tC (.ref b)) σ H Q := by
  obtain ⟨F, am, M, ρ, rp, re, h⟩ := h
  exact ⟨F, am, M, ρ, rp, re, h.bind.imp fun F1 am1 M1 w H1 x1 rp1 h1' v q => s F1 am1 M1 H1 v b vs w _ Q rp1 q (h1 H1) (h2 F1) h1'⟩
theorem px_cmpK {o : CmpOp} {op : W → W → Store → R W} {r : R2} (k : KTup Y X.mg c ds) (s : OpSK Y ds op r) (ho : OpR X (compareOp o) r) (ha : PE X a (xT Y Wx f)) (hg : Gl X c) (hm : behindInMarks o (.Name c p) = false := by first | exact nomark _ | rfl | with_unfolding_all rfl) (hd : (c == ("__debug__" : Str)) = false := by decide) :
    PE X (.Compare a [o] [.Name c p] pos) (xT Y Wx (x2 op f (xC (.tuple ds)))) := by
  obtain ⟨b, vs, hb, h1, h2⟩ := k
  exact (pe_cmpR ho ha (pe_glob hg hb (v := .ref b) rfl hd) hm).to fun _ _ _ h => k_run s h1 h2 h
theorem pt_cmpK {o : CmpOp} {op : W → W → Store → R W} {r : R2} (k : KTup Y X.mg c ds) (s : OpSK Y ds op r) (ho : OpR X (compareOp o) r) (ha : PE X a (xT Y Wx f)) (hg : Gl X c) (hm : behindInMarks o (.Name c p) = false := by first | exact nomark _ | rfl | with_unfolding_all rfl) (hd : (c == ("__debug__" : Str)) = false := by decide) :
    PT X (.Compare a [o] [.Name c p] pos) (xB Y Wx (tE (x2 op f (xC (.tuple ds))))) := by
  obtain ⟨b, vs, hb, h1, h2⟩ := k
  exact (pt_cmpR ho ha (pe_glob hg hb (v := .ref b) rfl hd) hm).to fun _ _ _ h => k_run s h1 h2 (tE_run h)
theorem pi_k {tg : Expr} (k : KTup Y X.mg c ds) (hg : Gl X c) (hK : X.K = Y.K := by rfl) (hd : (c == ("__debug__" : Str)) = false := by decide) : PI X tg (.Name c p) (iT Y Wx (iW (xC (.tuple ds)))) := by
  obtain ⟨b, vs, hb, h1, h2⟩ := k
  refine (pi_any (pe_glob hg hb (v := .ref b) rfl hd)).to fun σ H Q h => ?_
  obtain ⟨F, am, M, ρ, rp, re, h⟩ := h
  rw [hK]
  have h : Aft Y (fun c d H' => Wx c d σ H') F am H (.ok (soL (ds.map .d)) M) (fun F' am' _ so H' => ∀ J, Walk Y F' am' H' J so → Q J H') := h
  refine .inr (.inl ⟨b, rfl, ⟨vs, h1 H⟩, h.ret rp _ ⟨fun {F1 am1 M1 H1} x rp1 i e => ⟨vs, h1 H1, ?_⟩, fun {F1 am1 M1 H1} x rp1 i w e => ?_, fun {F1 am1 M1 H1} x rp1 i w e y H' q => ?_⟩⟩)
  · have := List.getElem?_eq_none_iff.mp (Option.some.inj e)
    rw [RepWs.length (repWs_of (Y := Y) (am := am) (h2 F))]; exact this
  · obtain ⟨v, e1, _⟩ := (repWs_of (Y := Y) (am := am1) (h2 F1)).get (Option.some.inj e)
    exact ⟨vs, v, h1 H1, e1⟩
  · obtain ⟨v, e1, r1⟩ := (repWs_of (Y := Y) (am := am1) (h2 F1)).get (Option.some.inj e)
    obtain ⟨rfl, q⟩ := q
    have := q vs (h1 _)
    rw [e1] at this
    cases this
    exact ⟨F1, am1, Ext.refl .., rp1, r1⟩
theorem s_neK : OpSK Y ds pNe (rNeA Y.K) := by
  intro F am M H v a vs w Wx Q rp r h1 h2 h
  unfold pNe at h
  rw [strB_tup] at h
  refine .inr ?_
  cases e : eqW w (.d (.tuple ds)) M with
  | none => rw [e] at h; exact h.elim
  | some b =>
    rw [e] at h
    obtain ⟨x, y, e1, e2, e3, e4, e5⟩ := eqW_some e
    cases e2
    subst e5
    exact ⟨x, _, rp.dat r e1, .tup h1 (h2.dp rp.fz), e3, e4, h.ret rp _ (.d (.bl _))⟩
theorem s_eqK : OpSK Y ds pEq (rEqA Y.K) := by
  intro F am M H v a vs w Wx Q rp r h1 h2 h
  unfold pEq at h
  rw [strB_tup] at h
  refine .inr ?_
  cases e : eqW w (.d (.tuple ds)) M with
  | none => rw [e] at h; exact h.elim
  | some b =>
    rw [e] at h
    obtain ⟨x, y, e1, e2, e3, e4, e5⟩ := eqW_some e
    cases e2
    subst e5
    exact ⟨x, _, rp.dat r e1, .tup h1 (h2.dp rp.fz), e3, e4, h.ret rp _ (.d (.bl _))⟩
theorem s_inK : OpSK Y ds pIn (rInA Y.K false) := by
  intro F am M H v a vs w Wx Q rp r h1 h2 h
  unfold pIn at h
  cases e : hasW w (.d (.tuple ds)) M with
  | none => rw [e] at h; exact h.elim
  | some b =>
    rw [e] at h
    obtain ⟨x, hx, h3⟩ := Option.bind_eq_some_iff.mp e
    exact inSeq_run (rp.dat r hx) (h2.dp rp.fz) (.inr ⟨rfl, h1⟩) h3 (h.ret rp _ (.d (.bl _)))
theorem s_notInK : OpSK Y ds pNotIn (rInA Y.K true) := by
  intro F am M H v a vs w Wx Q rp r h1 h2 h
  unfold pNotIn at h
  cases e : hasW w (.d (.tuple ds)) M with
  | none => rw [e] at h; exact h.elim
  | some b =>
    rw [e] at h
    obtain ⟨x, hx, h3⟩ := Option.bind_eq_some_iff.mp e
    exact inSeq_run (rp.dat r hx) (h2.dp rp.fz) (.inr ⟨rfl, h1⟩) h3 (h.ret rp _ (.d (.bl _)))
end

/-! ### methods of built-in types -/
def xM (T : String) (op : W → List W → Store → R W) (f : PEx) (as : PAx) : PEx := fun ρ M => (f ρ M).bind fun w M1 => if tyW M1 w = some T then (as ρ M1).bind fun ws M2 => op w ws M2 else .bad
def MtS (Y : Wd) (op : W → List W → Store → R W) (r : V → List V → Hp → VK → Prop) : Prop := ∀ (F : Hp) (am : List Addr) (M : Store) (H : Hp) (v : V) (vs : List V) (w : W) (ws : List W) (Wx : Value → Option Addr → Hp → Prop) (Q : VK), Rep Y F am M H → RepW Y F am v w → RepWs Y F am vs ws →
  Aft Y Wx F am H (op w ws M) (fun F' am' _ z H' => ∀ v, RepW Y F' am' v z → Q v H') → r v vs H Q
theorem Rep.tyV {Y : Wd} {F : Hp} {am : List Addr} {M : Store} {H : Hp} (rp : Rep Y F am M H) {v : V} {w : W} (r : RepW Y F am v w) {T : String} (h : tyW M w = some T) (hT : T = "list" ∨ T = "str" ∨ T = "dict") : L2.tyV Y.K T v H := by
  have no : ∀ {U : String}, some U = some T → U ≠ "list" → U ≠ "str" → U ≠ "dict" → False := fun {U} e a b c => by
    have e := Option.some.inj e
    subst e
    rcases hT with z | z | z
    · exact a z
    · exact b z
    · exact c z
  cases r with
  | d r =>
    cases r with
    | non => exact (no h (by decide) (by decide) (by decide)).elim
    | bl b => exact (no h (by decide) (by decide) (by decide)).elim
    | int b => exact (no h (by decide) (by decide) (by decide)).elim
    | str b => exact (Option.some.inj h).symm
    | lst h1 h2 => exact .inl ⟨(Option.some.inj h).symm, _, .inl (.inl (rp.fz _ _ h1))⟩
    | tup h1 h2 => exact (no h (by decide) (by decide) (by decide)).elim
  | p ha =>
    rename_i n
    unfold tyW at h
    simp only at h
    split at h
    · rename_i e
      obtain ⟨vs, h1, _⟩ := rp.lst ha e
      exact .inl ⟨(Option.some.inj h).symm, _, .inl (.inl h1)⟩
    · rename_i e
      obtain ⟨vs, h1, _⟩ := rp.dK ha e
      exact .inr (.inr (.inl ⟨(Option.some.inj h).symm, .inl ⟨_, h1⟩⟩))
    · rename_i e
      obtain ⟨vs, h1, _⟩ := rp.dT ha e
      exact .inr (.inr (.inl ⟨(Option.some.inj h).symm, .inr ⟨_, h1⟩⟩))
    · cases h
  | scr => cases h
section
variable {X : Cx} {Y : Wd} {Wx : WX} {o e : Expr} {es : List Expr} {f : PEx} {as : PAx} {name : Str} {apos cpos : Pos} {T id : String} {r : V → List V → Hp → VK → Prop} {op : W → List W → Store → R W}
theorem px_m (s : MtS Y op r) (hT : T = "list" ∨ T = "str" ∨ T = "dict") (pa : PlainAttrs T) (slot : Slot T name id) (hty : typeOf (.builtin id) = pure (.type "method_descriptor")) (hm : MtR X id r) (ho : PE X o (xT Y Wx f)) (ha : PA X (e :: es) (xA Y Wx as)) (hK : X.K = Y.K := by rfl)
    (hbase : attributeBase o name X.env (eval o X.env) = eval o X.env := by rfl)
    (hfew : ((backTo cpos (starEach (e :: es) X.env)).all (fun x => !x.1) && (backToKw cpos (keywordEach [] X.env)).all (fun x => x.1.isSome)
      && decide ((e :: es).length + ([] : List Keyword).length + (if ([] : List Keyword).isEmpty then 0 else 1) < 30)) = true := by rfl)
    (hline : (apos.endLine == cpos.line) = true := by rfl) (hs : starEach (e :: es) X.env = (false, eval e X.env) :: starEach es X.env := by rfl) (hplain : (backTo cpos (starEach es X.env)).any (·.1) = false := by rfl) :
    PE X (.Call (.Attribute o name apos) (e :: es) [] cpos) (xT Y Wx (xM T op f as)) := (pe_bm pa slot hty hm ho ha hbase hfew hline hs hplain).to fun σ H Q h => by
  obtain ⟨F, am, M, ρ, rp, re, h⟩ := h
  refine ⟨F, am, M, ρ, rp, re, h.bind.imp fun F1 am1 M1 w H1 x1 rp1 h1 v q => ?_⟩
  split at h1
  · rename_i ht
    refine ⟨by rw [hK]; exact rp1.tyV q ht hT, F1, am1, M1, ρ, rp1, re.ext x1, h1.bind.imp fun F2 am2 M2 ws H2 x2 rp2 h2 vs q2 => ?_⟩
    exact s F2 am2 M2 H2 v vs w ws _ Q rp2 (q.ext x2) q2 h2
  · exact h1.elim
theorem px_m0 (s : MtS Y op r) (hT : T = "list" ∨ T = "str" ∨ T = "dict") (pa : PlainAttrs T) (slot : Slot T name id) (hty : typeOf (.builtin id) = pure (.type "method_descriptor")) (hm : MtR X id r) (ho : PE X o (xT Y Wx f)) (hK : X.K = Y.K := by rfl)
    (hbase : attributeBase o name X.env (eval o X.env) = eval o X.env := by rfl) (hline : (apos.endLine == cpos.line) = true := by rfl) :
    PE X (.Call (.Attribute o name apos) [] [] cpos) (xT Y Wx (xM T op f aNil)) := (pe_bm0 pa slot hty hm ho hbase hline).to fun σ H Q h => by
  obtain ⟨F, am, M, ρ, rp, re, h⟩ := h
  refine ⟨F, am, M, ρ, rp, re, h.bind.imp fun F1 am1 M1 w H1 x1 rp1 h1 v q => ?_⟩
  split at h1
  · rename_i ht
    have h1 : Aft Y (fun c d H' => Wx c d σ H') F1 am1 H1 (op w [] M1) (fun F' am' _ z H' => ∀ v, RepW Y F' am' v z → Q v H') := h1
    exact ⟨by rw [hK]; exact rp1.tyV q ht hT, s F1 am1 M1 H1 v [] w [] _ Q rp1 q .nil h1⟩
  · exact h1.elim
end
/-- l.append(x) -/
def pAppend (w : W) (as : List W) (M : Store) : R W := match w, as with
  | .p n, [u] => match M[n]? with
    | some (.lst ws) => if ws.length < sizeLine then .ok (.d .none) (M.set n (.lst (ws ++ [u]))) else .bad
    | _ => .bad
  | _, _ => .bad
theorem RepW.pl {Y : Wd} {F : Hp} {am : List Addr} {v : V} {n : Nat} (r : RepW Y F am v (.p n)) : ∃ a, v = .ref a ∧ am[n]? = some a := by
  cases r with | p h => exact ⟨_, rfl, h⟩
theorem s_append {Y : Wd} : MtS Y pAppend rAppend := by
  intro F am M H v vs w ws Wx Q rp r rs h
  unfold pAppend at h
  split at h
  · rename_i n u
    obtain ⟨a, rfl, ha⟩ := r.pl
    obtain ⟨y, rfl, ry⟩ := rs.one
    split at h
    · rename_i ws e
      split at h
      · rename_i hz
        obtain ⟨xs, h1, h2⟩ := rp.lst ha e
        obtain ⟨rp', x⟩ := rp.write ha (o := .lst (xs ++ [y])) (.lst (h2.append (.cons ry .nil)))
        exact ⟨a, xs, y, rfl, rfl, h1, by rw [h2.length]; exact hz, h _ _ _ x rp' _ (.d .non)⟩
      · exact h.elim
    · exact h.elim
  · exact h.elim
/-- l.extend(k) -/
def pExtend (w : W) (as : List W) (M : Store) : R W := match w, as with
  | .p n, [u] => match M[n]?, isLst M u with
    | some (.lst ws), some zs => if ws.length + zs.length ≤ sizeLine then .ok (.d .none) (M.set n (.lst (ws ++ zs))) else .bad
    | _, _ => .bad
  | _, _ => .bad
theorem s_extend {Y : Wd} : MtS Y pExtend rExtend := by
  intro F am M H v vs w ws Wx Q rp r rs h
  unfold pExtend at h
  split at h
  · rename_i n u
    obtain ⟨a, rfl, ha⟩ := r.pl
    obtain ⟨y, rfl, ry⟩ := rs.one
    split at h
    · rename_i ws zs e e2
      split at h
      · rename_i hz
        obtain ⟨xs, h1, h2⟩ := rp.lst ha e
        obtain ⟨b, ys, rfl, h3, h4⟩ := rp.isLst ry e2
        obtain ⟨rp', x⟩ := rp.write ha (o := .lst (xs ++ ys)) (.lst (h2.append h4))
        exact ⟨a, b, xs, ys, rfl, rfl, h1, h3, by rw [h2.length, h4.length]; exact hz, h _ _ _ x rp' _ (.d .non)⟩
      · exact h.elim
    · exact h.elim
  · exact h.elim
/-- x.split(sep) -/
def pSplit (w : W) (as : List W) (M : Store) : R W := match w, as with
  | .d (.str a), [.d (.str b)] => if (b.length == 0) = false ∧ a.length + 2 ≤ sizeLine then .ok (.d (.list ((Txt.split a b).map .str))) M else .bad
  | _, _ => .bad
theorem repDs_strs {K : PySem.W.Frag} {F : Hp} : ∀ ys : List Str, RepDs K F (ys.map V.str) (ys.map .str)
  | [] => .nil
  | y :: ys => .cons (.str y) (repDs_strs ys)
theorem s_split {Y : Wd} : MtS Y pSplit (fun x xs H Q => ∃ a b, x = .str a ∧ xs = [.str b] ∧ (b.length == 0) = false ∧ a.length + 2 ≤ sizeLine ∧ rNewStrs (Txt.split a b) H Q) := by
  intro F am M H v vs w ws Wx Q rp r rs h
  unfold pSplit at h
  split at h
  · rename_i a b
    obtain ⟨y, rfl, ry⟩ := rs.one
    split at h
    · rename_i hz
      exact ⟨a, b, r.str, by rw [ry.str], hz.1, hz.2, fun p hp => Aft.newL rp hp (repDs_strs _) h⟩
    · exact h.elim
  · exact h.elim
/-- sep.join(xs) -/
def strsW : List W → Option (List Str)
  | [] => some []
  | .d (.str b) :: r => (strsW r).map (b :: ·)
  | _ :: _ => none
theorem strsW_rep {Y : Wd} {F : Hp} {am : List Addr} : ∀ {ws : List W} {vs : List V} {bs : List Str}, RepWs Y F am vs ws → strsW ws = some bs → vs = bs.map V.str
  | [], _, _, .nil, h => by cases h; rfl
  | w :: r, _, bs, .cons q t, h => by
    cases w with
    | d x =>
      cases x with
      | str b =>
        have h' : (strsW r).map (b :: ·) = some bs := h
        obtain ⟨cs, e1, e2⟩ := Option.map_eq_some_iff.mp h'
        subst e2
        rw [q.str, strsW_rep t e1] <;> rfl
      | _ => cases h
    | _ => cases h
def pJoin (w : W) (as : List W) (M : Store) : R W := match w, as with
  | .d (.str a), [u] => match (lstOf M u).bind strsW with
    | some ys => if (ys.map (·.length)).sum + ys.length * a.length ≤ 16777216 then .ok (.d (.str (Txt.join a ys))) M else .bad
    | none => .bad
  | _, _ => .bad
theorem s_join {Y : Wd} : MtS Y pJoin (fun x xs H Q => ∃ a p, ∃ ys : List Str, x = .str a ∧ xs = [.ref p] ∧ (SqL Y.K H p (ys.map V.str) ∨ SqT Y.K H p (ys.map V.str)) ∧
      (ys.map (·.length)).sum + ys.length * a.length ≤ 16777216 ∧ Q (.str (Txt.join a ys)) H) := by
  intro F am M H v vs w ws Wx Q rp r rs h
  unfold pJoin at h
  split at h
  · rename_i a u
    obtain ⟨y, rfl, ry⟩ := rs.one
    split at h
    · rename_i ys e
      split at h
      · rename_i hz
        obtain ⟨us, e1, e2⟩ := Option.bind_eq_some_iff.mp e
        obtain ⟨b, zs, rfl, hb, r2⟩ := rp.seq ry e1
        rw [strsW_rep r2 e2] at hb
        exact ⟨a, b, ys, r.str, rfl, hb, hz, h.ret rp _ (.d (.str _))⟩
      · exact h.elim
    · exact h.elim
  · exact h.elim

/-! ### while -/
def loopW (t : PTx) (g : Sm) : Nat → Sm
  | 0 => fun _ _ => .bad
  | k + 1 => fun ρ M => (t ρ M).bind fun b M1 => if b = true then (g ρ M1).bind fun fl M2 => match fl with
      | .nx ρ2 => loopW t g k ρ2 M2
      | .ct ρ2 => loopW t g k ρ2 M2
      | .bk ρ2 => .ok (.nx ρ2) M2
      | .rt w => .ok (.rt w) M2
    else .ok (.nx ρ) M1
def sWhile (n : Nat) (t : PTx) (g : Sm) : Sm := loopW t g n
section
variable {X : Cx} {Y : Wd} {Wx : WX} {c : Expr} {t : PTx} {g : Sm} {pos : Pos}
theorem ps_whileS {body : List Stmt} (n : Nat) (hp : PassesOwn (model X.prog X.w) X.A X.env X.xe) (hc : PT X c (xB Y Wx t)) (hb : PSs X body (sT Y Wx g)) : PS X (.While c body [] pos) (sT Y Wx (sWhile n t g)) := (ps_while hp hc hb).to fun D σ H h => by
  obtain ⟨F, am, M, ρ, rp, re, h⟩ := h
  refine ⟨fun m σ H => ∃ F am M ρ, Rep Y F am M H ∧ REnv Y F am σ ρ ∧ Aft Y (fun c d H' => ∀ σ', Wx c d σ' H') F am H (loopW t g m ρ M) (FlG Y D), ⟨n, F, am, M, ρ, rp, re, h⟩, ?_⟩
  rintro m σ1 H1 ⟨F1, am1, M1, ρ1, rp1, re1, h1⟩
  cases m with
  | zero => exact h1.elim
  | succ m =>
    unfold loopW at h1
    refine ⟨F1, am1, M1, ρ1, rp1, re1, h1.bindW.imp fun F2 am2 M2 b H2 x2 rp2 h2 => ?_⟩
    cases b with
    | false => exact Aft.ret (a := Fl.nx ρ1) (G := FlG Y D) rp2 h2 σ1 (re1.ext x2)
    | true =>
      refine ⟨fun σ H => ∃ F am M ρ, Rep Y F am M H ∧ REnv Y F am σ ρ ∧ Aft Y (fun c d H' => ∀ σ', Wx c d σ' H') F am H (loopW t g m ρ M) (FlG Y D), fun σ' H' q => ⟨m, Nat.lt_succ_self _, q⟩, F2, am2, M2, ρ1, rp2, re1.ext x2, ?_⟩
      have h2 : Aft Y (fun c d H' => ∀ σ', Wx c d σ' H') F2 am2 H2 ((g ρ1 M2).bind fun fl M2 => match fl with
        | .nx ρ2 => loopW t g m ρ2 M2
        | .ct ρ2 => loopW t g m ρ2 M2
        | .bk ρ2 => .ok (.nx ρ2) M2
        | .rt w => .ok (.rt w) M2) (FlG Y D) := h2
      refine h2.bind.imp fun F3 am3 M3 fl H3 x3 rp3 h3 => ?_
      cases fl with
      | nx ρ5 => exact fun σ5 re5 => ⟨F3, am3, M3, ρ5, rp3, re5, h3⟩
      | ct ρ5 => exact fun σ5 re5 => ⟨F3, am3, M3, ρ5, rp3, re5, h3⟩
      | bk ρ5 => exact fun σ5 re5 => Aft.ret (a := Fl.nx ρ5) (G := FlG Y D) rp3 h3 σ5 re5
      | rt w5 => exact Aft.ret (a := Fl.rt w5) (G := FlG Y D) rp3 h3
/-! ### raise -/
def sRaise (x : Str) : Sm := fun _ M => .ex x M
/-- an own exception class, below ValueError, without fields -/
structure ExcC (Y : Wd) (mg : Str → Option Value) (x : Str) : Prop where
  gC : mg x = some (.ref (He.ga Y.K x))
  q : PySem.W.excIn Y.K (He.ga Y.K x) He.veBase "ValueError.__new__" = true
  kp : PySem.W.keepIn Y.K (.ref (He.ga Y.K x)) = true
  sb : PySem.W.subIn Y.K (.ref (He.ga Y.K x)) (.type "BaseException") = some true
  ty : PySem.W.typeIn Y.K (.ref (He.ga Y.K x)) = some (.type "type")
theorem ps_raiseS {x : Str} {p pos2 : Pos} (E : ExcC Y X.mg x) (hc : X.calm = true) (tk : Takes X Wx) (hg : Gl X x) (hK : X.K = Y.K := by rfl) (hdb : (x == ("__debug__" : Str)) = false := by decide) : PS X (.Raise (some (.Call (.Name x p) [] [] pos)) none pos2) (sT Y Wx (sRaise x)) := by
  have mk : PMk X (.Call (.Name x p) [] [] pos) (fun _ H Q => Q (.ref (He.ga Y.K x)) none H) := by
    intro pins s σ H Q I h
    obtain ⟨gC, q, kp, sb, ty⟩ := E
    refine wpAny_Call_Name_kw (ld_glob I hg gC ?_ hdb)
    refine PySem.W.callWith_K0 I.kIn (by rw [hK]; exact kp) ?_
    obtain ⟨bm, N, nm, qn, bs, hdct, sn, sub, ab, col, dd, k0, k1, k2, k3, k5, mN, hC, hN, hni, T⟩ := exc_obj (bmB := He.veBase) (newId := "ValueError.__new__") I.kIn (by rw [hK]; exact q)
    refine wpAny_call_exc_subT PySem.F.excBase_ValueError T hC hN hni (fun h' e hm => ?_) (by show 0 ≤ sizeLine; omega)
    exact mk_of I hm (raises_own (by rw [hK]; exact sb) (by rw [hK]; exact ty)) h (I.hok.gone hm.new)
  refine (ps_raise hc tk mk).to fun D σ H h => ?_
  obtain ⟨F, am, M, ρ, rp, re, h⟩ := h
  exact h F am H (Ext.refl ..) rp σ
end

/-! ### sum of a list, a tuple -/
abbrev rSumA (K : PySem.W.Frag) : List V → Hp → VK → Prop := fun vs H Q => rSum K vs H Q ∨ ∃ (a : Addr) (ns : List Int), vs = [V.ref a] ∧ SqT K H a (ns.map V.int) ∧ Q (.int ns.sum) H
theorem cr_sumT {X : Cx} (hc : X.calm = true) : CallR X (.builtin "sum") (fun vs H Q => ∃ (a : Addr) (ns : List Int), vs = [V.ref a] ∧ SqT X.K H a (ns.map V.int) ∧ Q (.int ns.sum) H) := by
  intro pins s σ H vs us Q I r h
  obtain ⟨a, ns, rfl, hs, q⟩ := h
  obtain ⟨its, rv, hl, _⟩ := I.tuple hs
  rw [Vals.ref1 r]
  have hi := rv.ints
  obtain ⟨xs, e⟩ := hi.allInts.items
  have hn : numsOf (intItems xs).toList = ns := by rw [← e]; exact hi.numsOf
  rw [nums_intItems] at hn
  have hl : s.heap.IsTuple a its.toArray := hl
  rw [e] at hl
  refine PySem.W.ktm_sumG (I.ok.hd hc) hl fun h' tk t' hk => ?_
  rw [preSum_eq, List.take_of_length_le (by simp), hn]
  exact ⟨.int _, H, I.kept hk, ⟨_, rfl⟩, q⟩
theorem or_sum {X : Cx} (hc : X.calm = true) : CallR X (.builtin "sum") (rSumA X.K) := (cr_sum hc).or (cr_sumT hc)
def pSumA (ws : List W) (M : Store) : R W := match ws with
  | [w] => match (lstOf M w).bind intsW with
    | some bs => .ok (.d (.int bs.sum)) M
    | none => .bad
  | _ => .bad
theorem s_sumA {Y : Wd} : CallS Y pSumA (rSumA Y.K) := by
  intro F am M H vs ws Wx Q rp rs h
  unfold pSumA at h
  split at h
  · rename_i w
    obtain ⟨v, rfl, r⟩ := rs.one
    split at h
    · rename_i bs e
      obtain ⟨us, e1, e2⟩ := Option.bind_eq_some_iff.mp e
      obtain ⟨a, zs, rfl, ha, r2⟩ := rp.seq r e1
      rw [ints_rep r2 e2] at ha
      rcases ha with ha | ha
      · exact .inl ⟨a, bs, rfl, ha, h.ret rp _ (.d (.int _))⟩
      · exact .inr ⟨a, bs, rfl, ha, h.ret rp _ (.d (.int _))⟩
    · exact h.elim
  · exact h.elim

/-! ### repr -/
def okRepr (x : PyData) : Bool := x.showable && !x.hasDict && decide (x.depth ≤ 150) && decide (x.shown.length ≤ sizeLine)
def rRepr (K : PySem.W.Frag) : List V → Hp → VK → Prop := fun vs H Q => ∃ v x, vs = [v] ∧ Dp K H v x ∧ okRepr x = true ∧ Q (.str x.shown) H
theorem call_repr {X : Cx} {k : Nat} (hr : RG true k X.A) : CallR X (.builtin "repr") (rRepr X.K) := by
  intro pins s σ H vs us Q I r h
  obtain ⟨v, x, rfl, hd, ok, q⟩ := h
  obtain ⟨u, rfl, ru⟩ := Vals.one r
  simp only [okRepr, Bool.and_eq_true, Bool.not_eq_true', decide_eq_true_eq] at ok
  obtain ⟨⟨⟨o1, o2⟩, o3⟩, o4⟩ := ok
  have fin : ∀ (h' : Heap) (t : Tok) (tk : Nat), (∀ b o, s.heap.get? b = some o → h'.get? b = some o) → EP X pins σ Q (.str x.shown t) { s with heap := h', toks := tk } := fun h' t tk hk => ⟨.str x.shown, H, I.kept hk, ⟨_, rfl⟩, q⟩
  have hu := hr.r.un
  have ref : ∀ {a : Addr}, u = .ref a → wpAny (model X.prog X.w) X.A (call (.builtin "repr") [u]) (EP X pins σ Q) X.xe s := fun {a} e => by
    subst e
    obtain ⟨as, rd⟩ := Dp.reads I x v _ hd ru
    exact repr_of_reads' rd o1 (PyData.noDict_hsm o2) (hr.g rfl) (by omega) (fun _ _ e => e) (fun h' t tk hk => fin h' t tk hk) o4
  cases hd with
  | non => cases ru; exact PySem.P.repr_of_none (fin s.heap _ _ fun _ _ e => e)
  | bl b => cases ru; exact PySem.P.repr_of_bool (fin s.heap _ _ fun _ _ e => e)
  | int i =>
    obtain ⟨t, rfl⟩ := ru
    have o1 : decide (i.natAbs.log2 < 1920) = true := o1
    exact PySem.P.repr_of_int (of_decide_eq_true o1) (fin s.heap _ _ fun _ _ e => e)
  | str z =>
    obtain ⟨t, rfl⟩ := ru
    exact PySem.P.repr_of_str (fin s.heap _ _ fun _ _ e => e) o4
  | lst _ _ => cases ru; exact ref rfl
  | tup _ _ => cases ru; exact ref rfl
def pRepr (ws : List W) (M : Store) : R W := match ws with
  | [w] => match datOf M w with
    | some x => if okRepr x = true then .ok (.d (.str x.shown)) M else .bad
    | none => .bad
  | _ => .bad
theorem s_repr {Y : Wd} : CallS Y pRepr (rRepr Y.K) := by
  intro F am M H vs ws Wx Q rp rs h
  unfold pRepr at h
  split at h
  · rename_i w
    obtain ⟨v, rfl, r⟩ := rs.one
    split at h
    · rename_i x e
      split at h
      · rename_i hz
        exact ⟨v, x, rfl, rp.dat r e, hz, h.ret rp _ (.d (.str _))⟩
      · exact h.elim
    · exact h.elim
  · exact h.elim
end Pu
end
section
set_option linter.all false
set_option maxRecDepth 100000
set_option maxHeartbeats 4000000
/-! PuK: enumerate, zip. -/
namespace Pu
open PySem PySem.Spec PyProof.Rows L2
open AutoSeq1 (wpAny_loadPart')

/-- enumerate(t) of a tuple: its two cells -/
theorem meets_enumT (l : Addr) (items : Array Value) (n : Nat) (dct : Option Addr) (sl : Array (Option Value)) :
    Meets (Builtin.«enumerate.__new__» ⟨[.type "enumerate", .ref l], []⟩) (fun _ Rr s => s.heap.get? l = some { cls := .type "tuple", dict := dct, data := .seq items n, slots := sl } ∧
      Rr (.ok (.ret (.ref (s.heap.push { cls := .type "tuple_iterator", data := .fields #[.ref l, .int 0 0] }).objs.size)))
        { s with heap := (s.heap.push { cls := .type "tuple_iterator", data := .fields #[.ref l, .int 0 0] }).push { cls := .type "enumerate", data := .fields #[.none, .bool false, .ref s.heap.objs.size, rawInt 0, .none, .none] } }) :=
  .of_wp fun prog w A Rr s h => by
    obtain ⟨hp, g, d, tk, os⟩ := s; obtain ⟨hl, h⟩ := h
    have hsub := sub_enumerate
    have hT : Heap.IsTuple (Shared.heap ⟨hp, g, d, tk, os⟩) l items := ⟨_, hl, rfl, n, rfl⟩
    wp_walk using wpAny_loadPart' hl
    refine wpAny_stack_any fun st => wpAny_pure ?_
    split
    · rename_i c _ _ _ _ _
      cases (c == Value.type "enumerate")
      · wp_walk using wpAny_loadPart' hl, wpAny_pyIter_tuple hT
        exact ⟨_, rfl, h⟩
      · wp_walk using wpAny_loadPart' hl, wpAny_pyIter_tuple hT
        exact ⟨_, rfl, h⟩
    · wp_walk using wpAny_loadPart' hl, wpAny_pyIter_tuple hT
      exact ⟨_, rfl, h⟩
theorem call_enumT {prog : Program} {w : World} {A : Around} {E : Value → Shared → Prop} {s : Shared} {l : Addr} {items : Array Value} {Q : Value → Shared → Prop} (hL : s.heap.IsTuple l items)
    (h : ∀ h', IsEnum h' (s.heap.objs.size + 1) s.heap.objs.size 0 .none → h'.IsTupleIter s.heap.objs.size l 0 → (∀ b o, s.heap.get? b = some o → h'.get? b = some o) → Q (.ref (s.heap.objs.size + 1)) { s with heap := h' }) :
    wpAny (model prog w) A (call (.type "enumerate") [.ref l]) Q E s := by
  obtain ⟨⟨c, dct, dt, sl⟩, hl, hc, n, hd⟩ := hL
  have hc : c = .type "tuple" := hc
  have hd : dt = .seq items n := hd
  subst hc hd
  have hz : (s.heap.push { cls := .type "tuple_iterator", data := .fields #[.ref l, .int 0 0] }).objs.size = s.heap.objs.size + 1 := Heap.size_push ..
  refine callType_new F.called_enumerate (by decide) (F.typeCall_enumerate_1 _) (F.newCall_enumerate_1 _) (fun obj => F.args_object_init_2 obj _) F.entry_enumerate_new (meets_enumT l items n dct sl) ⟨hl, ?_⟩
  have he : IsEnum ((s.heap.push { cls := .type "tuple_iterator", data := .fields #[.ref l, .int 0 0] }).push { cls := .type "enumerate", data := .fields #[.none, .bool false, .ref s.heap.objs.size, rawInt 0, .none, .none] }) (s.heap.objs.size + 1) s.heap.objs.size 0 .none := by
    rw [← hz]
    exact Heap.get?_push_size _ rfl
  show _ ∧ _
  rw [hz]
  exact ⟨⟨_, he, rfl⟩, h _ he ⟨_, Heap.get?_push_of_some _ (Heap.get?_push_size _ rfl), rfl, rfl⟩ fun b o x => Heap.get?_push_of_some _ (Heap.get?_push_of_some _ x)⟩

/-- the tuple at a, each item in a new pair -/
def IteT (K : PySem.W.Frag) (a : Addr) : It :=
  ⟨fun i H => ∃ (xs : List V) (x : V), SqT K H a xs ∧ xs[i]? = some x, fun i H v H' => ∃ T x, v = .ref T ∧ H T = none ∧ H' = upd H T (.tup [.int (i : Nat), x]) ∧ ∀ xs, SqT K H a xs → xs[i]? = some x, fun i H => ∃ xs : List V, SqT K H a xs ∧ xs.length ≤ i⟩
theorem turn_enumT {P : Program} {w : World} {K : PySem.W.Frag} {elts : List Expr} {kk : Nat} {tpos : Pos} (a e it : Addr) :
    Turn P w K (.Tuple elts kk tpos) (IteT K a) [e, it] e (fun i h => (∃ old, IsEnum h e it ((i : Nat) : Int) old) ∧ h.IsTupleIter it a i ∧ e ≠ it) where
  mem := by simp
  obj := fun i h st b hb => by
    obtain ⟨⟨old, he⟩, ⟨o, ho, _, hd⟩, _⟩ := st
    rcases List.mem_cons.mp hb with z | z
    · rw [z]; exact ⟨_, he, fun v q => nomatch q⟩
    · rw [List.mem_singleton.mp z]; exact ⟨o, ho, fun v q => by rw [hd] at q; cases q⟩
  keep := fun i h h' ⟨⟨old, he⟩, hi, hne⟩ k => ⟨⟨old, k e (by simp) _ he⟩, hi.at fun o q => k it (by simp) o q, hne⟩
  item := by
    intro X hP hw hK hc i pins s σ H E I hf st hg
    subst hP hw hK
    obtain ⟨⟨old, he⟩, hit, hne⟩ := st
    obtain ⟨xs, x, hq, hx⟩ := hg
    obtain ⟨its, rv, p, hz⟩ := I.tuple hq
    have p : s.heap.IsTuple a its.toArray := p
    obtain ⟨u, hu, ru⟩ := rv.get hx
    have hai : a ≠ it := fun q => by
      obtain ⟨o, h1, h2, _⟩ := p
      obtain ⟨o', h3, h4, _⟩ := hit
      rw [q, h3] at h1
      cases h1
      rw [h2] at h4
      exact absurd (Value.type.inj h4) (by decide)
    have hae : a ≠ e := fun q => by
      obtain ⟨o, h1, h2, _⟩ := p
      rw [q] at h1
      have h1 := he.symm.trans h1
      cases h1
      exact absurd (Value.type.inj h2) (by decide)
    have hel : e < s.heap.objs.size := Heap.lt_size he
    have hil : it < s.heap.objs.size := by obtain ⟨_, q, _⟩ := hit; exact Heap.lt_size q
    have D := Draws.tuple (prog := X.prog) (w := X.w) (A := X.A.in1) (I.ok.hd hc) it a hai its.toArray
    refine wpAny_pyNext_enum_itemD D he ⟨hit, p⟩ (by simpa using (List.getElem?_eq_some_iff.mp hu).1) hne (by simp [hne, Ne.symm hae]) fun y h' tk hy ho st' hT hsz hk => ?_
    have hy : its.toArray[i]? = some y := hy
    have ey : y = u := by
      have : its[i]? = some y := by simpa using hy
      rw [hu] at this
      cases this <;> rfl
    subst ey
    refine ⟨_, rfl, wpAny_letOwnedTupleGo_enum (s := { s with heap := h', toks := tk + 1 }) ho fun h'' he' sb => ?_⟩
    have hT2 : h''.get? s.heap.objs.size = some { cls := .type "tuple", data := .seq #[.int i tk, y] } := (sb.2 _ (Nat.ne_of_gt hel)).trans hT
    have new : ObjOk X.prog X.w (upd H s.heap.objs.size (.tup [.int (i : Nat), x])) h'' s.heap.objs.size (.tup [.int (i : Nat), x]) :=
      ⟨by show 2 ≤ sizeLine; decide, [.int i tk, y], .cons ⟨_, rfl⟩ (.cons ru .nil), ⟨_, hT2, rfl, _, rfl⟩⟩
    have I1 : Inv X pins σ (upd H s.heap.objs.size (.tup [.int (i : Nat), x])) { s with heap := h'', toks := tk + 1 } :=
      I.turnedNew (ch := [e, it]) (fun b ob hb q => (sb.2 b (fun z => hb (by simp [z]))).trans (hk b ob (fun z => hb (by simp [z])) (fun z => hb (by simp [z])) q)) hf (Nat.le_refl _) new
    refine ⟨.ref s.heap.objs.size, _, I1, rfl, ⟨_, x, rfl, I.hok.fresh (Nat.le_refl _), rfl, fun ys hy2 => by rw [I.tuple_inj hy2 hq]; exact hx⟩, ⟨⟨y, by simpa using he'⟩, st'.1.at fun o q => (sb.2 it (Ne.symm hne)).trans q, hne⟩, fun b hb => ?_⟩
    have hb' : b < s.heap.objs.size := by
      rcases List.mem_cons.mp hb with z | z
      · rw [z]; exact hel
      · rw [List.mem_singleton.mp z]; exact hil
    rw [upd_ne (Nat.ne_of_lt hb')]
    exact (hf b hb).1
  done := by
    intro X hP hw hK hc i pins s σ H E I hf st hg
    subst hP hw hK
    obtain ⟨⟨old, he⟩, hit, hne⟩ := st
    obtain ⟨xs, hq, hx⟩ := hg
    obtain ⟨its, rv, p, hz⟩ := I.tuple hq
    have p : s.heap.IsTuple a its.toArray := p
    obtain ⟨f0, f1, f2, f3, f4, f5⟩ := hf it (by simp)
    have hl := rv.length
    have hai : a ≠ it := fun q => by
      obtain ⟨o, h1, h2, _⟩ := p
      obtain ⟨o', h3, h4, _⟩ := hit
      rw [q, h3] at h1
      cases h1
      rw [h2] at h4
      exact absurd (Value.type.inj h4) (by decide)
    have hT : s.TypeIs (.ref e) "enumerate" := ⟨_, he, rfl⟩
    unfold pyNext
    refine wpAny_bind (wpAny_attempt (wpAny_callSpecial?_slot (name := Str.ofString "__next__") hT F.slot_enumerate_next (wpAny_call_entry F.slot_enumerate_next hT F.entry_enumerate_next ?_ (F.args_enumerate_next_1 _))))
    show wpAny _ _ (field (.ref e) 2 >>= _) _ _ _
    refine wpAny_bind (wpAny_field he rfl (x := .ref it) rfl ?_)
    refine wpAny_bind (wpAny_nextOf_tuple_end (I.ok.hd hc) hit p (by simp; omega) fun h' x he' hx' => ?_)
    obtain ⟨o, ho, hc'⟩ := hx'
    refine wpAny_bind (wpAny_isInstance (T := "StopIteration") (b := true) ⟨o, ho, hc'⟩ isSubtype_stop ?_)
    exact wpAny_pure ⟨rfl, I.turned (t' := s.toks) (fun b o hb q => he' b o hb q) f0 f1 f3 f4 f5⟩
  self := fun A i s Q E ⟨⟨_, he⟩, _⟩ h => wpAny_pyIter_enum he h

/-! ### enumerate, zip as what a loop walks -/
def pairAt (i : Nat) (x : PyData) : W := .d (.tuple [.int (i : Nat), x])
def soE (xs : List PyData) : So := ⟨xs.length, fun i _ => match xs[i]? with
  | none => some none
  | some x => some (some (pairAt i x))⟩
def soEP (n k : Nat) : So := ⟨k, fun i M => match M[n]? with
  | some (.lst ws) => match ws[i]? with
    | none => some none
    | some (.d x) => some (some (pairAt i x))
    | _ => none
  | _ => none⟩
def enW (M : Store) (w : W) : Option So := match w with
  | .d (.list xs) => some (soE xs)
  | .d (.tuple xs) => some (soE xs)
  | .p n => match M[n]? with
    | some (.lst ws) => some (soEP n ws.length)
    | _ => none
  | _ => none
def iEn (f : PEx) : PIx := fun ρ M => (f ρ M).bind fun w M1 => match enW M1 w with
  | some so => .ok so M1
  | none => .bad
def soZ (xs ys : List PyData) : So := ⟨min xs.length ys.length, fun i _ => match xs[i]?, ys[i]? with
  | some x, some y => some (some (.d (.tuple [x, y])))
  | _, _ => some none⟩
def iZp (as : PAx) : PIx := fun ρ M => (as ρ M).bind fun ws M1 => match ws with
  | [.d (.list xs), .d (.list ys)] => .ok (soZ xs ys) M1
  | [.d (.tuple xs), .d (.tuple ys)] => .ok (soZ xs ys) M1
  | _ => .bad
section
variable {Y : Wd} {F : Hp} {am : List Addr} {M : Store} {H : Hp}
theorem pair_new {F1 : Hp} {am1 : List Addr} {M1 : Store} {H1 : Hp} {T : Addr} {v u : V} {x y : PyData} (rp : Rep Y F1 am1 M1 H1) (hT : H1 T = none) (r : RepD Y.K F1 v x) (q : RepD Y.K F1 u y) :
    ∃ F2 am2, Ext F1 am1 H1 F2 am2 (upd H1 T (.tup [v, u])) ∧ Rep Y F2 am2 M1 (upd H1 T (.tup [v, u])) ∧ RepW Y F2 am2 (.ref T) (.d (.tuple [x, y])) := by
  obtain ⟨rp2, x2⟩ := rp.newD hT (.inr ⟨[v, u], rfl⟩)
  exact ⟨_, _, x2, rp2, .d (.tup upd_same (.cons (r.mono x2.f) (.cons (q.mono x2.f) .nil)))⟩
theorem walk_EL {a : Addr} {vs : List V} {xs : List PyData} (hf : F a = some (.lst vs)) (r : RepDs Y.K F vs xs) : Walk Y F am H (Ite Y.K a) (soE xs) where
  stop := fun {F1 am1 M1 H1} x rp i e => ⟨vs, .inl (.inl (rp.fz _ _ (x.f _ _ hf))), by
    have e : (match xs[i]? with | none => some none | some x => some (some (pairAt i x))) = some none := e
    rw [r.length]
    cases q : xs[i]? with
    | none => exact List.getElem?_eq_none_iff.mp q
    | some z => rw [q] at e; cases e⟩
  go := fun {F1 am1 M1 H1} x rp i w e => by
    have e : (match xs[i]? with | none => some none | some x => some (some (pairAt i x))) = some (some w) := e
    cases q : xs[i]? with
    | none => rw [q] at e; cases e
    | some z =>
      obtain ⟨v, e1, _⟩ := r.get' q
      exact ⟨vs, v, .inl (.inl (rp.fz _ _ (x.f _ _ hf))), e1⟩
  yld := fun {F1 am1 M1 H1} x rp i w e y H' q => by
    have e : (match xs[i]? with | none => some none | some x => some (some (pairAt i x))) = some (some w) := e
    cases q0 : xs[i]? with
    | none => rw [q0] at e; cases e
    | some z =>
      rw [q0] at e
      cases e
      obtain ⟨v, e1, r1⟩ := r.get' q0
      obtain ⟨T, u, rfl, hT, rfl, q⟩ := q
      have := q vs (.inl (.inl (rp.fz _ _ (x.f _ _ hf))))
      rw [e1] at this
      cases this
      exact pair_new rp hT (.int _) (r1.mono x.f)
theorem walk_ET {a : Addr} {vs : List V} {xs : List PyData} (hf : F a = some (.tup vs)) (r : RepDs Y.K F vs xs) : Walk Y F am H (IteT Y.K a) (soE xs) where
  stop := fun {F1 am1 M1 H1} x rp i e => ⟨vs, rp.seqT (x.f _ _ hf), by
    have e : (match xs[i]? with | none => some none | some x => some (some (pairAt i x))) = some none := e
    rw [r.length]
    cases q : xs[i]? with
    | none => exact List.getElem?_eq_none_iff.mp q
    | some z => rw [q] at e; cases e⟩
  go := fun {F1 am1 M1 H1} x rp i w e => by
    have e : (match xs[i]? with | none => some none | some x => some (some (pairAt i x))) = some (some w) := e
    cases q : xs[i]? with
    | none => rw [q] at e; cases e
    | some z =>
      obtain ⟨v, e1, _⟩ := r.get' q
      exact ⟨vs, v, rp.seqT (x.f _ _ hf), e1⟩
  yld := fun {F1 am1 M1 H1} x rp i w e y H' q => by
    have e : (match xs[i]? with | none => some none | some x => some (some (pairAt i x))) = some (some w) := e
    cases q0 : xs[i]? with
    | none => rw [q0] at e; cases e
    | some z =>
      rw [q0] at e
      cases e
      obtain ⟨v, e1, r1⟩ := r.get' q0
      obtain ⟨T, u, rfl, hT, rfl, q⟩ := q
      have := q vs (rp.seqT (x.f _ _ hf))
      rw [e1] at this
      cases this
      exact pair_new rp hT (.int _) (r1.mono x.f)
theorem walk_EP {n : Nat} {a : Addr} {k : Nat} (ha : am[n]? = some a) : Walk Y F am H (Ite Y.K a) (soEP n k) where
  stop := fun {F1 am1 M1 H1} x rp i e => by
    have e : (match M1[n]? with | some (.lst ws) => (match ws[i]? with | none => some none | some (.d x) => some (some (pairAt i x)) | _ => none) | _ => none) = some none := e
    split at e
    · rename_i ws e2
      obtain ⟨vs, h1, h2⟩ := rp.lst (x.am ha) e2
      refine ⟨vs, .inl (.inl h1), ?_⟩
      rw [h2.length]
      split at e
      · rename_i q; exact List.getElem?_eq_none_iff.mp q
      · cases e
      · cases e
    · cases e
  go := fun {F1 am1 M1 H1} x rp i w e => by
    have e : (match M1[n]? with | some (.lst ws) => (match ws[i]? with | none => some none | some (.d x) => some (some (pairAt i x)) | _ => none) | _ => none) = some (some w) := e
    split at e
    · rename_i ws e2
      obtain ⟨vs, h1, h2⟩ := rp.lst (x.am ha) e2
      split at e
      · cases e
      · rename_i z q
        obtain ⟨v, e1, _⟩ := h2.get q
        exact ⟨vs, v, .inl (.inl h1), e1⟩
      · cases e
    · cases e
  yld := fun {F1 am1 M1 H1} x rp i w e y H' q => by
    have e : (match M1[n]? with | some (.lst ws) => (match ws[i]? with | none => some none | some (.d x) => some (some (pairAt i x)) | _ => none) | _ => none) = some (some w) := e
    split at e
    · rename_i ws e2
      obtain ⟨vs, h1, h2⟩ := rp.lst (x.am ha) e2
      split at e
      · cases e
      · rename_i z q0
        cases e
        obtain ⟨v, e1, r1⟩ := h2.get q0
        obtain ⟨T, u, rfl, hT, rfl, q⟩ := q
        have := q vs (.inl (.inl h1))
        rw [e1] at this
        cases this
        cases r1 with
        | d r1 => exact pair_new rp hT (.int _) r1
      · cases e
    · cases e
end
section
variable {X : Cx} {Y : Wd} {Wx : WX} {e e2 : Expr} {f : PEx} {as : PAx} {p pos tpos : Pos} {elts : List Expr} {kk : Nat}
def iEnumA (K : PySem.W.Frag) (te : TE) : TI := fun σ H R => te σ H fun v H1 => (∃ a xs, v = .ref a ∧ SqL K H1 a xs ∧ R (Ite K a) H1) ∨ ∃ a xs, v = .ref a ∧ SqT K H1 a xs ∧ R (IteT K a) H1
theorem pi_enumA {te : TE} (hg : Gl X "enumerate") (hm : X.mg "enumerate" = none) (he : PE X e te) (hs : starEach [e] X.env = [(false, eval e X.env)] := by rfl) (hs1 : starEach [e] X.env = (false, eval e X.env) :: starEach [] X.env := by rfl) :
    PI X (.Tuple elts kk tpos) (.Call (.Name "enumerate" p) [e] [] pos) (iEnumA X.K te) := by
  refine ⟨fun pins s σ H Rr I h => ?_⟩
  have ha : PA X [e] (tCons te tNil) := pa_cons he pa_nil hs1
  refine Call_ (ld_blt I hg hm boot_enumerate (PyProof.Rows.callWith_type1 (thn (ha.run pos pins s σ H (fun vs H1 => match vs with
    | [v] => (∃ a xs, v = .ref a ∧ SqL X.K H1 a xs ∧ Rr (Ite X.K a) H1) ∨ ∃ a xs, v = .ref a ∧ SqT X.K H1 a xs ∧ Rr (IteT X.K a) H1
    | _ => False) I h) fun us s1 ⟨vs, H1, I1, r1, q1⟩ => ?_) hs rfl))
  obtain ⟨v, rfl⟩ : ∃ v, vs = [v] := by
    match vs, q1 with
    | [v], _ => exact ⟨v, rfl⟩
  obtain ⟨u, rfl, ru⟩ := Vals.one r1
  have fin : ∀ {a : Addr} {J : It} {tn : Nat → Heap → Prop} (h' : Heap), IsEnum h' (s1.heap.objs.size + 1) s1.heap.objs.size 0 .none → (∀ b o, s1.heap.get? b = some o → h'.get? b = some o) → Turn X.prog X.w X.K (.Tuple elts kk tpos) J [s1.heap.objs.size + 1, s1.heap.objs.size] (s1.heap.objs.size + 1) tn → tn 0 h' → Rr J H1 →
      wpAny (model X.prog X.w) X.A (pyIter (.ref (s1.heap.objs.size + 1))) (PIE X pins σ (.Tuple elts kk tpos) Rr) X.xe { s1 with heap := h' } := fun {a J tn} h' hen hk T st q => by
    refine wpAny_pyIter_enum hen ⟨_, _, _, _, H1, rfl, I1.kept (t' := s1.toks) hk, T, st, fun b hb => ?_, q⟩
    have hle : s1.heap.objs.size ≤ b := by
      rcases List.mem_cons.mp hb with z | z
      · rw [z]; exact Nat.le_add_right _ _
      · rw [List.mem_singleton.mp z]; exact Nat.le_refl _
    exact I1.fpOk hle (I1.hok.fresh hle)
  rcases q1 with ⟨a, xs, rfl, hq, q⟩ | ⟨a, xs, rfl, hq, q⟩
  · cases ru
    obtain ⟨its, rv, p', hz⟩ := I1.list hq
    exact call_enumerate_list p'.isList fun h' he hit hsz hk => fin (a := a) h' he hk (turn_enum a _ _) ⟨⟨.none, he⟩, hit, Nat.succ_ne_self _⟩ q
  · cases ru
    obtain ⟨its, rv, p', hz⟩ := I1.tuple hq
    exact call_enumT p' fun h' he hit hk => fin (a := a) h' he hk (turn_enumT a _ _) ⟨⟨.none, he⟩, hit, Nat.succ_ne_self _⟩ q
theorem pi_en (hg : Gl X "enumerate") (hm : X.mg "enumerate" = none) (he : PE X e (xT Y Wx f)) (hK : X.K = Y.K := by rfl) (hs : starEach [e] X.env = [(false, eval e X.env)] := by rfl) (hs1 : starEach [e] X.env = (false, eval e X.env) :: starEach [] X.env := by rfl) :
    PI X (.Tuple elts kk tpos) (.Call (.Name "enumerate" p) [e] [] pos) (iT Y Wx (iEn f)) := (pi_enumA hg hm he hs hs1).to fun σ H Q h => by
  obtain ⟨F, am, M, ρ, rp, re, h⟩ := h
  refine ⟨F, am, M, ρ, rp, re, h.bind.imp fun F1 am1 M1 w H1 x1 rp1 h1 v q => ?_⟩
  unfold enW at h1
  rw [hK]
  cases w with
  | scr => exact h1.elim
  | d x =>
    cases x with
    | list xs =>
      obtain ⟨a, vs, rfl, h2, h3⟩ := q.lst
      exact .inl ⟨a, vs, rfl, .inl (.inl (rp1.fz _ _ h2)), h1.ret rp1 _ (walk_EL h2 h3)⟩
    | tuple xs =>
      obtain ⟨a, vs, rfl, h2, h3⟩ := q.tup
      exact .inr ⟨a, vs, rfl, rp1.seqT h2, h1.ret rp1 _ (walk_ET h2 h3)⟩
    | _ => exact h1.elim
  | p n =>
    cases e : M1[n]? with
    | none => simp only [e] at h1; exact h1.elim
    | some ob =>
      cases ob with
      | lst ws =>
        simp only [e] at h1
        obtain ⟨a, rfl, ha⟩ := q.pl
        obtain ⟨vs, h2, h3⟩ := rp1.lst ha e
        exact .inl ⟨a, vs, rfl, .inl (.inl h2), h1.ret rp1 _ (walk_EP ha)⟩
      | dK _ => simp only [e] at h1; exact h1.elim
      | dT _ => simp only [e] at h1; exact h1.elim
/-- one of the two at turn i -/
theorem soZ_some {xs ys : List PyData} {i : Nat} {M : Store} {w : W} (e : (soZ xs ys).at_ i M = some (some w)) : ∃ x y, xs[i]? = some x ∧ ys[i]? = some y ∧ w = .d (.tuple [x, y]) := by
  have e : (match xs[i]?, ys[i]? with | some x, some y => some (some (W.d (.tuple [x, y]))) | _, _ => some none) = some (some w) := e
  cases q1 : xs[i]? with
  | none => rw [q1] at e; cases e
  | some x =>
    cases q2 : ys[i]? with
    | none => rw [q1, q2] at e; cases e
    | some y => rw [q1, q2] at e; cases e; exact ⟨x, y, rfl, rfl, rfl⟩
theorem soZ_none {xs ys : List PyData} {i : Nat} {M : Store} (e : (soZ xs ys).at_ i M = some none) : xs.length ≤ i ∨ ys.length ≤ i := by
  have e : (match xs[i]?, ys[i]? with | some x, some y => some (some (W.d (.tuple [x, y]))) | _, _ => some none) = some none := e
  cases q1 : xs[i]? with
  | none => exact .inl (List.getElem?_eq_none_iff.mp q1)
  | some x =>
    cases q2 : ys[i]? with
    | none => exact .inr (List.getElem?_eq_none_iff.mp q2)
    | some y => rw [q1, q2] at e; cases e
theorem pi_zp (hg : Gl X "zip") (hm : X.mg "zip" = none) (ha : PA X [e, e2] (xA Y Wx as)) (hK : X.K = Y.K := by rfl)
    (hs : starEach [e, e2] X.env = (false, eval e X.env) :: starEach [e2] X.env := by rfl) (hpl : (backTo pos (starEach [e2] X.env)).any (·.1) = false := by rfl) :
    PI X (.Tuple elts kk tpos) (.Call (.Name "zip" p) [e, e2] [] pos) (iT Y Wx (iZp as)) := (RZ.pi_zipA hg hm ha hs hpl).to fun σ H Q h => by
  obtain ⟨F, am, M, ρ, rp, re, h⟩ := h
  refine ⟨F, am, M, ρ, rp, re, h.bind.imp fun F1 am1 M1 ws H1 x1 rp1 h1 vs q => ?_⟩
  rw [hK]
  split at h1
  · rename_i xs ys
    obtain ⟨v, u, rfl, r1, r2⟩ := q.two
    obtain ⟨a, vs, rfl, a1, a2⟩ := r1.lst
    obtain ⟨b, us, rfl, b1, b2⟩ := r2.lst
    have at1 : ∀ {F2 : Hp} {am2 : List Addr} {M2 : Store} {H2 : Hp}, Ext F1 am1 H1 F2 am2 H2 → Rep Y F2 am2 M2 H2 → SqL Y.K H2 a vs ∧ SqL Y.K H2 b us := fun x rp => ⟨.inl (.inl (rp.fz _ _ (x.f _ _ a1))), .inl (.inl (rp.fz _ _ (x.f _ _ b1)))⟩
    obtain ⟨c1, c2⟩ := at1 (Ext.refl ..) rp1
    refine ⟨a, b, vs, us, rfl, .inl ⟨c1, c2, h1.ret rp1 _ ⟨fun {F2 am2 M2 H2} x rp i e => ?_, fun {F2 am2 M2 H2} x rp i w e => ?_, fun {F2 am2 M2 H2} x rp i w e y H' qq => ?_⟩⟩⟩
    · exact ⟨vs, us, (at1 x rp).1, (at1 x rp).2, by rw [a2.length, b2.length]; exact soZ_none e⟩
    · obtain ⟨z1, z2, e1, e2, _⟩ := soZ_some e
      obtain ⟨v1, f1, _⟩ := a2.get' e1
      obtain ⟨v2, f2, _⟩ := b2.get' e2
      exact ⟨vs, us, v1, v2, (at1 x rp).1, (at1 x rp).2, f1, f2⟩
    · obtain ⟨z1, z2, e1, e2, rfl⟩ := soZ_some e
      obtain ⟨v1, f1, g1⟩ := a2.get' e1
      obtain ⟨v2, f2, g2⟩ := b2.get' e2
      obtain ⟨T, y1, y2, rfl, hT, rfl, k1, k2⟩ := qq
      have k1 := k1 vs (at1 x rp).1
      have k2 := k2 us (at1 x rp).2
      rw [f1] at k1
      rw [f2] at k2
      cases k1
      cases k2
      exact pair_new rp hT (g1.mono x.f) (g2.mono x.f)
  · rename_i xs ys
    obtain ⟨v, u, rfl, r1, r2⟩ := q.two
    obtain ⟨a, vs, rfl, a1, a2⟩ := r1.tup
    obtain ⟨b, us, rfl, b1, b2⟩ := r2.tup
    have at1 : ∀ {F2 : Hp} {am2 : List Addr} {M2 : Store} {H2 : Hp}, Ext F1 am1 H1 F2 am2 H2 → Rep Y F2 am2 M2 H2 → SqT Y.K H2 a vs ∧ SqT Y.K H2 b us := fun x rp => ⟨rp.seqT (x.f _ _ a1), rp.seqT (x.f _ _ b1)⟩
    obtain ⟨c1, c2⟩ := at1 (Ext.refl ..) rp1
    refine ⟨a, b, vs, us, rfl, .inr ⟨c1, c2, h1.ret rp1 _ ⟨fun {F2 am2 M2 H2} x rp i e => ?_, fun {F2 am2 M2 H2} x rp i w e => ?_, fun {F2 am2 M2 H2} x rp i w e y H' qq => ?_⟩⟩⟩
    · exact ⟨vs, us, (at1 x rp).1, (at1 x rp).2, by rw [a2.length, b2.length]; exact soZ_none e⟩
    · obtain ⟨z1, z2, e1, e2, _⟩ := soZ_some e
      obtain ⟨v1, f1, _⟩ := a2.get' e1
      obtain ⟨v2, f2, _⟩ := b2.get' e2
      exact ⟨vs, us, v1, v2, (at1 x rp).1, (at1 x rp).2, f1, f2⟩
    · obtain ⟨z1, z2, e1, e2, rfl⟩ := soZ_some e
      obtain ⟨v1, f1, g1⟩ := a2.get' e1
      obtain ⟨v2, f2, g2⟩ := b2.get' e2
      obtain ⟨T, y1, y2, rfl, hT, rfl, k1, k2⟩ := qq
      have k1 := k1 vs (at1 x rp).1
      have k2 := k2 us (at1 x rp).2
      rw [f1] at k1
      rw [f2] at k2
      cases k1
      cases k2
      exact pair_new rp hT (g1.mono x.f) (g2.mono x.f)
  · exact h1.elim
end
end Pu
end
section
set_option linter.all false
set_option maxRecDepth 100000
set_option maxHeartbeats 4000000
/-! PuL: dict comprehensions, keys ints, texts or flat tuples. -/
namespace Pu
open PySem PySem.Spec PyProof.Rows L2
section
variable {X : Cx} {pins : List (Addr × Obj)} {σ : L2.St} {H H' : Hp} {s : Shared} {D : Addr} {y v : V} {u r : Value}
/-- a comprehension's put -/
theorem d_dictPut {E : Value → Shared → Prop} {Q : Unit → Shared → Prop} (hu : X.A.units + 1 < cLine) (I : Inv X pins σ H s) (g : DPut H D y v H') (ry : RelV y u) (rv : RelV v r) (h : ∀ s', Inv X pins σ H' s' → Q () s') :
    wpAny (model X.prog X.w) X.A (dictSet D u r) Q E s := by
  rcases g with ⟨kvs, k, e, ey, l, eH⟩ | ⟨kvs, k, b, e, ey, eb, l, eH⟩
  · rw [ey] at ry
    rw [eH] at h
    exact d_dictSet I e l ry rv h
  · rw [ey] at ry
    rw [eH] at h
    obtain rfl : u = Value.ref b := ry
    obtain ⟨z, hd, xs, rel, dd⟩ := dt_of I.hok e
    have hz : xs.length ≤ sizeLine := by rw [← Paired.length rel]; exact z
    refine wpAny_dictSet_heap (hsz := hz) (show X.A.units < cLine by omega) (key_of I.hok eb) dd fun h' dd' hs => h _ ?_
    obtain ⟨q, es, ep, hq, q2, q3, q4, _, q5⟩ := dd'
    have hl := length_putK kvs k v
    refine d_write I (by rw [e]; exact True.intro) hs ⟨q, hq⟩ ⟨by omega, hd, _, (rel.put k eb rv).keeps fun c ys ec => ?_, q, es, ep, hq, q2, q3, q4, q5⟩
    rw [upd_ne (ne_of ec e (fun z => nomatch z))]
    exact ec
end
/-- which empty dict is laid -/
inductive Dict0 : HO → Prop
  | k : Dict0 (.dK [])
  | t : Dict0 (.dT [])
theorem Dict0.ok {o : HO} (z : Dict0 o) {P : Program} {w : World} {H : Hp} (h : Heap) (hb : sysModules < h.objs.size) : ObjOk P w H (h.push { cls := .type "dict", data := .dict #[] }) h.objs.size o := by
  cases z with
  | k => exact dk_empty h hb
  | t => exact dt_empty h hb
/-- what a block is to do with a turn -/
abbrev TPut := V → V → Hp → (Hp → Prop) → Prop
def tDg (o : HO) (wi : TI) (g : TG) (tt : TT) (tk tv : TE) (vs : List Nat) : TE := fun σ H Q => wi σ H fun J H1 => ∀ D, H1 D = none → ∃ W : Nat → Nat → Hp → Prop, (∃ m, W 0 m (upd H1 D o)) ∧ ∀ i m H, W i m H →
  (J.stop i H ∧ Q (.ref D) H) ∨ (J.go i H ∧ ∃ Nx : Hp → Prop, (∀ H', Nx H' → ∃ m', m' < m ∧ W (i + 1) m' H') ∧ ∀ x H', J.yld i H x H' → g x (wipe σ vs) H' fun σ2 H2 => wipe σ2 vs = wipe σ vs ∧ tt σ2 H2 fun b H3 =>
    if b = true then tk σ2 H3 fun y H4 => tv σ2 H4 fun z H5 => ∃ H6, DPut H5 D y z H6 ∧ Nx H6 else Nx H3)
section
variable {X : Cx} {pins : List (Addr × Obj)} {kx vx tg iter : Expr} {ifs : List Expr} {scope : Scope} {own : List (Str × Nat)} {pos : Pos} {wi : TI} {g : TG} {tt : TT} {tk tv : TE} {o : HO}
theorem pe_dg (z0 : Dict0 o) (hu : X.A.units + 1 < cLine) (hc : X.calm = true) (hN : X.N.Nodup) (ok : BlkOk X.N X.env.scope scope own) (hi : PI X tg iter wi)
    (hg : ∀ (s : Shared) (H : Hp) (C : Addr) (cl : List (Str × Addr)) (fp : List Addr), PG (X.blk s H scope (compEnvC scope cl C X.env) fp) tg g)
    (ht : ∀ (s : Shared) (H : Hp) (C : Addr) (cl : List (Str × Addr)) (fp : List Addr), PTs (X.blk s H scope (compEnvC scope cl C X.env) fp) ifs tt)
    (hk : ∀ (s : Shared) (H : Hp) (C : Addr) (cl : List (Str × Addr)) (fp : List Addr), PE (X.blk s H scope (compEnvC scope cl C X.env) fp) kx tk)
    (he : ∀ (s : Shared) (H : Hp) (C : Addr) (cl : List (Str × Addr)) (fp : List Addr), PE (X.blk s H scope (compEnvC scope cl C X.env) fp) vx tv) (hs : ∀ x, foldedSetIterable iter X.env x = pure x := by intro _; rfl) :
    PE X (.DictComp kx vx [⟨tg, iter, ifs, 0⟩] scope pos) (tDg o wi g tt tk tv (own.map (·.2))) := by
  refine ⟨fun pins s σ H Q I h => ?_⟩
  rw [arm_eval_DictComp]
  have capt : ∀ y ∈ scope.names, y.2 = .free → ∃ c, X.env.cells.lookup y.1 = some c := fun y hy e => I.ok.has _ (ok.free y hy e)
  refine wpAny_comprehension_free rfl hs (closure_ok capt) ok.kind (fun y hy e => by rw [ok.uniq y hy, e]) (thn (hi.run pins s σ H _ I h) fun xv s1 hx => thn hx fun itv s2 ⟨it, fp, tn, J, H2, e, I2, T, st2, f2, q⟩ => ?_)
  subst e
  refine wpAny_newObj_type (newEnv_comp ?_)
  -- names for the dict and the states
  obtain ⟨D, eD⟩ : ∃ D, D = s2.heap.objs.size := ⟨_, rfl⟩
  have hDn : H2 D = none := I2.hok.fresh (Nat.le_of_eq eD.symm)
  obtain ⟨W, ⟨m0, w0⟩, turn⟩ := q D hDn
  obtain ⟨s3, e3⟩ : ∃ s3 : Shared, s3 = { s2 with heap := s2.heap.push { cls := .type "dict", data := .dict #[] } } := ⟨_, rfl⟩
  have k23 : ∀ b ob, s2.heap.get? b = some ob → s3.heap.get? b = some ob := fun b ob e => by rw [e3]; exact Heap.get?_push_of_some _ e
  have sz3 : s3.heap.objs.size = s2.heap.objs.size + 1 := by rw [e3]; exact Heap.size_push ..
  have I3 : Inv X pins σ (upd H2 D o) s3 := by
    rw [e3, eD]
    exact I2.laid (t' := s2.toks) (fun b ob e => Heap.get?_push_of_some _ e) (Nat.le_refl _) (z0.ok s2.heap I2.big)
  have lt2 : ∀ b ∈ fp, b < s2.heap.objs.size := fun b hb => let ⟨_, e, _⟩ := T.obj _ _ st2 b hb; Heap.lt_size e
  have f3 : ∀ b ∈ fp, FpOk X pins (upd H2 D o) b ∧ b < s3.heap.objs.size := fun b hb =>
    ⟨⟨by rw [upd_ne (by rw [eD]; exact Nat.ne_of_lt (lt2 b hb))]; exact (f2 b hb).1, (f2 b hb).2⟩, by rw [sz3]; exact Nat.lt_succ_of_lt (lt2 b hb)⟩
  have st3 : tn 0 s3.heap := T.keep _ _ _ st2 fun b _ ob e => k23 b ob e
  have I4 := block_start I3 ok hN f3
  have hD3 : (Value.ref s2.heap.objs.size) = Value.ref D := by rw [eD]
  rw [← e3, hD3]
  obtain ⟨cl, ecl⟩ : ∃ cl, cl = cellsFrom (s3.heap.objs.size + 1) scope.names (cloFrom X.env.cells scope.names []) := ⟨_, rfl⟩
  obtain ⟨ce, ece⟩ : ∃ ce, ce = compEnvC scope cl s3.heap.objs.size X.env := ⟨_, rfl⟩
  have cL : ce.locals = s3.heap.objs.size := by rw [ece]; rfl
  obtain ⟨s4, e4⟩ : ∃ s4 : Shared, s4 = { s3 with heap := pushCells (s3.heap.push { cls := .type "dict", data := .dict #[] }) scope.names } := ⟨_, rfl⟩
  have pg := hg s3 (upd H2 D o) s3.heap.objs.size cl fp
  have pt := ht s3 (upd H2 D o) s3.heap.objs.size cl fp
  have pk := hk s3 (upd H2 D o) s3.heap.objs.size cl fp
  have pv := he s3 (upd H2 D o) s3.heap.objs.size cl fp
  rw [← ece] at pg pt pk pv
  rw [← ecl, ← ece, ← e4] at I4
  show codeAny _ _ (.compStart (.DictComp kx vx [⟨tg, iter, ifs, 0⟩] scope pos) 0 (.ref it) (.ref D) (compEnvC scope (cellsFrom (s3.heap.objs.size + 1) scope.names (cloFrom X.env.cells scope.names [])) s3.heap.objs.size X.env)) _ { s3 with heap := pushCells (s3.heap.push { cls := .type "dict", data := .dict #[] }) scope.names }
  rw [← ecl, ← ece, ← e4]
  have st4 : tn 0 s4.heap := T.keep _ _ _ st3 fun b _ ob e => by rw [e4]; exact pushCells_keeps _ _ _ _ (Heap.get?_push_of_some _ e)
  have stat : ∀ {σ' : L2.St} {H' : Hp} {s' : Shared}, Inv (X.blk s3 (upd H2 D o) scope ce fp) [] σ' H' s' → (∀ b ∈ fp, H' b = none) → ∀ b ∈ fp, FpOk (X.blk s3 (upd H2 D o) scope ce fp) [] H' b := fun {σ' H' s'} I' hn b hb => by
    exact ⟨hn b hb, (I'.ok.exf b hb).1, I'.ok.exfs b hb, .inl hb, fun x c e => (I'.ok.exf b hb).2 x c e, fun p hp => absurd (show p ∈ ([] : List (Addr × Obj)) from hp) (by simp)⟩
  have loop : codeAny (model X.prog X.w) X.A (.compLoop (.DictComp kx vx [⟨tg, iter, ifs, 0⟩] scope pos) 0 (.ref it) (.ref D) ce) (compPost (model X.prog X.w) X.A X.xe none (EP X pins σ Q) (.ref D) s3.heap.objs.size) s4 := by
    refine compLoop_anyD (fun n s' => ∃ i H', Inv (X.blk s3 (upd H2 D o) scope ce fp) [] (wipe σ (own.map (·.2))) H' s' ∧ tn i s'.heap ∧ (∀ b ∈ fp, H' b = none) ∧ W i n H') ?_ m0 ⟨0, _, I4, st4, fun b hb => (f3 b hb).1.1, w0⟩
    rintro n s5 ⟨i, H5, I5, st5, n5, w5⟩
    rcases turn i n H5 w5 with ⟨stop, qq⟩ | ⟨go, Nx, hNx, step⟩
    · refine thnF (T.done (X.blk s3 (upd H2 D o) scope ce fp) rfl rfl rfl hc i [] s5 _ H5 (fun _ _ => False) I5 (stat I5 n5) st5 stop) fun r s6 ⟨hr, I6⟩ => ?_
      subst hr
      have I7 : Inv X pins σ H5 s6 := I3.call' (ch := fp) I6.os I6.base I6.hok I6.bare fun b hb => ⟨(f3 b hb).1.2.2.2.1, (f3 b hb).1.2.1, (f3 b hb).1.2.2.2.2.1, (f3 b hb).1.2.2.2.2.2⟩
      have nC : H5 s3.heap.objs.size = none := by
        have z : H5 ce.locals = none := I6.free
        rw [cL] at z
        exact z
      obtain ⟨m, hn, _⟩ := I6.loc
      have hn : s6.heap.Ns ce.locals m := hn
      rw [cL] at hn
      obtain ⟨f0, f1, f2, f3, f4, f5⟩ := I3.fpOk (Nat.le_refl _) nC
      exact ⟨m, hn, fun h'' sb => ⟨.ref D, H5, I7.turned (t' := s6.toks) (fun b ob hb e => (sb.2 b hb).trans e) f0 f1 f3 f4 f5, rfl, qq⟩⟩
    · refine thnF (T.item (X.blk s3 (upd H2 D o) scope ce fp) rfl rfl rfl hc i [] s5 _ H5 (fun _ _ => False) I5 (stat I5 n5) st5 go) fun r s6 ⟨u, hr, h6⟩ => ?_
      subst hr
      refine thnF h6 fun _ s7 ⟨x, H7, I7, r7, y7, st7, n7⟩ => ?_
      have I7' := I7.pinned (stat I7 n7) (T.obj _ _ st7)
      have fin : ∀ {σ8 : L2.St} {s' : Shared} {H' : Hp}, wipe σ8 (own.map (·.2)) = wipe σ (own.map (·.2)) → Inv (X.blk s3 (upd H2 D o) scope ce fp) ([] ++ pinsAt fp s7.heap) σ8 H' s' → Nx H' → ∃ m, m < n ∧ ∃ i H', Inv (X.blk s3 (upd H2 D o) scope ce fp) [] (wipe σ (own.map (·.2))) H' s' ∧ tn i s'.heap ∧ (∀ b ∈ fp, H' b = none) ∧ W i m H' := fun {σ8 s' H'} hw8 I' nx => by
        obtain ⟨m', hm, w'⟩ := hNx H' nx
        have pinned : ∀ b ∈ fp, ∀ ob, s7.heap.get? b = some ob → s'.heap.get? b = some ob ∧ H' b = none := fun b hb ob e =>
          have z := I'.pin (b, ob) (List.mem_append_right _ (List.mem_append_right _ (mem_pinsAt hb e)))
          ⟨z.1, z.2.1⟩
        refine ⟨m', hm, i + 1, H', (I'.unpinned (pins := [])).weak (by rw [← hw8, wipe_length]) (fun j v e => ?_), T.keep _ _ _ st7 fun b hb ob e => (pinned b hb ob e).1, fun b hb => ?_, w'⟩
        · rw [← hw8] at e
          exact (wipe_some e).1
        · obtain ⟨ob, e, _⟩ := T.obj _ _ st7 b hb
          exact (pinned b hb ob e).2
      refine thnF (pg.run _ s7 _ H7 x u _ I7' r7 (step x H7 y7)) fun _ s8 ⟨σ8, H8, I8, hw8, q8⟩ => ?_
      refine thnF (pt.run _ s8 σ8 H8 _ I8 q8) fun b s9 ⟨H9, I9, q9⟩ => ?_
      cases b with
      | false =>
        rw [if_neg (by decide)] at q9 ⊢
        exact fin hw8 I9 q9
      | true =>
        rw [if_pos rfl] at q9 ⊢
        refine thnF (pk.run _ s9 σ8 H9 _ I9 q9) fun z s10 ⟨yk, H10, I10, r10, q10⟩ => ?_
        refine thnF (pv.run _ s10 σ8 H10 _ I10 q10) fun z2 s11 ⟨yv, H11, I11, r11, H12, put, nx⟩ => ?_
        exact d_dictPut (X := (X.blk s3 (upd H2 D o) scope ce fp)) hu I11 put r10 r11 fun s12 I12 => fin hw8 I12 nx
  exact codeAny_compStart_dict loop (T.self X.A 0 _ _ _ st4 loop)
end

/-! ### .. of plain values -/
theorem R.noX_bind {α β : Type} (r : R α) (k : α → Store → R β) : (r.bind k).noX = r.noX.bind fun a M => (k a M).noX := by
  cases r <;> rfl
def fKV (fk fv : PEx) : Env → Store → R (W × W) := fun ρ M => (fk ρ M).bind fun k M1 => (fv ρ M1).bind fun v M2 => .ok (k, v) M2
def putD {κ : Type} [DecidableEq κ] (key : W → Option κ) (kws : List (κ × W)) (kv : W × W) : Option (List (κ × W)) := match key kv.1 with
  | some k => if kws.length < sizeLine then some (setK kws k kv.2) else none
  | none => none
def xDg {κ : Type} [DecidableEq κ] (mkOb : List (κ × W) → Ob) (key : W → Option κ) (f : PIx) (t : Tg) (tt : PTx) (fk fv : PEx) (vs : List Nat) : PEx := fun ρ M =>
  (f ρ M).bind fun so M1 => (loopC so t tt (fKV fk fv) (putD key) (wipeE ρ vs) so.n 0 [] M1).bind fun kws M2 => .ok (.p M2.length) (M2 ++ [mkOb kws])
def xDcK := xDg (κ := Key) Ob.dK keyW
def xDcT := xDg (κ := List Key) Ob.dT keyT
/-- what the two forms have in common -/
structure DForm (Y : Wd) {κ : Type} [DecidableEq κ] (mk : List (κ × V) → HO) (mkOb : List (κ × W) → Ob) (key : W → Option κ) : Prop where
  z : Dict0 (mk [])
  nt : ∀ kvs, (∀ ps, mk kvs ≠ .tbl ps) ∧ ∀ c q, mk kvs ≠ LamX.CodeO c q
  ro : ∀ {F : Hp} {am : List Addr} {kvs : List (κ × V)} {kws : List (κ × W)}, RepKs Y F am kvs kws → RepO Y F am (some (mk kvs)) (mkOb kws)
  put : ∀ {F : Hp} {am : List Addr} {M : Store} {H : Hp} {D : Addr} {kvs : List (κ × V)} {y v : V} {w : W} {k : κ}, Rep Y F am M H → H D = some (mk kvs) → RepW Y F am y w → key w = some k → kvs.length < sizeLine → DPut H D y v (upd H D (mk (putK kvs k v)))
theorem dformK {Y : Wd} : DForm Y (κ := Key) HO.dK Ob.dK keyW := ⟨.k, fun kvs => ⟨fun _ e => (by cases e), fun _ _ e => (by unfold LamX.CodeO at e; cases e)⟩, fun r => .dK r, fun rp hd r e hz => by
  rw [keyW_rep r e]
  exact .k hd hz⟩
theorem dformT {Y : Wd} : DForm Y (κ := List Key) HO.dT Ob.dT keyT := ⟨.t, fun kvs => ⟨fun _ e => (by cases e), fun _ _ e => (by unfold LamX.CodeO at e; cases e)⟩, fun r => .dT r, fun rp hd r e hz => by
  obtain ⟨b, rfl, hb⟩ := keyT_rep r e
  exact .t hd (rp.fz _ _ hb) hz⟩
section
variable {X : Cx} {Y : Wd} {Wx : WX} {kx vx tg iter : Expr} {ifs : List Expr} {scope : Scope} {own : List (Str × Nat)} {pos : Pos} {f : PIx} {t : Tg} {tt : PTx} {fk fv : PEx} {κ : Type} [DecidableEq κ] {mk : List (κ × V) → HO} {mkOb : List (κ × W) → Ob} {key : W → Option κ}
theorem dg_run (Fm : DForm Y mk mkOb key) {vs : List Nat} {σ : L2.St} {H : Hp} {Q : VK} (h : xT Y Wx (xDg mkOb key f t tt fk fv vs) σ H Q) : tDg (mk []) (iT Y Wx f) (gT Y W0 (prW vs) t) (xB Y W0 tt) (xT Y W0 fk) (xT Y W0 fv) vs σ H Q := by
  obtain ⟨F, am, M, ρ, rp, re, h⟩ := h
  refine ⟨F, am, M, ρ, rp, re, h.bind.imp fun F1 am1 M1 so H1 x1 rp1 h1 J wk D hD => ?_⟩
  obtain ⟨rp0, x0, d0⟩ := rp1.newX hD (Fm.nt [])
  let Inn : Nat → Nat → Hp → Prop := fun i m H => ∃ F2 am2 M2 kvs kws, Ext F1 am1 H1 F2 am2 H ∧ Rep Y F2 am2 M2 H ∧ Sd Y F2 am2 H D (mk kvs) ∧ RepKs Y F2 am2 kvs kws ∧ Aft Y (fun c d H' => Wx c d σ H') F1 am1 H1 ((loopC so t tt (fKV fk fv) (putD key) (wipeE ρ vs) m i kws M2).bind fun kws M2 => .ok (W.p M2.length) (M2 ++ [mkOb kws])) (fun F' am' _ w H' => ∀ v, RepW Y F' am' v w → Q v H')
  refine ⟨fun i m H => Inn i m H, ⟨so.n, F1, am1, M1, [], [], x0, rp0, d0, .nil, h1⟩, ?_⟩
  rintro i m H2 ⟨F2, am2, M2, kvs, kws, x2, rp2, d2, r2, h2⟩
  have stop : so.at_ i M2 = some none → Aft Y (fun c d H' => Wx c d σ H') F1 am1 H1 ((R.ok kws M2).bind fun kws M2 => .ok (W.p M2.length) (M2 ++ [mkOb kws])) (fun F' am' _ w H' => ∀ v, RepW Y F' am' v w → Q v H') → J.stop i H2 ∧ Q (.ref D) H2 := fun e h => by
    refine ⟨wk.stop x2 rp2 i e, ?_⟩
    obtain ⟨rp3, x3⟩ := d2.adoptS rp2 (Fm.ro r2) x2 hD
    refine h _ _ H2 x3 rp3 _ (.p ?_)
    rw [← rp2.ln]
    simp
  cases m with
  | zero =>
    unfold loopC at h2
    split at h2
    · rename_i e; exact .inl (stop e h2)
    · exact h2.elim
  | succ m =>
    unfold loopC at h2
    split at h2
    · rename_i e; exact .inl (stop e h2)
    · rename_i w e
      refine .inr ⟨wk.go x2 rp2 i w e, fun H => Inn (i + 1) m H, fun H' q => ⟨m, Nat.lt_succ_self _, q⟩, fun x H3 y => ?_⟩
      obtain ⟨F3, am3, x3, rp3, r3⟩ := wk.yld x2 rp2 i w e x H3 y
      rw [R.bind_assoc] at h2
      have d3 := d2.ext x3
      refine ⟨F3, am3, M2, wipeE ρ vs, w, rp3, (((re.ext x1).wipe vs).ext x2).ext x3, r3, h2.noX.imp fun F4 am4 M4 ρ4 H4 x4 rp4 h4 σ4 p4 re4 => ⟨p4.trans (wipe_wipe σ vs), ?_⟩⟩
      rw [R.bind_assoc] at h4
      have d4 := d3.ext x4
      refine ⟨F4, am4, M4, ρ4, rp4, re4, h4.noX.imp fun F5 am5 M5 b H5 x5 rp5 h5 => ?_⟩
      have d5 := d4.ext x5
      have r5 := (RepKs.ext (x4.trans x5) (RepKs.ext x3 r2))
      have xx := (x2.trans x3).trans (x4.trans x5)
      cases b with
      | false =>
        simp only [Bool.false_eq_true, if_false] at h5 ⊢
        exact ⟨F5, am5, M5, kvs, kws, xx, rp5, d5, r5, h5⟩
      | true =>
        simp only [if_true] at h5 ⊢
        rw [R.bind_assoc] at h5
        rw [show ∀ ρ M, fKV fk fv ρ M = (fk ρ M).bind fun k M1 => (fv ρ M1).bind fun v M2 => .ok (k, v) M2 from fun _ _ => rfl, R.noX_bind, R.bind_assoc] at h5
        refine ⟨F5, am5, M5, ρ4, rp5, re4.ext x5, h5.noX.imp fun F6 am6 M6 zk H6 x6 rp6 h6 v6 q6 => ?_⟩
        rw [R.noX_bind, R.bind_assoc] at h6
        refine ⟨F6, am6, M6, ρ4, rp6, (re4.ext x5).ext x6, h6.noX.imp fun F7 am7 M7 zv H7 x7 rp7 h7 v7 q7 => ?_⟩
        have d7 := (d5.ext x6).ext x7
        have r7 := RepKs.ext (x6.trans x7) r5
        simp only [R.noX_ok, R.bind_ok] at h7
        cases e6 : putD key kws (zk, zv) with
        | none => rw [e6] at h7; exact h7.elim
        | some z' =>
          rw [e6] at h7
          unfold putD at e6
          split at e6
          · rename_i k ek
            split at e6
            · rename_i hz
              cases e6
              obtain ⟨rp8, d8⟩ := d7.put rp7 (Fm.nt (putK kvs k v7))
              exact ⟨_, Fm.put rp7 d7.hd (q6.ext x7) ek (by rw [r7.length]; exact hz), F7, am7, M7, putK kvs k v7, setK kws k zv, ((xx.trans x6).trans x7).put hD, rp8, d8, r7.put k q7, h7⟩
            · cases e6
          · cases e6
    · exact h2.elim
theorem px_dg (Fm : DForm Y mk mkOb key) (hu : X.A.units + 1 < cLine) (hc : X.calm = true) (hN : X.N.Nodup) (ok : BlkOk X.N X.env.scope scope own) (hi : PI X tg iter (iT Y Wx f))
    (hg : ∀ (s : Shared) (H : Hp) (C : Addr) (cl : List (Str × Addr)) (fp : List Addr), PG (X.blk s H scope (compEnvC scope cl C X.env) fp) tg (gT Y W0 (prW (own.map (·.2))) t))
    (ht : ∀ (s : Shared) (H : Hp) (C : Addr) (cl : List (Str × Addr)) (fp : List Addr), PTs (X.blk s H scope (compEnvC scope cl C X.env) fp) ifs (xB Y W0 tt))
    (hk : ∀ (s : Shared) (H : Hp) (C : Addr) (cl : List (Str × Addr)) (fp : List Addr), PE (X.blk s H scope (compEnvC scope cl C X.env) fp) kx (xT Y W0 fk))
    (he : ∀ (s : Shared) (H : Hp) (C : Addr) (cl : List (Str × Addr)) (fp : List Addr), PE (X.blk s H scope (compEnvC scope cl C X.env) fp) vx (xT Y W0 fv)) (hs : ∀ x, foldedSetIterable iter X.env x = pure x := by intro _; rfl) :
    PE X (.DictComp kx vx [⟨tg, iter, ifs, 0⟩] scope pos) (xT Y Wx (xDg mkOb key f t tt fk fv (own.map (·.2)))) := (pe_dg Fm.z hu hc hN ok hi hg ht hk he hs).to fun σ H Q h => dg_run Fm h
end
end Pu
end
section
set_option linter.all false
set_option maxRecDepth 100000
set_option maxHeartbeats 4000000
/-! PuM: a def that calls the lambda it gets and tells its exception by a word. -/
namespace Pu
open PySem PySem.Spec PyProof.Rows L2 LamX
/-- clauses that return a text each -/
inductive HdForm : List ExceptHandler → List (Str × Str) → Prop
  | n : HdForm [] []
  | c {h z : Str} {np p2 p3 p4 : Pos} {j : Nat} {hds : List ExceptHandler} {l : List (Str × Str)} (t : HdForm hds l) : HdForm (.ExceptHandler (some (.Name h np)) none [.Return (some (.Constant (.str z) j p2)) p3] p4 :: hds) ((h, z) :: l)
def wH (K : PySem.W.Frag) (Q : VK) (cls : Value) (H : Hp) : List (Str × Str) → Prop
  | [] => False
  | (h, z) :: r => ∃ b, PySem.W.exmOne K cls (.ref (He.ga K h)) = some b ∧ (b = true → Q (.str z) H) ∧ (b = false → wH K Q cls H r)
def TTw (K : PySem.W.Frag) (l : List (Str × Str)) (dflt : Str) : (XK → Hp → VK → Prop) → Hp → VK → Prop := fun tl H Q => tl (fun cls _ H' => wH K Q cls H' l) H (fun _ H' => Q (.str dflt) H')
/-- the readings of the clauses -/
def hdsT (K : PySem.W.Frag) (l : List (Str × Str)) : List (Value × (Addr → Value → Option Addr → TS)) := l.map fun q => (.ref (He.ga K q.1), fun _ _ _ => tRet (tC (.str q.2)))
theorem hds_ok {X : Cx} {hds : List ExceptHandler} {l : List (Str × Str)} (hf : HdForm hds l) (hn : ∀ q ∈ l, Names X q.1 (.ref (He.ga X.K q.1))) : HdsOk X hds (hdsT X.K l) := by
  induction hf with
  | n => exact .nil
  | c t ih => exact .cons (hn _ List.mem_cons_self) (fun a oe cls d pn _ _ => pss_one (ps_ret pe_str)) (ih fun q hq => hn q (List.mem_cons_of_mem _ hq))
theorem wMany_of {K : PySem.W.Frag} {D : Ends} {cls : Value} {d : Option Addr} {σ : L2.St} {H : Hp} : ∀ {l : List (Str × Str)}, wH K D.rt cls H l → wMany K (fun _ _ _ _ => False) D (hdsT K l) cls d σ H
  | [], h => h
  | (h, z) :: r, ⟨b, e, h1, h2⟩ => ⟨b, e, fun hb _ _ => h1 hb, fun hb => wMany_of (h2 hb)⟩
section
variable {X : Cx}
theorem word_gives {Ng : List Str} {x a q dflt : Str} {sg : Scope} {g : Addr} {cdg : Value} {j : Nat} {p1 p2 p3 p5 p6 p8 : Pos} {h0 : ExceptHandler} {hds : List ExceptHandler} {l : List (Str × Str)} (hf : HdForm (h0 :: hds) l)
    (hn : ∀ q ∈ l, sg.names.lookup q.1 = some .globalImplicit ∧ (q.1 == ("__debug__" : Str)) = false ∧ X.mg q.1 = some (.ref (He.ga X.K q.1))) (h0' : ∀ f : Addr, (L2.start Ng [V.ref f])[0]? = some (some (V.ref f))) :
    GivesTo X Ng x sg g cdg [.Try [.Expr (.Call (.Name a p1) [] [] p2) p3] (h0 :: hds) [] [] p8, .Return (some (.Constant (.str dflt) j p5)) p6] a q (TTw X.K l dflt) := by
  intro f c' s H Q tl act hc h
  refine ⟨_, pss_cons (ps_try_many (X := (cxOf C8.CX0 X.prog X.w X.K X.mg X.base Ng x sg g cdg X.A X.stack s H C8.E0).nox) (l := hdsT X.K l)
      (tb := fun W D σ H => ∃ Ech : XK, (∀ cls d σ' H', Ech cls d H' → W cls d σ' H') ∧ σ[0]? = some (some (.ref f)) ∧ H c' = some (CodeO c' q) ∧ tl Ech H fun _ H' => D.nx σ H')
      rfl rfl LamX.takes0 (fun W pn xe tk _ => ?_) (hds_ok hf fun q hq => ?_)) (pss_one (ps_ret pe_str)), ?_⟩
  · refine ⟨fun pins s' σ H' D I h' => ?_⟩
    obtain ⟨Ech, hW, h1, h2, h3⟩ := h'
    have hp := act W pn xe Ech p1 p2 tk hW
    exact (pss_one (ps_expr (pos := p3) hp)).run pins s' σ H' D I ⟨h1, h2, h3⟩
  · obtain ⟨n1, n2, n3⟩ := hn q hq
    exact ⟨n1, n2, .inl n3⟩
  · exact ⟨fun cls _ H' => wH X.K Q cls H' l, fun cls d σ' H' z => wMany_of (D := { nx := _, rt := Q }) z, h0' f, hc, h⟩
end

/-- the first clause that takes the class -/
def firstH (sub : Str → Str → Option Bool) (c : Str) : List (Str × Str) → Option Str
  | [] => none
  | (h, z) :: r => match sub c h with
    | some true => some z
    | some false => firstH sub c r
    | none => none
def xWord (sub : Str → Str → Option Bool) (l : List (Str × Str)) (dflt : Str) (f : PEx) : PEx := fun ρ M => match f ρ M with
  | .ok _ M1 => .ok (.d (.str dflt)) M1
  | .ex c M1 => match firstH sub c l with
    | some z => .ok (.d (.str z)) M1
    | none => .bad
  | .bad => .bad
theorem wH_of {K : PySem.W.Frag} {Q : VK} {H : Hp} {sub : Str → Str → Option Bool} {c : Str} (hs : ∀ c h b, sub c h = some b → PySem.W.exmOne K (.ref (He.ga K c)) (.ref (He.ga K h)) = some b) : ∀ {l : List (Str × Str)} {z : Str}, firstH sub c l = some z → Q (.str z) H → wH K Q (.ref (He.ga K c)) H l
  | [], _, h, _ => by cases h
  | (h, y) :: r, z, e, q => by
    have e : (match sub c h with | some true => some y | some false => firstH sub c r | none => none) = some z := e
    cases e1 : sub c h with
    | none => rw [e1] at e; cases e
    | some b =>
      rw [e1] at e
      cases b with
      | true => cases e; exact ⟨true, hs _ _ _ e1, fun _ => q, fun z => (by cases z)⟩
      | false => exact ⟨false, hs _ _ _ e1, fun z => (by cases z), fun _ => wH_of hs e q⟩
section
variable {Y : Wd} {F : Hp} {am : List Addr} {M : Store} {H H1 : Hp}
/-- code objects were told to the tables -/
theorem Rep.lam (rp : Rep Y F am M H) (e : ExtN H H1) (t : Tabs Y.T H1) : Rep Y F am M H1 ∧ Ext F am H F am H1 := by
  have one : ∀ a o, F a = some o → H1 a = some o := fun a o h => e a o (rp.fz a o h) fun ps z => by
    rcases rp.fd a o h with ⟨xs, q⟩ | ⟨xs, q⟩
    · rw [q] at z; cases z
    · rw [q] at z; cases z
  refine ⟨⟨one, rp.fd, rp.ln, rp.nd, rp.sp, fun n a ob h1 h2 => ?_, t, ?_⟩, ⟨fun _ _ h => h, ⟨[], by simp, fun b hb => by simp at hb⟩, fun b o h _ n => e b o h n, fun b h => ?_, fun _ _ h => .inl h⟩⟩
  · have q := rp.ob n a ob h1 h2
    obtain ⟨o, e1, e2, _⟩ := q.isSome
    rw [e1] at q
    rw [e a o e1 e2]
    exact q
  · rcases rp.sc with ⟨h, hn⟩ | h
    · refine .inl ⟨?_, hn⟩
      rcases h with h | ⟨u, h⟩
      · exact .inl (e _ _ h fun ps z => by cases z)
      · exact .inr ⟨u, e _ _ h fun ps z => by cases z⟩
    · exact .inr h
  · cases q : H b with
    | none => exact .inl q
    | some o =>
      by_cases ht : ∃ ps, o = .tbl ps
      · obtain ⟨ps, rfl⟩ := ht
        exact .inr ⟨ps, q⟩
      · exact (h.not (e b o q fun ps z => ht ⟨ps, z⟩) fun ps z => ht ⟨ps, z⟩).elim
end
/-- the maker of lambdas: its code object, its table -/
structure Mkr (Y : Wd) (base : Heap) (mg : Str → Option Value) (code : Value) (qual : Str) : Prop where
  ex : ∃ c P, code = .ref c ∧ TabB base mg c P ∧ (P, qual ++ "<lambda>") ∈ Y.T ∧ ∀ p ∈ Y.T, p.1 = P → p.2 = qual ++ "<lambda>"
/-- the def that is handed the lambda -/
structure Wrd (Y : Wd) (mg : Str → Option Value) (x : Str) (l : List (Str × Str)) (dflt : Str) : Prop where
  ex : ∃ (g : Addr) (pg : Arguments) (sg : Scope) (dV kV doc pm cdv ct oc : Value) (an od : Option Addr) (osl : Array (Option Value)) (Ng : List Str) (a : Str) (p1 p2 p3 p5 p6 p8 : Pos) (j : Nat) (h0 : ExceptHandler) (hds : List ExceptHandler),
    mg x = some (.ref g) ∧ PySem.W.keepIn Y.K (.ref g) = true ∧
    Y.K.lookup g = some ⟨oc, od, .func (PySem.W.fnOf x x pg [.Try [.Expr (.Call (.Name a p1) [] [] p2) p3] (h0 :: hds) [] [] p8, .Return (some (.Constant (.str dflt) j p5)) p6] sg dV kV doc pm an cdv ct), osl⟩ ∧
    PySem.W.codeIn Y.K cdv x = true ∧ L2.Binds Y.K (PySem.W.fnOf x x pg [.Try [.Expr (.Call (.Name a p1) [] [] p2) p3] (h0 :: hds) [] [] p8, .Return (some (.Constant (.str dflt) j p5)) p6] sg dV kV doc pm an cdv ct) [a] [] ∧
    FnScope Ng [a] sg ∧ Ng[0]? = some a ∧ Vis sg a ∧ (a == ("__debug__" : Str)) = false ∧ (a == ("__classdict__" : Str)) = false ∧ HdForm (h0 :: hds) l ∧ (∀ f : Addr, (L2.start Ng [V.ref f])[0]? = some (some (V.ref f))) ∧
    ∀ q ∈ l, sg.names.lookup q.1 = some .globalImplicit ∧ (q.1 == ("__debug__" : Str)) = false ∧ mg q.1 = some (.ref (He.ga Y.K q.1))
section
variable {X : Cx} {Y : Wd} {Wx : WX} {x : Str} {l : List (Str × Str)} {dflt : Str} {params : Arguments} {body : Expr} {scope : Scope} {f : PEx} {k : Nat} {p lpos pos : Pos} {sub : Str → Str → Option Bool}
theorem px_word (Wd' : Wrd Y X.mg x l dflt) (mk : Mkr Y X.base X.mg X.env.code X.env.qual) (hs : ∀ c h b, sub c h = some b → PySem.W.exmOne Y.K (.ref (He.ga Y.K c)) (.ref (He.ga Y.K h)) = some b) (hr : Room (k + 2) X.A) (hg : Gl X x) (L : LamS X.env.scope scope) (hK : X.K = Y.K)
    (hbody : ∀ (A : Around) (outer : List PySem.Env) (s : Shared) (H : Hp) (E : XK) (f' c' : Addr), Room k (A.deeper (lamEnv X scope s.heap.objs.size f' c')) → PE (lamCx X A outer s H E scope f' c') body (xT Y (fun c d _ H' => E c d H') f))
    (hdef : defaultsOf params X.env = ([], []) := by rfl)
    (hbind : ∀ (q : Str) (cl : List (Str × Addr)) (pm cv ctv : Value), bindArgs (PySem.W.kla_fn "<lambda>" q params body scope cl pm cv ctv) ⟨[], []⟩ = pure [] := by intros; rfl)
    (hdb : (x == ("__debug__" : Str)) = false := by decide) : PE X (.Call (.Name x p) [.Lambda params body scope lpos] [] pos) (xT Y Wx (xWord sub l dflt f)) := by
  obtain ⟨g, pg, sg, dV, kV, doc, pm, cdv, ct, oc, an, od, osl, Ng, a, p1, p2, p3, p5, p6, p8, j, h0, hds, gm, gk, lk, hcd, hb, S, hN, hv, d1, d2, hf, hst, hn⟩ := Wd'.ex
  obtain ⟨c, P, hcode, TB, hmT, hu⟩ := mk.ex
  rw [← hK] at gk lk hcd hb hn
  refine (pe_lamcall (T := Y.T) (TT := TTw X.K l dflt) (t := fun E => xT Y (fun c d _ H' => E c d H') f) hg gm gk lk hcd hb S hN hv (word_gives hf hn hst) TB hcode hmT hu hr L hdef hbind (fun A outer s H E f' c' hr' => hbody A outer s H E f' c' hr') hdb d1 d2).to fun σ H Q h => ?_
  obtain ⟨F, am, M, ρ, rp, re, h⟩ := h
  refine ⟨rp.tb, fun H1 e1 t1 => ?_⟩
  obtain ⟨rp1, x1⟩ := rp.lam e1 t1
  refine ⟨F, am, M, ρ, rp1, re, ?_⟩
  unfold xWord at h
  show Aft Y _ F am H1 (f ρ M) _
  cases q : f ρ M with
  | bad => rw [q] at h; exact h.elim
  | ok w M1 =>
    rw [q] at h
    exact fun F2 am2 H2 x2 rp2 v _ => h F2 am2 H2 (x1.trans x2) rp2 _ (.d (.str dflt))
  | ex cc M1 =>
    rw [q] at h
    intro F2 am2 H2 x2 rp2
    have h : Aft Y (fun c d H' => Wx c d σ H') F am H (match firstH sub cc l with | some z => .ok (.d (.str z)) M1 | none => .bad) (fun F' am' _ w H' => ∀ v, RepW Y F' am' v w → Q v H') := h
    cases q2 : firstH sub cc l with
    | none => rw [q2] at h; exact h.elim
    | some z =>
      rw [q2] at h
      rw [hK]
      exact wH_of hs q2 (h F2 am2 H2 (x1.trans x2) rp2 _ (.d (.str z)))
end
end Pu
end
section
set_option linter.all false
set_option maxRecDepth 100000
set_option maxHeartbeats 4000000
/-! PuN: the law is called. -/
namespace Pu
open PySem PySem.Spec PyProof.Rows L2 LamX
section
variable {P : Program} {w : World} {K : PySem.W.Frag} {mg mb : Str → Option Value} {fa a : Addr} {cs : List (Addr × Addr)} {s₁ : Shared} {vs : List Value} {ns : List Int}
/-- what is tracked when the law is entered -/
def H0 (K : PySem.W.Frag) (cs : List (Addr × Addr)) (vs : List Value) (ns : List Int) (a : Addr) : Hp := fun b =>
  if b = a then (if (K.lookup a).isSome = true then none else some (.frz { cls := .type "list", data := .seq vs.toArray } (.lst (ns.map V.int)))) else if b ∈ cs.map (·.2) then some (.tbl #[]) else none
theorem H0_other {b : Addr} (h : b ≠ a) : H0 K cs vs ns a b = if b ∈ cs.map (·.2) then some (.tbl #[]) else none := if_neg h
theorem H0_none {b : Addr} (h : b ≠ a) (h2 : b ∉ cs.map (·.2)) : H0 K cs vs ns a b = none := (if_neg h).trans (if_neg h2)
theorem H0_tab {b : Addr} (h : b ≠ a) (h2 : b ∈ cs.map (·.2)) : H0 K cs vs ns a b = some (.tbl #[]) := (if_neg h).trans (if_pos h2)
theorem H0_self : H0 K cs vs ns a a = if (K.lookup a).isSome = true then none else some (.frz { cls := .type "list", data := .seq vs.toArray } (.lst (ns.map V.int))) := if_pos rfl
/-- the law's call, no repr under way -/
theorem law_enter {k : Nat} {fd : FuncData} {x : Str} {sp : Sp} (KX : K.In s₁.heap) (hns : s₁.heap.Ns mainGlobals mg) (hb : s₁.heap.Ns builtinsNs mb) (hbb : ∀ x : Str, x ≠ "__name__" → mb x = bootBuiltins x) (hlim : s₁.heap.NoLimit) (hg : s₁.gens = #[])
    (hT : ∀ p ∈ cs, s₁.heap.get? p.2 = some { cls := .none, data := .fields #[] }) (nT : ∀ p ∈ cs, K.lookup p.2 = none) (C : ∀ p ∈ cs, PySem.W.CodeHd s₁.heap p.1 p.2)
    (hbm : ∃ (bm : Addr) (ob : Obj), mg "__builtins__" = some (.ref bm) ∧ bm ≠ builtinsNs ∧ s₁.heap.get? bm = some ob ∧ ob.cls = .type "module" ∧ ob.dict = some builtinsNs ∧ ob.data = .plain)
    (ha : s₁.heap.get? a = some { cls := .type "list", data := .seq vs.toArray }) (hi : IntsAre vs ns) (hl : ns.length ≤ sizeLine) (hr : RG true k callerA)
    (F : ∀ base : Heap, K.In base → base.Ns mainGlobals mg → (∀ p ∈ cs, TabB base mg p.1 p.2) → FnG P w K mg base true k fa fd [x] sp) (hbind : ∀ (s : Shared) (u : Value), BindsTo s fd ⟨[u], []⟩ [(x, u)])
    (hsp : ∀ H : Hp, (∀ p ∈ cs, H p.2 = some (.tbl #[])) → (∀ b o, H b = some o → b = a ∨ b ∈ cs.map (·.2)) → (Rd H a (.lst (ns.map V.int)) ∨ ∃ (o : Obj) (its : Array Value) (n : Nat), K.lookup a = some o ∧ o.cls = .type "list" ∧ o.dict = none ∧ o.data = .seq its n ∧ its.size ≤ sizeLine ∧ L2.Vals (ns.map V.int) its.toList) →
      sp [.ref a] H (fun v _ => v = .bl true) fun _ _ _ => False) :
    codeAny (model P w) callerA (.call (.ref fa) ⟨[.ref a], []⟩) (fun r s' => r = .ok (.ret (.bool true)) ∧ OldK s₁.heap s'.heap ∧ s'.os = s₁.os ∧ AllBare s'.gens) s₁ := by
  have hv : L2.Vals (ns.map V.int) vs := vals_ints hi
  have tabAt : ∀ b ∈ cs.map (·.2), s₁.heap.get? b = some { cls := .none, data := .fields #[] } := fun b hb => by
    obtain ⟨p, hp, rfl⟩ := List.mem_map.mp hb
    exact hT p hp
  have notTab : a ∉ cs.map (·.2) := fun z => by
    have q := tabAt a z
    rw [ha] at q
    exact absurd (congrArg Obj.data (Option.some.inj q)) (fun e => by cases e)
  have tabNe : ∀ b ∈ cs.map (·.2), b ≠ a := fun b hb e => notTab (e ▸ hb)
  generalize eH : H0 K cs vs ns a = H
  have hTbl : ∀ b ∈ cs.map (·.2), H b = some (.tbl #[]) := fun b hb => by rw [← eH]; exact H0_tab (tabNe b hb) hb
  have hOnly : ∀ b o, H b = some o → b = a ∨ b ∈ cs.map (·.2) := fun b o e => by
    by_cases h1 : b = a
    · exact .inl h1
    · by_cases h2 : b ∈ cs.map (·.2)
      · exact .inr h2
      · rw [← eH, H0_none h1 h2] at e; cases e
  have hSelf : H a = none ∧ (K.lookup a).isSome = true ∨ H a = some (.frz { cls := .type "list", data := .seq vs.toArray } (.lst (ns.map V.int))) ∧ K.lookup a = none := by
    rw [← eH, H0_self]
    cases q : K.lookup a with
    | some o => exact .inl ⟨rfl, rfl⟩
    | none => exact .inr ⟨rfl, rfl⟩
  have hScr : Rd H a (.lst (ns.map V.int)) ∨ ∃ (o : Obj) (its : Array Value) (n : Nat), K.lookup a = some o ∧ o.cls = .type "list" ∧ o.dict = none ∧ o.data = .seq its n ∧ its.size ≤ sizeLine ∧ L2.Vals (ns.map V.int) its.toList := by
    rcases hSelf with ⟨_, h2⟩ | ⟨h1, _⟩
    · obtain ⟨o, e⟩ := Option.isSome_iff_exists.mp h2
      have e2 := KX a o e
      rw [ha] at e2
      cases e2
      exact .inr ⟨_, vs.toArray, _, e, rfl, rfl, rfl, by rw [List.size_toArray, hi.length]; exact hl, by simpa using hv⟩
    · exact .inl (.inr ⟨_, h1⟩)
  have hok : HOk P w H s₁.heap := fun b o e => by
    rcases hOnly b o e with h1 | h1
    · subst h1
      rcases hSelf with ⟨h2, _⟩ | ⟨h2, _⟩
      · rw [e] at h2; cases h2
      · rw [e] at h2
        cases h2
        exact ⟨ha, by rw [List.length_map]; exact hl, vs, _, hv, ha⟩
    · have z := hTbl b h1
      rw [e] at z
      cases z
      exact tabAt b h1
  -- what is no list and no table is not tracked
  have free : ∀ {b : Addr} {o : Obj}, s₁.heap.get? b = some o → (∀ us n, o.data ≠ .seq us n) → o.data ≠ .fields #[] → H b = none := fun {b o} e h1 h2 => by
    cases q : H b with
    | none => rfl
    | some u =>
      rcases hOnly b u q with z | z
      · rw [z, ha] at e
        cases e
        exact (h1 _ _ rfl).elim
      · rw [tabAt b z] at e
        cases e
        exact (h2 rfl).elim
  have inB : ∀ {b : Addr} {o : Obj}, s₁.heap.get? b = some o → (∀ us n, o.data ≠ .seq us n) → o.data ≠ .fields #[] → (hidT s₁.heap H).get? b = some o := fun e h1 h2 => hidT_get e (free e h1 h2)
  have nsB : ∀ {b : Addr} {m : Str → Option Value}, s₁.heap.Ns b m → (hidT s₁.heap H).Ns b m := fun ⟨o, es, ep, e, d, r⟩ => ⟨o, es, ep, inB e (fun us n z => by rw [d] at z; cases z) (fun z => by rw [d] at z; cases z), d, r⟩
  have kB : K.In (hidT s₁.heap H) := fun b o e => hidT_get (KX b o e) (by
    cases q : H b with
    | none => rfl
    | some u =>
      rcases hOnly b u q with z | z
      · rcases hSelf with ⟨h1, _⟩ | ⟨_, h1⟩
        · rw [z, h1] at q; cases q
        · rw [z, h1] at e; cases e
      · obtain ⟨p, hp, rfl⟩ := List.mem_map.mp z
        rw [nT p hp] at e
        cases e)
  have tB : ∀ p ∈ cs, TabB (hidT s₁.heap H) mg p.1 p.2 := fun p hp => by
    obtain ⟨og, eg, pg, g1, g2, _⟩ := hns
    refine ⟨?_, ?_, fun z => by rw [z, hT p hp] at g1; cases g1; cases g2⟩
    · obtain ⟨o, us, file, tf, flags, tg, inF, text, tt, e1, r1, r2, r3, r4, r5, r6, r7, r8, hne⟩ := C p hp
      exact ⟨o, us, file, tf, flags, tg, inF, text, tt, inB e1 (fun us n z => by rw [r2] at z; cases z) (fun z => by rw [r2] at z; cases z; simp at r3), r1, r2, r3, r4, r5, r6, r7, r8, hne⟩
    · obtain ⟨bm, ob, b1, b2, b3, b4, b5, b6⟩ := hbm
      exact ⟨bm, ob, b1, b2, fun q => (by rw [q, g1] at b3; cases b3; rw [g2] at b6; cases b6), fun q => (by rw [q, hT p hp] at b3; cases b3; cases b6), inB b3 (fun us n z => by rw [b6] at z; cases z) (fun z => by rw [b6] at z; cases z), b4, b5, b6⟩
  have e0 : Env0 P w K mg (hidT s₁.heap H) callerA [] s₁ H :=
    ⟨rfl, ⟨kB, nsB hns, ⟨mb, nsB hb, hbb⟩, let ⟨mc, h1, h2⟩ := hlim; ⟨mc, nsB h1, h2⟩⟩, fun b o e => of_hidT e, Nat.le_of_eq (hidT_size _ _), trivial, fun b hb => (by cases hb), hok, .of_eq hg⟩
  refine codeAny_mono ((F _ kB (nsB hns) tB).run callerA [] s₁ H ⟨[.ref a], []⟩ [.ref a] [.ref a] _ _ hr e0 (hbind s₁ (.ref a)) (.cons rfl .nil) (hsp H (fun p hp => hTbl _ (List.mem_map.mpr ⟨p, hp, rfl⟩)) hOnly hScr)) fun r s' h => ?_
  match r, h with
  | .error e, h =>
    obtain ⟨_, _, _, _, _, _, _, _, _, _, _, _, z⟩ := h
    exact z.elim
  | .ok (.ret u), h =>
    obtain ⟨v, H', os, bare, un, hok', r', q⟩ := h
    have q : v = .bl true := q
    subst q
    obtain rfl : u = Value.bool true := r'
    have kept : ∀ b o, b ∉ cs.map (·.2) → s₁.heap.get? b = some o → s'.heap.get? b = some o := fun b o nb e => by
      cases q : H b with
      | none => exact un.keep b o e q (fun z => by cases z) (fun z => by cases z)
      | some u =>
        rcases hOnly b u q with z | z
        · subst z
          rcases hSelf with ⟨h1, _⟩ | ⟨h1, _⟩
          · rw [q] at h1; cases h1
          · obtain ⟨e2, _⟩ := hok' b _ (un.frzs b _ _ h1)
            rw [ha] at e
            cases e
            exact e2
        · exact absurd z nb
    have more : ∀ p ∈ cs, ∃ ps : Array Value, s'.heap.get? p.2 = some { cls := .none, data := .fields ps } := fun p hp => by
      obtain ⟨m, z⟩ := un.tbls p.2 #[] (hTbl _ (List.mem_map.mpr ⟨p, hp, rfl⟩))
      exact ⟨_, hok' p.2 _ z⟩
    refine ⟨rfl, ⟨fun b o e => ?_, fun b o e => ?_⟩, os, bare⟩
    · by_cases hb : b ∈ cs.map (·.2)
      · obtain ⟨p, hp, rfl⟩ := List.mem_map.mp hb
        obtain ⟨ps, hm⟩ := more p hp
        rw [hT p hp] at e
        cases e
        exact .inr (.inl ⟨((C p hp).tab (hT p hp)).isCodeTable, rfl, #[], ps, rfl, by rw [Array.empty_append]; exact hm⟩)
      · exact .inl (kept b o hb e)
    · by_cases hb : b ∈ cs.map (·.2)
      · obtain ⟨p, hp, rfl⟩ := List.mem_map.mp hb
        obtain ⟨ps, hm⟩ := more p hp
        exact ⟨_, hm⟩
      · exact ⟨o, kept b o hb e⟩
end
end Pu
end
section
set_option linter.all false
set_option maxRecDepth 100000
set_option maxHeartbeats 4000000
/-! PuO: odds and ends for printed proofs. -/
namespace Pu
open PySem PySem.Spec PyProof.Rows L2
theorem RG.u65 {b : Bool} {k : Nat} {A : Around} (r : RG b k A) : A.units + 65 < cLine := by have := r.r.un; omega
theorem RG.u1 {b : Bool} {k : Nat} {A : Around} (r : RG b k A) : A.units + 1 < cLine := by have := r.r.un; omega
def pNeg (w : W) (M : Store) : R W := match w with
  | .d (.int i) => .ok (.d (.int (-i))) M
  | _ => .bad
def xNeg (f : PEx) : PEx := fun ρ M => (f ρ M).bind pNeg
section
variable {X : Cx} {Y : Wd} {Wx : WX} {e : Expr} {f : PEx} {pos p2 p3 : Pos}
theorem px_neg (h : PE X e (xT Y Wx f)) : PE X (.UnaryOp .USub e pos) (xT Y Wx (xNeg f)) := (pe_un un_neg h).to fun σ H Q h => by
  obtain ⟨F, am, M, ρ, rp, re, h⟩ := h
  refine ⟨F, am, M, ρ, rp, re, h.bind.imp fun F1 am1 M1 w H1 x1 rp1 h1 v q => ?_⟩
  cases w with
  | d x =>
    cases x with
    | int i => exact ⟨i, q.int, h1.ret rp1 _ (.d (.int _))⟩
    | _ => exact h1.elim
  | _ => exact h1.elim
/-- script[:k] -/
def xScr (ns : List Int) (k : Nat) (f : PEx) : PEx := fun ρ M => (f ρ M).bind fun w M1 => match w with
  | .scr => .ok (.d (.list ((ns.take k).map .int))) M1
  | _ => .bad
theorem repDs_ints {K : PySem.W.Frag} {F : Hp} : ∀ ns : List Int, RepDs K F (ns.map V.int) (ns.map .int)
  | [] => .nil
  | n :: ns => .cons (.int n) (repDs_ints ns)
theorem cut_take (ns : List Int) (k : Nat) : cutV (ns.map V.int) none (some (k : Int)) = (ns.take k).map V.int := by
  unfold cutV
  have e1 : HT.sIx (ns.map V.int).length 0 none = 0 := by simp [HT.sIx]
  rw [e1, List.drop_zero, Nat.sub_zero, List.map_take]
  have e2 : HT.sIx (ns.map V.int).length (ns.map V.int).length (some (k : Int)) = min k (ns.map V.int).length := by
    unfold HT.sIx
    simp
    try omega
  rw [e2]
  by_cases h : k ≤ (ns.map V.int).length
  · rw [Nat.min_eq_left h]
  · rw [Nat.min_eq_right (by omega), List.take_length, List.take_of_length_le (by omega)]
theorem px_scr {ns : List Int} {k : Nat} {j : Nat} (hns : Y.ns = ns) (h : PE X e (xT Y Wx f)) (hK : X.K = Y.K := by rfl) : PE X (.Subscript e (.Slice none (some (.Constant (.int (k : Int)) j p3)) none p2) pos) (xT Y Wx (xScr ns k f)) := (pe_slice sl_list h po_none (po_some pe_int)).to fun σ H Q h => by
  obtain ⟨F, am, M, ρ, rp, re, h⟩ := h
  refine ⟨F, am, M, ρ, rp, re, h.bind.imp fun F1 am1 M1 w H1 x1 rp1 h1 v q => ?_⟩
  cases w with
  | scr =>
    cases q
    subst hns
    refine ⟨(k : Int), rfl, ?_⟩
    rw [hK]
    refine ⟨Y.sa, Y.ns.map V.int, rfl, rp1.scr, fun p hp => ?_⟩
    rw [cut_take]
    exact Aft.newL rp1 hp (repDs_ints _) h1
  | d _ => exact h1.elim
  | p _ => exact h1.elim
end
/-- an exception class of the module -/
theorem Said.exc {fa : List He.Fa} {fn : List He.DefD} {Y : Wd} {mg : Str → Option Value} (S : Said fa fn Y mg) (i j : Nat) {x : Str} (e : fa[i]? = some (.glo x)) (e2 : fa[j]? = some (.exc x)) : ExcC Y mg x := by
  obtain ⟨h1, h2, h3, h4⟩ := He.exc_ok (S.c.fact j e2)
  exact ⟨S.glo i e, h1, h2, h3, h4⟩
theorem Said.exm {fa : List He.Fa} {fn : List He.DefD} {Y : Wd} {mg : Str → Option Value} (S : Said fa fn Y mg) (i : Nat) {x y : Str} {b : Bool} (e : fa[i]? = some (.exm x y b)) : PySem.W.exmOne Y.K (.ref (He.ga Y.K x)) (.ref (He.ga Y.K y)) = some b := He.exm_ok (S.c.fact i e)
/-- a tuple of texts and ints in the module's text -/
def dvOf : PyData → He.Dv
  | .int i => .int i
  | .str x => .str x
  | .bool b => .bl b
  | _ => .non
def flatK : PyData → Bool
  | .int _ => true
  | .str _ => true
  | .bool _ => true
  | .none => true
  | _ => false
theorem repD_dv {K : PySem.W.Frag} {F : Hp} {x : PyData} (h : flatK x = true) : RepD K F ((dvOf x).v K) x := by
  cases x with
  | int i => exact .int i
  | str z => exact .str z
  | bool b => exact .bl b
  | none => exact .non
  | _ => cases h
theorem repDs_dv {K : PySem.W.Frag} {F : Hp} : ∀ {xs : List PyData}, xs.all flatK = true → RepDs K F ((xs.map dvOf).map (He.Dv.v K)) xs
  | [], _ => .nil
  | x :: xs, h => by
    rw [List.all_cons, Bool.and_eq_true] at h
    exact .cons (repD_dv h.1) (repDs_dv h.2)
theorem ktup_of {Y : Wd} {mg : Str → Option Value} {x : Str} {ds : List PyData} (hm : mg x = some (.ref (He.ga Y.K x))) (h : He.tupB Y.K x (ds.map dvOf) = true) (hf : ds.all flatK = true) : KTup Y mg x ds :=
  ⟨He.ga Y.K x, _, hm, fun H => He.tupB_ok h H, fun F => repDs_dv hf⟩
end Pu
end
section
set_option linter.all false
set_option maxRecDepth 100000
set_option maxHeartbeats 4000000
/-! PuP: from the plain function of the law to the row. -/
namespace Pu
open PySem PySem.Spec PyProof.Rows L2 LamX
/-- how the script lies when the law is entered -/
def ScrAt (K : PySem.W.Frag) (H : Hp) (a : Addr) (ns : List Int) : Prop := Rd H a (.lst (ns.map V.int)) ∨ ∃ (o : Obj) (its : Array Value) (n : Nat), K.lookup a = some o ∧ o.cls = .type "list" ∧ o.dict = none ∧ o.data = .seq its n ∧ its.size ≤ sizeLine ∧ L2.Vals (ns.map V.int) its.toList
theorem walk_lawG {l : PySem.W.OpenLaw} {n k : Nat} {q : Program} {loose : List Str} {XP : (Str → Option Value) → Heap → Prop} {YP : World → Heap → Prop} {d : DefRec} {x : Str} (hn : l.most = some n) (hn2 : n ≤ sizeLine) (hdf : d.params.defaults = []) (hr : RG true k callerA)
    (F : ∀ (w : World) (mg : Str → Option Value) (fa : Addr) (h : Heap), YP w h → h.Ns mainGlobals mg → mg d.name = some (.ref fa) → ∃ (K : PySem.W.Frag) (fd : FuncData) (cs : List (Addr × Addr)) (sp : Sp), K.In h ∧
      (∀ p ∈ cs, h.get? p.2 = some { cls := .none, data := .fields #[] }) ∧ (∀ p ∈ cs, K.lookup p.2 = none) ∧ (∀ p ∈ cs, PySem.W.CodeHd h p.1 p.2) ∧ (∀ (s : Shared) (u : Value), BindsTo s fd ⟨[u], []⟩ [(x, u)]) ∧
      (∀ (H : Hp) (a : Addr) (ns : List Int), ns.length ≤ n → (∀ z ∈ ns, Builtin.Int.intBits z ≤ 1048576) → (∀ p ∈ cs, H p.2 = some (.tbl #[])) → (∀ b o, H b = some o → b = a ∨ b ∈ cs.map (·.2)) → ScrAt K H a ns → sp [.ref a] H (fun v _ => v = .bl true) fun _ _ _ => False) ∧
      ∀ base : Heap, K.In base → base.Ns mainGlobals mg → (∀ p ∈ cs, TabB base mg p.1 p.2) → FnG l.prog w K mg base true k fa fd [x] sp) :
    PySem.W.WalkO q loose XP YP l.row.toRowW d [] (fun f vs => PySem.call f vs) := by
  refine Att.attach_callB hn hdf fun w s₀ s₁ mg mb fa o pm cd doc a vs ns G Y ho hd hcd hmg hobj hints hlen hbits hg => ?_
  obtain ⟨K, fd, cs, sp, KX, hT, nT, C, hb, hsp, hF⟩ := F w mg fa _ Y G.T.g hmg
  exact law_enter KX G.T.g G.T.b G.T.builtins G.T.nolimit hg hT nT C G.T.bmain hobj hints (Nat.le_trans hlen hn2) hr hF hb (fun H h1 h2 h3 => hsp H a ns hlen hbits h1 h2 h3)
/-- the law's promise, whatever the script is -/
def spLaw (K : PySem.W.Frag) (T : List (Addr × Str)) (ok : List Int → Prop) (fn : List Int → Fn) : Sp := fun vs H Q E => ∃ (sa : Addr) (ns : List Int), ok ns ∧ spF ⟨K, T, sa, ns⟩ 1 (fn ns) vs H Q E
theorem fng_law {P : Program} {w : World} {K : PySem.W.Frag} {mg : Str → Option Value} {base : Heap} {k : Nat} {f : Addr} {fd : FuncData} {x : Str} {T : List (Addr × Str)} {ok : List Int → Prop} {fn : List Int → Fn}
    (h : ∀ (sa : Addr) (ns : List Int), ok ns → FnG P w K mg base true k f fd [x] (spF ⟨K, T, sa, ns⟩ 1 (fn ns))) : FnG P w K mg base true k f fd [x] (spLaw K T ok fn) :=
  ⟨fun vs H Q E ⟨sa, ns, o, s⟩ => (h sa ns o).len vs H Q E s, fun A outer s H args us vs Q E hr e0 hb hv ⟨sa, ns, o, sp⟩ => (h sa ns o).run A outer s H args us vs Q E hr e0 hb hv sp⟩
/-- nothing is tracked but the script and the tables -/
theorem spLaw_of {K : PySem.W.Frag} {cs : List (Addr × Addr)} {T : List (Addr × Str)} {ok : List Int → Prop} {fn : List Int → Fn} {H : Hp} {a : Addr} {ns : List Int} (hT : ∀ p ∈ T, p.1 ∈ cs.map (·.2)) (ho : ok ns) (h1 : ∀ p ∈ cs, H p.2 = some (.tbl #[])) (hs : ScrAt K H a ns)
    (hf : ∃ M, fn ns [.scr] [] = .ok (.d (.bool true)) M) : spLaw K T ok fn [.ref a] H (fun v _ => v = .bl true) fun _ _ _ => False := by
  obtain ⟨M, e⟩ := hf
  refine ⟨a, ns, ho, fun _ => none, [], [], [.scr], ⟨fun _ _ h => (by cases h), fun _ _ h => (by cases h), rfl, List.nodup_nil, fun _ h => (by cases h), fun n b o h => (by simp at h), fun p hp => ?_, ?_⟩, .cons .scr .nil, rfl, ?_⟩
  · obtain ⟨c, hc, e2⟩ := List.mem_map.mp (hT p hp)
    exact TabS.nil (by rw [← e2]; exact h1 c hc)
  · rcases hs with h | h
    · exact .inl ⟨h, fun z => (by cases z)⟩
    · exact .inr h
  · rw [e]
    exact fun F' am' H' x rp v r => r.bl
end Pu
end
section
set_option linter.all false
set_option maxRecDepth 100000
set_option maxHeartbeats 4000000
/-! PuQ: reckoning with the plain functions. -/
namespace Pu
open PySem PySem.Spec
/-! ### unfolding, for simp: what is left to do stands in a name, so that nothing is reckoned ahead of its turn -/

def k2b (op : W → W → Store → R W) (w : W) (r : R W) : R W := r.bind fun zz M => match zz with
  | u => op w u M
@[simp] theorem k2b_0 (op : W → W → Store → R W) (w : W) (u : W) (M : Store) : k2b op w (.ok (u) M) = op w u M := Eq.trans rfl rfl
@[simp] theorem k2b_ex (op : W → W → Store → R W) (w : W) (c : Str) (M : Store) : k2b op w (.ex c M) = .ex c M := Eq.trans rfl rfl
def k2 (op : W → W → Store → R W) (g : PEx) (ρ : Pu.Env) (r : R W) : R W := r.bind fun zz M => match zz with
  | w => k2b op w (g ρ M)
@[simp] theorem k2_0 (op : W → W → Store → R W) (g : PEx) (ρ : Pu.Env) (w : W) (M : Store) : k2 op g ρ (.ok (w) M) = k2b op w (g ρ M) := Eq.trans rfl rfl
@[simp] theorem k2_ex (op : W → W → Store → R W) (g : PEx) (ρ : Pu.Env) (c : Str) (M : Store) : k2 op g ρ (.ex c M) = .ex c M := Eq.trans rfl rfl
def k3c (op : W → W → Store → R W) (u : W) (k : PEx) (ρ : Pu.Env) (r : R W) : R W := r.bind fun zz M => match zz with
  | .d (.bool true) => k2b op u (k ρ M)
  | .d (.bool false) => .ok (.d (.bool false)) M
  | _ => .bad
@[simp] theorem k3c_0 (op : W → W → Store → R W) (u : W) (k : PEx) (ρ : Pu.Env)  (M : Store) : k3c op u k ρ (.ok (.d (.bool true)) M) = k2b op u (k ρ M) := Eq.trans rfl rfl
@[simp] theorem k3c_1 (op : W → W → Store → R W) (u : W) (k : PEx) (ρ : Pu.Env)  (M : Store) : k3c op u k ρ (.ok (.d (.bool false)) M) = .ok (.d (.bool false)) M := Eq.trans rfl rfl
@[simp] theorem k3c_ex (op : W → W → Store → R W) (u : W) (k : PEx) (ρ : Pu.Env) (c : Str) (M : Store) : k3c op u k ρ (.ex c M) = .ex c M := Eq.trans rfl rfl
def k3b (op : W → W → Store → R W) (oq : W → W → Store → R W) (w : W) (k : PEx) (ρ : Pu.Env) (r : R W) : R W := r.bind fun zz M => match zz with
  | u => k3c oq u k ρ (op w u M)
@[simp] theorem k3b_0 (op : W → W → Store → R W) (oq : W → W → Store → R W) (w : W) (k : PEx) (ρ : Pu.Env) (u : W) (M : Store) : k3b op oq w k ρ (.ok (u) M) = k3c oq u k ρ (op w u M) := Eq.trans rfl rfl
@[simp] theorem k3b_ex (op : W → W → Store → R W) (oq : W → W → Store → R W) (w : W) (k : PEx) (ρ : Pu.Env) (c : Str) (M : Store) : k3b op oq w k ρ (.ex c M) = .ex c M := Eq.trans rfl rfl
def k3 (op : W → W → Store → R W) (oq : W → W → Store → R W) (g : PEx) (k : PEx) (ρ : Pu.Env) (r : R W) : R W := r.bind fun zz M => match zz with
  | w => k3b op oq w k ρ (g ρ M)
@[simp] theorem k3_0 (op : W → W → Store → R W) (oq : W → W → Store → R W) (g : PEx) (k : PEx) (ρ : Pu.Env) (w : W) (M : Store) : k3 op oq g k ρ (.ok (w) M) = k3b op oq w k ρ (g ρ M) := Eq.trans rfl rfl
@[simp] theorem k3_ex (op : W → W → Store → R W) (oq : W → W → Store → R W) (g : PEx) (k : PEx) (ρ : Pu.Env) (c : Str) (M : Store) : k3 op oq g k ρ (.ex c M) = .ex c M := Eq.trans rfl rfl
def kB  (r : R W) : R Bool := r.bind fun zz M => match zz with
  | .d (.bool b) => .ok b M
  | _ => .bad
@[simp] theorem kB_0  (b : Bool) (M : Store) : kB  (.ok (.d (.bool b)) M) = .ok b M := Eq.trans rfl rfl
@[simp] theorem kB_ex  (c : Str) (M : Store) : kB  (.ex c M) = .ex c M := Eq.trans rfl rfl
def kAnd (u : PTx) (ρ : Pu.Env) (r : R Bool) : R Bool := r.bind fun zz M => match zz with
  | true => u ρ M
  | false => .ok false M
@[simp] theorem kAnd_0 (u : PTx) (ρ : Pu.Env)  (M : Store) : kAnd u ρ (.ok (true) M) = u ρ M := Eq.trans rfl rfl
@[simp] theorem kAnd_1 (u : PTx) (ρ : Pu.Env)  (M : Store) : kAnd u ρ (.ok (false) M) = .ok false M := Eq.trans rfl rfl
@[simp] theorem kAnd_ex (u : PTx) (ρ : Pu.Env) (c : Str) (M : Store) : kAnd u ρ (.ex c M) = .ex c M := Eq.trans rfl rfl
def kOr (u : PTx) (ρ : Pu.Env) (r : R Bool) : R Bool := r.bind fun zz M => match zz with
  | true => .ok true M
  | false => u ρ M
@[simp] theorem kOr_0 (u : PTx) (ρ : Pu.Env)  (M : Store) : kOr u ρ (.ok (true) M) = .ok true M := Eq.trans rfl rfl
@[simp] theorem kOr_1 (u : PTx) (ρ : Pu.Env)  (M : Store) : kOr u ρ (.ok (false) M) = u ρ M := Eq.trans rfl rfl
@[simp] theorem kOr_ex (u : PTx) (ρ : Pu.Env) (c : Str) (M : Store) : kOr u ρ (.ex c M) = .ex c M := Eq.trans rfl rfl
def kNot  (r : R Bool) : R Bool := r.bind fun zz M => match zz with
  | b => .ok (!b) M
@[simp] theorem kNot_0  (b : Bool) (M : Store) : kNot  (.ok (b) M) = .ok (!b) M := Eq.trans rfl rfl
@[simp] theorem kNot_ex  (c : Str) (M : Store) : kNot  (.ex c M) = .ex c M := Eq.trans rfl rfl
def kAndV (u : PEx) (ρ : Pu.Env) (r : R W) : R W := r.bind fun zz M => match zz with
  | .d (.bool true) => u ρ M
  | .d (.bool false) => .ok (.d (.bool false)) M
  | _ => .bad
@[simp] theorem kAndV_0 (u : PEx) (ρ : Pu.Env)  (M : Store) : kAndV u ρ (.ok (.d (.bool true)) M) = u ρ M := Eq.trans rfl rfl
@[simp] theorem kAndV_1 (u : PEx) (ρ : Pu.Env)  (M : Store) : kAndV u ρ (.ok (.d (.bool false)) M) = .ok (.d (.bool false)) M := Eq.trans rfl rfl
@[simp] theorem kAndV_ex (u : PEx) (ρ : Pu.Env) (c : Str) (M : Store) : kAndV u ρ (.ex c M) = .ex c M := Eq.trans rfl rfl
def kOrV (u : PEx) (ρ : Pu.Env) (r : R W) : R W := r.bind fun zz M => match zz with
  | .d (.bool false) => u ρ M
  | .d (.bool true) => .ok (.d (.bool true)) M
  | _ => .bad
@[simp] theorem kOrV_0 (u : PEx) (ρ : Pu.Env)  (M : Store) : kOrV u ρ (.ok (.d (.bool false)) M) = u ρ M := Eq.trans rfl rfl
@[simp] theorem kOrV_1 (u : PEx) (ρ : Pu.Env)  (M : Store) : kOrV u ρ (.ok (.d (.bool true)) M) = .ok (.d (.bool true)) M := Eq.trans rfl rfl
@[simp] theorem kOrV_ex (u : PEx) (ρ : Pu.Env) (c : Str) (M : Store) : kOrV u ρ (.ex c M) = .ex c M := Eq.trans rfl rfl
def kNotV  (r : R W) : R W := r.bind fun zz M => match zz with
  | .d (.bool b) => .ok (.d (.bool (!b))) M
  | _ => .bad
@[simp] theorem kNotV_0  (b : Bool) (M : Store) : kNotV  (.ok (.d (.bool b)) M) = .ok (.d (.bool (!b))) M := Eq.trans rfl rfl
@[simp] theorem kNotV_ex  (c : Str) (M : Store) : kNotV  (.ex c M) = .ex c M := Eq.trans rfl rfl
def kIf (f : PEx) (g : PEx) (ρ : Pu.Env) (r : R Bool) : R W := r.bind fun zz M => match zz with
  | true => f ρ M
  | false => g ρ M
@[simp] theorem kIf_0 (f : PEx) (g : PEx) (ρ : Pu.Env)  (M : Store) : kIf f g ρ (.ok (true) M) = f ρ M := Eq.trans rfl rfl
@[simp] theorem kIf_1 (f : PEx) (g : PEx) (ρ : Pu.Env)  (M : Store) : kIf f g ρ (.ok (false) M) = g ρ M := Eq.trans rfl rfl
@[simp] theorem kIf_ex (f : PEx) (g : PEx) (ρ : Pu.Env) (c : Str) (M : Store) : kIf f g ρ (.ex c M) = .ex c M := Eq.trans rfl rfl
def kConsB (w : W) (r : R (List W)) : R (List W) := r.bind fun zz M => match zz with
  | ws => .ok (w :: ws) M
@[simp] theorem kConsB_0 (w : W) (ws : List W) (M : Store) : kConsB w (.ok (ws) M) = .ok (w :: ws) M := Eq.trans rfl rfl
@[simp] theorem kConsB_ex (w : W) (c : Str) (M : Store) : kConsB w (.ex c M) = .ex c M := Eq.trans rfl rfl
def kCons (as : PAx) (ρ : Pu.Env) (r : R W) : R (List W) := r.bind fun zz M => match zz with
  | w => kConsB w (as ρ M)
@[simp] theorem kCons_0 (as : PAx) (ρ : Pu.Env) (w : W) (M : Store) : kCons as ρ (.ok (w) M) = kConsB w (as ρ M) := Eq.trans rfl rfl
@[simp] theorem kCons_ex (as : PAx) (ρ : Pu.Env) (c : Str) (M : Store) : kCons as ρ (.ex c M) = .ex c M := Eq.trans rfl rfl
def kCall (p : List W → Store → R W) (r : R (List W)) : R W := r.bind fun zz M => match zz with
  | ws => p ws M
@[simp] theorem kCall_0 (p : List W → Store → R W) (ws : List W) (M : Store) : kCall p (.ok (ws) M) = p ws M := Eq.trans rfl rfl
@[simp] theorem kCall_ex (p : List W → Store → R W) (c : Str) (M : Store) : kCall p (.ex c M) = .ex c M := Eq.trans rfl rfl
def kU (p : W → Store → R W) (r : R W) : R W := r.bind fun zz M => match zz with
  | w => p w M
@[simp] theorem kU_0 (p : W → Store → R W) (w : W) (M : Store) : kU p (.ok (w) M) = p w M := Eq.trans rfl rfl
@[simp] theorem kU_ex (p : W → Store → R W) (c : Str) (M : Store) : kU p (.ex c M) = .ex c M := Eq.trans rfl rfl
def kMkT (o : Option (List PyData)) (M : Store) : R W := match o with
  | some ds => .ok (.d (.tuple ds)) M
  | none => .bad
@[simp] theorem kMkT_0 (ds : List PyData) (M : Store) : kMkT (some ds) M = .ok (.d (.tuple ds)) M := Eq.trans rfl rfl
theorem dats_len : ∀ {ws : List W} {ds : List PyData}, dats ws = some ds → ds.length = ws.length := fun h => by rw [dats_eq h, List.length_map]
@[simp] theorem e_mkTup (ws : List W) (M : Store) (hl : ws.length ≤ 100000) : mkTup ws M = kMkT (dats ws) M := by
  unfold mkTup kMkT
  cases e : dats ws with
  | none => rfl
  | some ds =>
    have h1 := dats_len e
    have := sizeLine_eq
    simp only
    rw [if_pos (by omega)]
def kMkL (o : Option (List PyData)) (M : Store) : R W := match o with
  | some ds => .ok (.d (.list ds)) M
  | none => .bad
@[simp] theorem kMkL_0 (ds : List PyData) (M : Store) : kMkL (some ds) M = .ok (.d (.list ds)) M := Eq.trans rfl rfl
theorem e_newL (ws : List W) (M : Store) : newL ws M = kMkL (dats ws) M := by unfold newL kMkL; cases dats ws <;> rfl
theorem e_mkLst (st : Bool) (ws : List W) (M : Store) (h : ws.length ≤ 100000) : mkLst st ws M = newW st ws M := by
  unfold mkLst
  have := sizeLine_eq
  rw [if_pos (by omega)]
@[simp] theorem e_mkLstF (ws : List W) (M : Store) (h : ws.length ≤ 100000) : mkLst false ws M = kMkL (dats ws) M := by
  rw [e_mkLst _ _ _ h, ← e_newL]; rfl
@[simp] theorem e_mkLstT (ws : List W) (M : Store) (h : ws.length ≤ 100000) : mkLst true ws M = .ok (.p M.length) (M ++ [.lst ws]) := e_mkLst _ _ _ h
@[simp] theorem e_newF (ds : List PyData) (M : Store) : newW false (ds.map .d) M = .ok (.d (.list ds)) M := by
  show newL _ M = _
  rw [e_newL, dats_map]
  rfl
@[simp] theorem e_newT (ws : List W) (M : Store) : newW true ws M = .ok (.p M.length) (M ++ [.lst ws]) := Eq.trans rfl rfl
def kTy (T : String) (o : Option String) (M : Store) : R W := match o with
  | some a => .ok (.d (.bool (isT a T))) M
  | none => .bad
@[simp] theorem kTy_0 (T a : String) (M : Store) : kTy T (some a) M = .ok (.d (.bool (isT a T))) M := Eq.trans rfl rfl
def kIsi (T : String) (r : R W) : R W := r.bind fun zz M => match zz with
  | w => kTy T (tyW M w) M
@[simp] theorem kIsi_0 (T : String) (w : W) (M : Store) : kIsi T (.ok (w) M) = kTy T (tyW M w) M := Eq.trans rfl rfl
@[simp] theorem kIsi_ex (T : String) (c : Str) (M : Store) : kIsi T (.ex c M) = .ex c M := Eq.trans rfl rfl
def kSl3 (st : Bool) (w : W) (l : Option Int) (r : R (Option Int)) : R W := r.bind fun zz M => match zz with
  | u => cutW st w l u M
@[simp] theorem kSl3_0 (st : Bool) (w : W) (l : Option Int) (u : Option Int) (M : Store) : kSl3 st w l (.ok (u) M) = cutW st w l u M := Eq.trans rfl rfl
@[simp] theorem kSl3_ex (st : Bool) (w : W) (l : Option Int) (c : Str) (M : Store) : kSl3 st w l (.ex c M) = .ex c M := Eq.trans rfl rfl
def kSl2 (st : Bool) (w : W) (hi : POx) (ρ : Pu.Env) (r : R (Option Int)) : R W := r.bind fun zz M => match zz with
  | l => kSl3 st w l (hi ρ M)
@[simp] theorem kSl2_0 (st : Bool) (w : W) (hi : POx) (ρ : Pu.Env) (l : Option Int) (M : Store) : kSl2 st w hi ρ (.ok (l) M) = kSl3 st w l (hi ρ M) := Eq.trans rfl rfl
@[simp] theorem kSl2_ex (st : Bool) (w : W) (hi : POx) (ρ : Pu.Env) (c : Str) (M : Store) : kSl2 st w hi ρ (.ex c M) = .ex c M := Eq.trans rfl rfl
def kSl (st : Bool) (lo : POx) (hi : POx) (ρ : Pu.Env) (r : R W) : R W := r.bind fun zz M => match zz with
  | w => kSl2 st w hi ρ (lo ρ M)
@[simp] theorem kSl_0 (st : Bool) (lo : POx) (hi : POx) (ρ : Pu.Env) (w : W) (M : Store) : kSl st lo hi ρ (.ok (w) M) = kSl2 st w hi ρ (lo ρ M) := Eq.trans rfl rfl
@[simp] theorem kSl_ex (st : Bool) (lo : POx) (hi : POx) (ρ : Pu.Env) (c : Str) (M : Store) : kSl st lo hi ρ (.ex c M) = .ex c M := Eq.trans rfl rfl
def kO  (r : R W) : R (Option Int) := r.bind fun zz M => match zz with
  | .d (.int i) => .ok (some i) M
  | _ => .bad
@[simp] theorem kO_0  (i : Int) (M : Store) : kO  (.ok (.d (.int i)) M) = .ok (some i) M := Eq.trans rfl rfl
@[simp] theorem kO_ex  (c : Str) (M : Store) : kO  (.ex c M) = .ex c M := Eq.trans rfl rfl
def kMo (op : W → List W → Store → R W) (w : W) (r : R (List W)) : R W := r.bind fun zz M => match zz with
  | ws => op w ws M
@[simp] theorem kMo_0 (op : W → List W → Store → R W) (w : W) (ws : List W) (M : Store) : kMo op w (.ok (ws) M) = op w ws M := Eq.trans rfl rfl
@[simp] theorem kMo_ex (op : W → List W → Store → R W) (w : W) (c : Str) (M : Store) : kMo op w (.ex c M) = .ex c M := Eq.trans rfl rfl
def kM (T : String) (op : W → List W → Store → R W) (as : PAx) (ρ : Pu.Env) (r : R W) : R W := r.bind fun zz M => match zz with
  | w => if tyW M w = some T then kMo op w (as ρ M) else .bad
@[simp] theorem kM_0 (T : String) (op : W → List W → Store → R W) (as : PAx) (ρ : Pu.Env) (w : W) (M : Store) : kM T op as ρ (.ok (w) M) = if tyW M w = some T then kMo op w (as ρ M) else .bad := Eq.trans rfl rfl
@[simp] theorem kM_ex (T : String) (op : W → List W → Store → R W) (as : PAx) (ρ : Pu.Env) (c : Str) (M : Store) : kM T op as ρ (.ex c M) = .ex c M := Eq.trans rfl rfl
def kSeq (b : Sm) (r : R Fl) : R Fl := r.bind fun zz M => match zz with
  | .nx ρ => b ρ M
  | .rt w => .ok (.rt w) M
  | .bk ρ => .ok (.bk ρ) M
  | .ct ρ => .ok (.ct ρ) M
@[simp] theorem kSeq_0 (b : Sm) (ρ : Pu.Env) (M : Store) : kSeq b (.ok (.nx ρ) M) = b ρ M := Eq.trans rfl rfl
@[simp] theorem kSeq_1 (b : Sm) (w : W) (M : Store) : kSeq b (.ok (.rt w) M) = .ok (.rt w) M := Eq.trans rfl rfl
@[simp] theorem kSeq_2 (b : Sm) (ρ : Pu.Env) (M : Store) : kSeq b (.ok (.bk ρ) M) = .ok (.bk ρ) M := Eq.trans rfl rfl
@[simp] theorem kSeq_3 (b : Sm) (ρ : Pu.Env) (M : Store) : kSeq b (.ok (.ct ρ) M) = .ok (.ct ρ) M := Eq.trans rfl rfl
@[simp] theorem kSeq_ex (b : Sm) (c : Str) (M : Store) : kSeq b (.ex c M) = .ex c M := Eq.trans rfl rfl
def kRet  (r : R W) : R Fl := r.bind fun zz M => match zz with
  | w => .ok (.rt w) M
@[simp] theorem kRet_0  (w : W) (M : Store) : kRet  (.ok (w) M) = .ok (.rt w) M := Eq.trans rfl rfl
@[simp] theorem kRet_ex  (c : Str) (M : Store) : kRet  (.ex c M) = .ex c M := Eq.trans rfl rfl
def kExp (ρ : Pu.Env) (r : R W) : R Fl := r.bind fun zz M => match zz with
  | w => .ok (.nx ρ) M
@[simp] theorem kExp_0 (ρ : Pu.Env) (w : W) (M : Store) : kExp ρ (.ok (w) M) = .ok (.nx ρ) M := Eq.trans rfl rfl
@[simp] theorem kExp_ex (ρ : Pu.Env) (c : Str) (M : Store) : kExp ρ (.ex c M) = .ex c M := Eq.trans rfl rfl
def kSif (a : Sm) (b : Sm) (ρ : Pu.Env) (r : R Bool) : R Fl := r.bind fun zz M => match zz with
  | true => a ρ M
  | false => b ρ M
@[simp] theorem kSif_0 (a : Sm) (b : Sm) (ρ : Pu.Env)  (M : Store) : kSif a b ρ (.ok (true) M) = a ρ M := Eq.trans rfl rfl
@[simp] theorem kSif_1 (a : Sm) (b : Sm) (ρ : Pu.Env)  (M : Store) : kSif a b ρ (.ok (false) M) = b ρ M := Eq.trans rfl rfl
@[simp] theorem kSif_ex (a : Sm) (b : Sm) (ρ : Pu.Env) (c : Str) (M : Store) : kSif a b ρ (.ex c M) = .ex c M := Eq.trans rfl rfl
def kAsgB  (r : R Pu.Env) : R Fl := r.bind fun zz M => match zz with
  | ρ => .ok (.nx ρ) M
@[simp] theorem kAsgB_0  (ρ : Pu.Env) (M : Store) : kAsgB  (.ok (ρ) M) = .ok (.nx ρ) M := Eq.trans rfl rfl
@[simp] theorem kAsgB_ex  (c : Str) (M : Store) : kAsgB  (.ex c M) = .ex c M := Eq.trans rfl rfl
def kAsg (tg : Tg) (ρ : Pu.Env) (r : R W) : R Fl := r.bind fun zz M => match zz with
  | w => kAsgB (tg w ρ M)
@[simp] theorem kAsg_0 (tg : Tg) (ρ : Pu.Env) (w : W) (M : Store) : kAsg tg ρ (.ok (w) M) = kAsgB (tg w ρ M) := Eq.trans rfl rfl
@[simp] theorem kAsg_ex (tg : Tg) (ρ : Pu.Env) (c : Str) (M : Store) : kAsg tg ρ (.ex c M) = .ex c M := Eq.trans rfl rfl
def kGs (tgs : Tgs) (ws : List W) (r : R Pu.Env) : R Pu.Env := r.bind fun zz M => match zz with
  | ρ => tgs ws ρ M
@[simp] theorem kGs_0 (tgs : Tgs) (ws : List W) (ρ : Pu.Env) (M : Store) : kGs tgs ws (.ok (ρ) M) = tgs ws ρ M := Eq.trans rfl rfl
@[simp] theorem kGs_ex (tgs : Tgs) (ws : List W) (c : Str) (M : Store) : kGs tgs ws (.ex c M) = .ex c M := Eq.trans rfl rfl
def kSet (ρ : Pu.Env) (o : Option Store) : R Pu.Env := match o with
  | some M => .ok ρ M
  | none => .bad
@[simp] theorem kSet_0 (ρ : Pu.Env) (M : Store) : kSet ρ (some M) = .ok ρ M := Eq.trans rfl rfl
def kSbB (z : W) (w : W) (ρ : Pu.Env) (r : R W) : R Pu.Env := r.bind fun zz M => match zz with
  | u => kSet ρ (setW z u w M)
@[simp] theorem kSbB_0 (z : W) (w : W) (ρ : Pu.Env) (u : W) (M : Store) : kSbB z w ρ (.ok (u) M) = kSet ρ (setW z u w M) := Eq.trans rfl rfl
@[simp] theorem kSbB_ex (z : W) (w : W) (ρ : Pu.Env) (c : Str) (M : Store) : kSbB z w ρ (.ex c M) = .ex c M := Eq.trans rfl rfl
def kSb (g : PEx) (w : W) (ρ : Pu.Env) (r : R W) : R Pu.Env := r.bind fun zz M => match zz with
  | z => kSbB z w ρ (g ρ M)
@[simp] theorem kSb_0 (g : PEx) (w : W) (ρ : Pu.Env) (z : W) (M : Store) : kSb g w ρ (.ok (z) M) = kSbB z w ρ (g ρ M) := Eq.trans rfl rfl
@[simp] theorem kSb_ex (g : PEx) (w : W) (ρ : Pu.Env) (c : Str) (M : Store) : kSb g w ρ (.ex c M) = .ex c M := Eq.trans rfl rfl
def kEnd  (r : R Fl) : R W := r.bind fun zz M => match zz with
  | .rt w => .ok w M
  | .nx ρ => .ok (.d .none) M
  | _ => .bad
@[simp] theorem kEnd_0  (w : W) (M : Store) : kEnd  (.ok (.rt w) M) = .ok w M := Eq.trans rfl rfl
@[simp] theorem kEnd_1  (ρ : Pu.Env) (M : Store) : kEnd  (.ok (.nx ρ) M) = .ok (.d .none) M := Eq.trans rfl rfl
@[simp] theorem kEnd_ex  (c : Str) (M : Store) : kEnd  (.ex c M) = .ex c M := Eq.trans rfl rfl
def kFor (tg : Tg) (a : Sm) (ρ : Pu.Env) (r : R So) : R Fl := r.bind fun zz M => match zz with
  | so => loopF so tg a so.n 0 ρ M
theorem kFor_0 (tg : Tg) (a : Sm) (ρ : Pu.Env) (so : So) (M : Store) : kFor tg a ρ (.ok (so) M) = loopF so tg a so.n 0 ρ M := Eq.trans rfl rfl
@[simp] theorem kFor_ex (tg : Tg) (a : Sm) (ρ : Pu.Env) (c : Str) (M : Store) : kFor tg a ρ (.ex c M) = .ex c M := Eq.trans rfl rfl
def kItB (o : Option So) (M : Store) : R So := match o with
  | some so => .ok so M
  | none => .bad
@[simp] theorem kItB_0 (so : So) (M : Store) : kItB (some so) M = .ok so M := Eq.trans rfl rfl
def kIt  (r : R W) : R So := r.bind fun zz M => match zz with
  | w => kItB (itW M w) M
@[simp] theorem kIt_0  (w : W) (M : Store) : kIt  (.ok (w) M) = kItB (itW M w) M := Eq.trans rfl rfl
@[simp] theorem kIt_ex  (c : Str) (M : Store) : kIt  (.ex c M) = .ex c M := Eq.trans rfl rfl
def kEn  (r : R W) : R So := r.bind fun zz M => match zz with
  | w => kItB (enW M w) M
@[simp] theorem kEn_0  (w : W) (M : Store) : kEn  (.ok (w) M) = kItB (enW M w) M := Eq.trans rfl rfl
@[simp] theorem kEn_ex  (c : Str) (M : Store) : kEn  (.ex c M) = .ex c M := Eq.trans rfl rfl
def kR1  (r : R (List W)) : R So := r.bind fun zz M => match zz with
  | [.d (.int j)] => if small62 j = true then .ok (rngW 0 j) M else .bad
  | _ => .bad
theorem kR1_0  (j : Int) (M : Store) : kR1  (.ok ([.d (.int j)]) M) = if small62 j = true then .ok (rngW 0 j) M else .bad := Eq.trans rfl rfl
@[simp] theorem kR1_ex  (c : Str) (M : Store) : kR1  (.ex c M) = .ex c M := Eq.trans rfl rfl
theorem kR1_ok (j : Int) (M : Store) (h : small62 j = true) : kR1 (.ok [.d (.int j)] M) = .ok (rngW 0 j) M := by
  rw [kR1_0, if_pos h]
def kZp  (r : R (List W)) : R So := r.bind fun zz M => match zz with
  | [.d (.list xs), .d (.list ys)] => .ok (soZ xs ys) M
  | [.d (.tuple xs), .d (.tuple ys)] => .ok (soZ xs ys) M
  | _ => .bad
@[simp] theorem kZp_0  (xs ys : List PyData) (M : Store) : kZp  (.ok ([.d (.list xs), .d (.list ys)]) M) = .ok (soZ xs ys) M := Eq.trans rfl rfl
@[simp] theorem kZp_1  (xs ys : List PyData) (M : Store) : kZp  (.ok ([.d (.tuple xs), .d (.tuple ys)]) M) = .ok (soZ xs ys) M := Eq.trans rfl rfl
@[simp] theorem kZp_ex  (c : Str) (M : Store) : kZp  (.ex c M) = .ex c M := Eq.trans rfl rfl
def kNew (st : Bool) (r : R (List W)) : R W := r.bind fun zz M => match zz with
  | ws => newW st ws M
@[simp] theorem kNew_0 (st : Bool) (ws : List W) (M : Store) : kNew st (.ok (ws) M) = newW st ws M := Eq.trans rfl rfl
@[simp] theorem kNew_ex (st : Bool) (c : Str) (M : Store) : kNew st (.ex c M) = .ex c M := Eq.trans rfl rfl
def kLc (st : Bool) (t : Tg) (tt : PTx) (g : PEx) (vs : List Nat) (ρ : Pu.Env) (r : R So) : R W := r.bind fun zz M => match zz with
  | so => kNew st (loopC so t tt g putL (wipeE ρ vs) so.n 0 [] M)
theorem kLc_0 (st : Bool) (t : Tg) (tt : PTx) (g : PEx) (vs : List Nat) (ρ : Pu.Env) (so : So) (M : Store) : kLc st t tt g vs ρ (.ok (so) M) = kNew st (loopC so t tt g putL (wipeE ρ vs) so.n 0 [] M) := Eq.trans rfl rfl
@[simp] theorem kLc_ex (st : Bool) (t : Tg) (tt : PTx) (g : PEx) (vs : List Nat) (ρ : Pu.Env) (c : Str) (M : Store) : kLc st t tt g vs ρ (.ex c M) = .ex c M := Eq.trans rfl rfl
def kW2 (o : Option Str) (M : Store) : R W := match o with
  | some z => .ok (.d (.str z)) M
  | none => .bad
@[simp] theorem kW2_0 (z : Str) (M : Store) : kW2 (some z) M = .ok (.d (.str z)) M := Eq.trans rfl rfl
def kWord (sub : Str → Str → Option Bool) (l : List (Str × Str)) (dflt : Str) (r : R W) : R W := match r with
  | .ok _ M1 => .ok (.d (.str dflt)) M1
  | .ex c M1 => kW2 (firstH sub c l) M1
  | .bad => .bad
@[simp] theorem kWord_0 (sub : Str → Str → Option Bool) (l : List (Str × Str)) (dflt : Str) (w : W) (M : Store) : kWord sub l dflt (.ok w M) = .ok (.d (.str dflt)) M := Eq.trans rfl rfl
@[simp] theorem kWord_ex (sub : Str → Str → Option Bool) (l : List (Str × Str)) (dflt : Str) (c : Str) (M : Store) : kWord sub l dflt (.ex c M) = kW2 (firstH sub c l) M := Eq.trans rfl rfl
def kPar (i : Nat) (j : Nat) (ρ : Pu.Env) (r : R (List W)) : R Fl := r.bind fun zz M => match zz with
  | [w, u] => .ok (.nx ((ρ.set i (some w)).set j (some u))) M
  | _ => .bad
@[simp] theorem kPar_0 (i : Nat) (j : Nat) (ρ : Pu.Env) (w u : W) (M : Store) : kPar i j ρ (.ok ([w, u]) M) = .ok (.nx ((ρ.set i (some w)).set j (some u))) M := Eq.trans rfl rfl
@[simp] theorem kPar_ex (i : Nat) (j : Nat) (ρ : Pu.Env) (c : Str) (M : Store) : kPar i j ρ (.ex c M) = .ex c M := Eq.trans rfl rfl
def kPar3 (i : Nat) (j : Nat) (l : Nat) (ρ : Pu.Env) (r : R (List W)) : R Fl := r.bind fun zz M => match zz with
  | [w, u, z] => .ok (.nx (((ρ.set i (some w)).set j (some u)).set l (some z))) M
  | _ => .bad
@[simp] theorem kPar3_0 (i : Nat) (j : Nat) (l : Nat) (ρ : Pu.Env) (w u z : W) (M : Store) : kPar3 i j l ρ (.ok ([w, u, z]) M) = .ok (.nx (((ρ.set i (some w)).set j (some u)).set l (some z))) M := Eq.trans rfl rfl
@[simp] theorem kPar3_ex (i : Nat) (j : Nat) (l : Nat) (ρ : Pu.Env) (c : Str) (M : Store) : kPar3 i j l ρ (.ex c M) = .ex c M := Eq.trans rfl rfl
def kAug3 (i : Nat) (ρ : Pu.Env) (r : R W) : R Fl := r.bind fun zz M => match zz with
  | z => .ok (.nx (ρ.set i (some z))) M
@[simp] theorem kAug3_0 (i : Nat) (ρ : Pu.Env) (z : W) (M : Store) : kAug3 i ρ (.ok (z) M) = .ok (.nx (ρ.set i (some z))) M := Eq.trans rfl rfl
@[simp] theorem kAug3_ex (i : Nat) (ρ : Pu.Env) (c : Str) (M : Store) : kAug3 i ρ (.ex c M) = .ex c M := Eq.trans rfl rfl
def kAug2 (i : Nat) (ρ : Pu.Env) (op : W → W → Store → R W) (w : W) (r : R W) : R Fl := r.bind fun zz M => match zz with
  | u => kAug3 i ρ (op w u M)
@[simp] theorem kAug2_0 (i : Nat) (ρ : Pu.Env) (op : W → W → Store → R W) (w : W) (u : W) (M : Store) : kAug2 i ρ op w (.ok (u) M) = kAug3 i ρ (op w u M) := Eq.trans rfl rfl
@[simp] theorem kAug2_ex (i : Nat) (ρ : Pu.Env) (op : W → W → Store → R W) (w : W) (c : Str) (M : Store) : kAug2 i ρ op w (.ex c M) = .ex c M := Eq.trans rfl rfl
def kAug (i : Nat) (ρ : Pu.Env) (op : W → W → Store → R W) (f : PEx) (r : R W) : R Fl := r.bind fun zz M => match zz with
  | w => kAug2 i ρ op w (f ρ M)
@[simp] theorem kAug_0 (i : Nat) (ρ : Pu.Env) (op : W → W → Store → R W) (f : PEx) (w : W) (M : Store) : kAug i ρ op f (.ok (w) M) = kAug2 i ρ op w (f ρ M) := Eq.trans rfl rfl
@[simp] theorem kAug_ex (i : Nat) (ρ : Pu.Env) (op : W → W → Store → R W) (f : PEx) (c : Str) (M : Store) : kAug i ρ op f (.ex c M) = .ex c M := Eq.trans rfl rfl
def kScr (ns : List Int) (k : Nat) (r : R W) : R W := r.bind fun zz M => match zz with
  | .scr => .ok (.d (.list ((ns.take k).map .int))) M
  | _ => .bad
@[simp] theorem kScr_0 (ns : List Int) (k : Nat)  (M : Store) : kScr ns k (.ok (.scr) M) = .ok (.d (.list ((ns.take k).map .int))) M := Eq.trans rfl rfl
@[simp] theorem kScr_ex (ns : List Int) (k : Nat) (c : Str) (M : Store) : kScr ns k (.ex c M) = .ex c M := Eq.trans rfl rfl
section
variable (f g k : PEx) (t u : PTx) (as : PAx) (ρ : Pu.Env) (M : Store) (w : W)
@[simp] theorem e_xC (x : PyData) : xC x ρ M = .ok (.d x) M := Eq.trans rfl rfl
@[simp] theorem e_x2 (op : W → W → Store → R W) : x2 op f g ρ M = k2 op g ρ (f ρ M) := Eq.trans rfl rfl
@[simp] theorem e_x3 (op op' : W → W → Store → R W) : x3 op op' f g k ρ M = k3 op op' g k ρ (f ρ M) := Eq.trans rfl rfl
@[simp] theorem e_tE : tE f ρ M = kB (f ρ M) := Eq.trans rfl rfl
@[simp] theorem e_and : tAnd2 t u ρ M = kAnd u ρ (t ρ M) := by
  unfold tAnd2 kAnd; congr 1; funext a M; cases a <;> rfl
@[simp] theorem e_or : tOr2 t u ρ M = kOr u ρ (t ρ M) := by
  unfold tOr2 kOr; congr 1; funext a M; cases a <;> rfl
@[simp] theorem e_not : tNot2 t ρ M = kNot (t ρ M) := Eq.trans rfl rfl
@[simp] theorem e_andV : xAnd2 f g ρ M = kAndV g ρ (f ρ M) := Eq.trans rfl rfl
@[simp] theorem e_orV : xOr2 f g ρ M = kOrV g ρ (f ρ M) := Eq.trans rfl rfl
@[simp] theorem e_notV : xNot2 f ρ M = kNotV (f ρ M) := Eq.trans rfl rfl
@[simp] theorem e_if : xIf t f g ρ M = kIf f g ρ (t ρ M) := by
  unfold xIf kIf; congr 1; funext a M; cases a <;> rfl
@[simp] theorem e_nil : aNil ρ M = .ok [] M := Eq.trans rfl rfl
@[simp] theorem e_cons : aCons f as ρ M = kCons as ρ (f ρ M) := Eq.trans rfl rfl
@[simp] theorem e_tup : xTup as ρ M = kCall mkTup (as ρ M) := Eq.trans rfl rfl
@[simp] theorem e_lst (st : Bool) : xLst st as ρ M = kCall (mkLst st) (as ρ M) := Eq.trans rfl rfl
@[simp] theorem e_call (p : List W → Store → R W) : xCall p as ρ M = kCall p (as ρ M) := Eq.trans rfl rfl
@[simp] theorem e_fn (fn : Fn) : xFn fn as ρ M = kCall fn (as ρ M) := Eq.trans rfl rfl
@[simp] theorem e_isi (T : String) : xIsi T f ρ M = kIsi T (f ρ M) := Eq.trans rfl rfl
@[simp] theorem e_sl (st : Bool) (lo hi : POx) : xSl st f lo hi ρ M = kSl st lo hi ρ (f ρ M) := Eq.trans rfl rfl
@[simp] theorem e_oN : oNone ρ M = .ok none M := Eq.trans rfl rfl
@[simp] theorem e_oS : oSome f ρ M = kO (f ρ M) := Eq.trans rfl rfl
@[simp] theorem e_neg : xNeg f ρ M = kU pNeg (f ρ M) := Eq.trans rfl rfl
@[simp] theorem e_pneg (i : Int) : pNeg (.d (.int i)) M = .ok (.d (.int (-i))) M := Eq.trans rfl rfl
@[simp] theorem e_m (T : String) (op : W → List W → Store → R W) : xM T op f as ρ M = kM T op as ρ (f ρ M) := Eq.trans rfl rfl
variable (a b : Sm)
@[simp] theorem e_seq : sSeq a b ρ M = kSeq b (a ρ M) := Eq.trans rfl rfl
@[simp] theorem e_ret : sRet f ρ M = kRet (f ρ M) := Eq.trans rfl rfl
@[simp] theorem e_expr : sExpr f ρ M = kExp ρ (f ρ M) := Eq.trans rfl rfl
@[simp] theorem e_sif : sIf t a b ρ M = kSif a b ρ (t ρ M) := by
  unfold sIf kSif; congr 1; funext a M; cases a <;> rfl
@[simp] theorem e_next : sNext ρ M = .ok (.nx ρ) M := Eq.trans rfl rfl
@[simp] theorem e_raise (x : Str) : sRaise x ρ M = .ex x M := Eq.trans rfl rfl
@[simp] theorem e_asg (tg : Tg) : sAsg f tg ρ M = kAsg tg ρ (f ρ M) := Eq.trans rfl rfl
@[simp] theorem e_gN (i : Nat) : gN i w ρ M = .ok (ρ.set i (some w)) M := Eq.trans rfl rfl
@[simp] theorem e_gnil : gsNil [] ρ M = .ok ρ M := Eq.trans rfl rfl
@[simp] theorem e_gcons (tg : Tg) (tgs : Tgs) (ws : List W) : gsCons tg tgs (w :: ws) ρ M = kGs tgs ws (tg w ρ M) := Eq.trans rfl rfl
@[simp] theorem e_gtu (n : Nat) (tgs : Tgs) (ds : List PyData) : gTu n tgs (.d (.tuple ds)) ρ M = if ds.length = n then tgs (ds.map .d) ρ M else .bad := Eq.trans rfl rfl
@[simp] theorem e_gsb : gSb f g w ρ M = kSb g w ρ (f ρ M) := Eq.trans rfl rfl
@[simp] theorem e_run (n : Nat) (ws : List W) : runF n a ws M = kEnd (a (startE n ws) M) := Eq.trans rfl rfl
@[simp] theorem e_for (it : PIx) (tg : Tg) : sFor it tg a ρ M = kFor tg a ρ (it ρ M) := Eq.trans rfl rfl
@[simp] theorem e_iW : iW f ρ M = kIt (f ρ M) := Eq.trans rfl rfl
@[simp] theorem e_iEn : iEn f ρ M = kEn (f ρ M) := Eq.trans rfl rfl
@[simp] theorem e_iR1 : iR1 as ρ M = kR1 (as ρ M) := Eq.trans rfl rfl
@[simp] theorem e_iZp : iZp as ρ M = kZp (as ρ M) := Eq.trans rfl rfl
@[simp] theorem e_lc (st : Bool) (it : PIx) (tg : Tg) (vs : List Nat) : xLc st it tg t f vs ρ M = kLc st tg t f vs ρ (it ρ M) := Eq.trans rfl rfl
@[simp] theorem e_word (sub : Str → Str → Option Bool) (l : List (Str × Str)) (dflt : Str) : xWord sub l dflt f ρ M = kWord sub l dflt (f ρ M) := Eq.trans rfl rfl
@[simp] theorem e_par (i j : Nat) : sPar i j as ρ M = kPar i j ρ (as ρ M) := Eq.trans rfl rfl
@[simp] theorem e_par3 (i j l : Nat) : sPar3 i j l as ρ M = kPar3 i j l ρ (as ρ M) := Eq.trans rfl rfl
@[simp] theorem e_aug (i : Nat) (op : W → W → Store → R W) : sAug i op f ρ M = kAug i ρ op f (xV i ρ M) := by
  unfold sAug kAug xV
  rcases ρ[i]? with _ | (_ | w) <;> rfl
@[simp] theorem e_scr (ns : List Int) (n : Nat) : xScr ns n f ρ M = kScr ns n (f ρ M) := Eq.trans rfl rfl
@[simp] theorem e_yes : tYesX ρ M = .ok true M := Eq.trans rfl rfl
@[simp] theorem it_t (xs : List PyData) : itW M (.d (.tuple xs)) = some (soL (xs.map .d)) := Eq.trans rfl rfl
@[simp] theorem it_l (xs : List PyData) : itW M (.d (.list xs)) = some (soL (xs.map .d)) := Eq.trans rfl rfl
@[simp] theorem en_t (xs : List PyData) : enW M (.d (.tuple xs)) = some (soE xs) := Eq.trans rfl rfl
end
def kDg {κ : Type} [DecidableEq κ] (mkOb : List (κ × W) → Ob) (key : W → Option κ) (t : Tg) (tt : PTx) (fk fv : PEx) (vs : List Nat) (ρ : Pu.Env) (r : R So) : R W := r.bind fun so M => (loopC so t tt (fKV fk fv) (putD key) (wipeE ρ vs) so.n 0 [] M).bind fun kws M2 => .ok (.p M2.length) (M2 ++ [mkOb kws])
@[simp] theorem e_dcK (it : PIx) (t : Tg) (tt : PTx) (fk fv : PEx) (vs : List Nat) (ρ : Pu.Env) (M : Store) : xDcK it t tt fk fv vs ρ M = kDg Ob.dK keyW t tt fk fv vs ρ (it ρ M) := Eq.trans rfl rfl
@[simp] theorem e_dcT (it : PIx) (t : Tg) (tt : PTx) (fk fv : PEx) (vs : List Nat) (ρ : Pu.Env) (M : Store) : xDcT it t tt fk fv vs ρ M = kDg Ob.dT keyT t tt fk fv vs ρ (it ρ M) := Eq.trans rfl rfl
@[simp] theorem wipeE_nil (ρ : Pu.Env) : wipeE ρ [] = ρ := Eq.trans rfl rfl
@[simp] theorem wipeE_cons (ρ : Pu.Env) (v : Nat) (vs : List Nat) : wipeE ρ (v :: vs) = (wipeE ρ vs).set v none := Eq.trans rfl rfl
theorem e_xV {i : Nat} {ρ : Pu.Env} {M : Store} {w : W} (h : ρ[i]? = some (some w)) : xV i ρ M = .ok w M := by unfold xV; rw [h]
@[simp] theorem e_xV0 (w : W) (ρ : Pu.Env) (M : Store) : xV 0 (some w :: ρ) M = .ok w M := Eq.trans rfl rfl
@[simp] theorem e_xVs (i : Nat) (o : Option W) (ρ : Pu.Env) (M : Store) : xV (i + 1) (o :: ρ) M = xV i ρ M := Eq.trans rfl rfl
@[simp] theorem le_line (n : Nat) (h : n ≤ 100000) : (n ≤ sizeLine) = True := by
  have := sizeLine_eq
  simp only [eq_iff_iff, iff_true]
  omega
@[simp] theorem lt_line (n : Nat) (h : n ≤ 100000) : (n < sizeLine) = True := by
  have := sizeLine_eq
  simp only [eq_iff_iff, iff_true]
  omega
@[simp] theorem dats_nil : dats [] = some [] := Eq.trans rfl rfl
@[simp] theorem dats_d (x : PyData) (r : List W) : dats (.d x :: r) = (dats r).map (x :: ·) := Eq.trans rfl rfl
/-! ### operators -/
section
variable (M : Store) (i j : Int) (x y : Str) (b c : Bool)
@[simp] theorem o_addI (st : Bool) : pAdd st (.d (.int i)) (.d (.int j)) M = .ok (.d (.int (i + j))) M := Eq.trans rfl rfl
@[simp] theorem o_sub : pSub (.d (.int i)) (.d (.int j)) M = .ok (.d (.int (i - j))) M := Eq.trans rfl rfl
@[simp] theorem o_lt : pLt (.d (.int i)) (.d (.int j)) M = .ok (.d (.bool (decide (i < j)))) M := Eq.trans rfl rfl
@[simp] theorem o_le : pLe (.d (.int i)) (.d (.int j)) M = .ok (.d (.bool (decide (i ≤ j)))) M := Eq.trans rfl rfl
@[simp] theorem o_gt : pGt (.d (.int i)) (.d (.int j)) M = .ok (.d (.bool (decide (j < i)))) M := Eq.trans rfl rfl
@[simp] theorem o_ge : pGe (.d (.int i)) (.d (.int j)) M = .ok (.d (.bool (decide (j ≤ i)))) M := Eq.trans rfl rfl
@[simp] theorem o_eqI : pEq (.d (.int i)) (.d (.int j)) M = .ok (.d (.bool (decide (i = j)))) M := by
  show retB (some (PyData.eqv (.int i) (.int j))) M = _
  simp only [retB, PyData.eqv]
  congr 3
@[simp] theorem o_eqS : pEq (.d (.str x)) (.d (.str y)) M = .ok (.d (.bool (decide (x = y)))) M := Eq.trans rfl rfl
@[simp] theorem o_neI : pNe (.d (.int i)) (.d (.int j)) M = .ok (.d (.bool (!decide (i = j)))) M := by
  show retB (some (!(PyData.eqv (.int i) (.int j)))) M = _
  simp only [retB, PyData.eqv]
  congr 3
@[simp] theorem o_neS : pNe (.d (.str x)) (.d (.str y)) M = .ok (.d (.bool (!decide (x = y)))) M := Eq.trans rfl rfl
@[simp] theorem o_int : pInt [.d (.int i)] M = .ok (.d (.int i)) M := Eq.trans rfl rfl
end
theorem ofS_inj {a b : String} (h : Str.ofString a = Str.ofString b) : a = b := by
  rw [Str.ofString_eq_toList, Str.ofString_eq_toList] at h
  have h1 : a.toList.map Char.toNat = b.toList.map Char.toNat := by
    have := congrArg (fun s : Str => s.cps.toList) h
    simpa using this
  have h2 : a.toList = b.toList := (List.map_inj_right (fun x y hxy => Char.toNat_inj.mp hxy)).mp h1
  exact String.toList_inj.mp h2
@[simp] theorem ofS_eq (a b : String) : (Str.ofString a = Str.ofString b) = (a = b) := propext ⟨ofS_inj, congrArg _⟩

section
variable (M : Store) (i j : Int)
theorem o_mul (h : okMul i j = true) : pMul false (.d (.int i)) (.d (.int j)) M = .ok (.d (.int (i * j))) M := if_pos h
theorem o_div (h : okDiv i j = true) : pDiv (.d (.int i)) (.d (.int j)) M = .ok (.d (.int (i.fdiv j))) M := if_pos h
theorem o_mod (h : okMod i j = true) : pMod (.d (.int i)) (.d (.int j)) M = .ok (.d (.int (i.fmod j))) M := if_pos h
theorem o_pow (h : okPow i j = true) : pPow (.d (.int i)) (.d (.int j)) M = .ok (.d (.int (i ^ j.toNat))) M := if_pos h
@[simp] theorem o_abs : pAbs [.d (.int i)] M = .ok (.d (.int (if i < 0 then -i else i))) M := Eq.trans rfl rfl
@[simp] theorem o_tupL (xs : List PyData) : pTuple [.d (.list xs)] M = .ok (.d (.tuple xs)) M := by
  unfold pTuple; simp [isLst, dats_map]
@[simp] theorem o_addT (st : Bool) (xs ys : List PyData) (h : xs.length + ys.length ≤ 100000) : pAdd st (.d (.tuple xs)) (.d (.tuple ys)) M = .ok (.d (.tuple (xs ++ ys))) M := by
  have := sizeLine_eq
  unfold pAdd
  simp
  try omega
@[simp] theorem o_addL (xs ys : List PyData) (h : xs.length + ys.length ≤ 100000) : pAdd false (.d (.list xs)) (.d (.list ys)) M = .ok (.d (.list (xs ++ ys))) M := by
  have := sizeLine_eq
  unfold pAdd addL
  simp [isLst]
  rw [if_pos (by omega), ← List.map_append, e_newF]
end
theorem ixN_lt {n : Nat} {i : Nat} (h : i < n) : L2.ixN n (i : Int) = some i := by
  unfold L2.ixN
  rw [if_pos (by omega), if_pos (by omega)]
  simp
theorem o_ixt (xs : List PyData) (n : Nat) (y : PyData) (M : Store) (h : xs[n]? = some y) : pIx (.d (.tuple xs)) (.d (.int n)) M = .ok (.d y) M := by
  have hl : n < xs.length := by
    rcases Nat.lt_or_ge n xs.length with h2 | h2
    · exact h2
    · rw [List.getElem?_eq_none h2] at h; cases h
  simp only [pIx, ixW, lstOf, L2.atI]
  rw [ixN_lt (by simpa using hl)]
  simp [retW, h]
theorem o_ixl (xs : List PyData) (n : Nat) (y : PyData) (M : Store) (h : xs[n]? = some y) : pIx (.d (.list xs)) (.d (.int n)) M = .ok (.d y) M := by
  have hl : n < xs.length := by
    rcases Nat.lt_or_ge n xs.length with h2 | h2
    · exact h2
    · rw [List.getElem?_eq_none h2] at h; cases h
  simp only [pIx, ixW, lstOf, L2.atI]
  rw [ixN_lt (by simpa using hl)]
  simp [retW, h]
theorem o_ixp (n k : Nat) (ws : List W) (w : W) (M : Store) (hM : M[n]? = some (.lst ws)) (h : ws[k]? = some w) : pIx (.p n) (.d (.int k)) M = .ok w M := by
  have hl : k < ws.length := by
    rcases Nat.lt_or_ge k ws.length with h2 | h2
    · exact h2
    · rw [List.getElem?_eq_none h2] at h; cases h
  simp only [pIx, ixW, lstOf, L2.atI, hM]
  simp only [ixN_lt hl]
  simp [retW, h]
section
variable (a b c d e : PyData) (r : List PyData) (M : Store)
@[simp] theorem o_ix0 : pIx (.d (.tuple (a :: r))) (.d (.int 0)) M = .ok (.d a) M := o_ixt _ 0 _ M rfl
@[simp] theorem o_ix1 : pIx (.d (.tuple (a :: b :: r))) (.d (.int 1)) M = .ok (.d b) M := o_ixt _ 1 _ M rfl
@[simp] theorem o_ix2 : pIx (.d (.tuple (a :: b :: c :: r))) (.d (.int 2)) M = .ok (.d c) M := o_ixt _ 2 _ M rfl
@[simp] theorem o_ix3 : pIx (.d (.tuple (a :: b :: c :: d :: r))) (.d (.int 3)) M = .ok (.d d) M := o_ixt _ 3 _ M rfl
@[simp] theorem o_ix4 : pIx (.d (.tuple (a :: b :: c :: d :: e :: r))) (.d (.int 4)) M = .ok (.d e) M := o_ixt _ 4 _ M rfl
end
@[simp] theorem o_len_t (xs : List PyData) (M : Store) : pLen [.d (.tuple xs)] M = .ok (.d (.int xs.length)) M := by
  unfold pLen lenW
  simp [lstOf]
@[simp] theorem o_len_l (xs : List PyData) (M : Store) : pLen [.d (.list xs)] M = .ok (.d (.int xs.length)) M := by
  unfold pLen lenW
  simp [lstOf]
theorem o_len_p (n : Nat) (ws : List W) (M : Store) (h : M[n]? = some (.lst ws)) : pLen [.p n] M = .ok (.d (.int ws.length)) M := by
  unfold pLen lenW
  simp [lstOf, h]
/-! ### loops -/
theorem putL_ok (acc : List W) (y : W) (h : acc.length < sizeLine) : putL acc y = some (acc ++ [y]) := by
  unfold putL
  rw [if_pos h]
theorem soL_none {ws : List W} {i : Nat} (M : Store) (h : ws.length ≤ i) : (soL ws).at_ i M = some none := by
  show some ws[i]? = some none
  rw [List.getElem?_eq_none h]
theorem soL_some {ws : List W} {i : Nat} (M : Store) (h : i < ws.length) : (soL ws).at_ i M = some (some ws[i]) := by
  show some ws[i]? = _
  rw [List.getElem?_eq_getElem h]
section
variable {ws : List W} {t : Tg} {tt : PTx} {f : PEx} {ρ : Pu.Env} {M : Store} {vs : List Nat}
theorem loopC_map {b : W → Bool} {g : W → W} 
    (h : ∀ w ∈ ws, ∃ ρ', t w ρ M = .ok ρ' M ∧ tt ρ' M = .ok (b w) M ∧ (b w = true → f ρ' M = .ok (g w) M)) :
    ∀ (n i : Nat) (acc : List W), n = ws.length - i → i ≤ ws.length → acc.length + n ≤ sizeLine → loopC (soL ws) t tt f putL ρ n i acc M = .ok (acc ++ ((ws.drop i).filter b).map g) M := by
  intro n
  induction n with
  | zero =>
    intro i acc hn hi _
    unfold loopC
    rw [soL_none M (by omega), List.drop_eq_nil_of_le (by omega)]
    simp
  | succ n ih =>
    intro i acc hn hi hz
    have hlt : i < ws.length := by omega
    obtain ⟨ρ', h1, h2, h3⟩ := h ws[i] (List.getElem_mem hlt)
    unfold loopC
    rw [soL_some M hlt]
    simp only [h1, R.noX_ok, R.bind_ok, h2]
    rw [List.drop_eq_getElem_cons hlt]
    cases hb : b ws[i] with
    | false =>
      simp only [Bool.false_eq_true, if_false]
      rw [ih (i + 1) acc (by omega) (by omega) (by omega), List.filter_cons_of_neg (by rw [hb]; simp)]
    | true =>
      simp only [if_true, h3 hb, R.noX_ok, R.bind_ok]
      rw [putL_ok acc _ (by omega)]
      simp only
      rw [ih (i + 1) _ (by omega) (by omega) (by simp; omega), List.filter_cons_of_pos (by rw [hb]), List.map_cons, List.append_assoc]
      rfl
/-- a list of what a pure block makes of each item that passes -/
theorem kLc_sel (xs : List PyData) (b : PyData → Bool) (g : PyData → PyData) (hz : xs.length ≤ 100000)
    (h : ∀ x ∈ xs, ∃ ρ', t (.d x) (wipeE ρ vs) M = .ok ρ' M ∧ tt ρ' M = .ok (b x) M ∧ (b x = true → f ρ' M = .ok (.d (g x)) M)) : kLc false t tt f vs ρ (.ok (soL (xs.map .d)) M) = .ok (.d (.list ((xs.filter b).map g))) M := by
  have hs := sizeLine_eq
  let gw : W → W := fun w => match w with | .d x => .d (g x) | w => w
  let bw : W → Bool := fun w => match w with | .d x => b x | _ => false
  have e := loopC_map (ws := xs.map .d) (t := t) (tt := tt) (f := f) (ρ := wipeE ρ vs) (M := M) (b := bw) (g := gw) (fun w hw => by
    obtain ⟨x, hx, rfl⟩ := List.mem_map.mp hw
    exact h x hx) (xs.map W.d).length 0 [] (by simp) (by simp) (by simp; omega)
  rw [kLc_0]
  show kNew false (loopC (soL (xs.map .d)) t tt f putL (wipeE ρ vs) (xs.map W.d).length 0 [] M) = _
  rw [e, kNew_0]
  have e2 : ((xs.map W.d).filter bw).map gw = ((xs.filter b).map g).map W.d := by
    rw [List.filter_map, List.map_map, List.map_map]
    rfl
  simp only [List.drop_zero, List.nil_append, e2, e_newF]
theorem kLc_map (xs : List PyData) (g : PyData → PyData) (hz : xs.length ≤ 100000)
    (h : ∀ x ∈ xs, ∃ ρ', t (.d x) (wipeE ρ vs) M = .ok ρ' M ∧ f ρ' M = .ok (.d (g x)) M) : kLc false t tYesX f vs ρ (.ok (soL (xs.map .d)) M) = .ok (.d (.list (xs.map g))) M := by
  have e := kLc_sel (t := t) (tt := tYesX) (f := f) (ρ := ρ) (M := M) (vs := vs) xs (fun _ => true) g hz (fun x hx => by
    obtain ⟨ρ', h1, h2⟩ := h x hx
    exact ⟨ρ', h1, rfl, fun _ => h2⟩)
  rw [e, List.filter_eq_self.mpr (fun _ _ => rfl)]
/-- a list of what a block that draws makes of each item -/
theorem kLc_rel (I : Store → Prop) (P : Nat → W → PyData → Prop) (hz : ws.length ≤ 100000) (hI : I M)
    (h : ∀ i w, ws[i]? = some w → ∀ M1, I M1 → ∃ ρ' x M2, t w (wipeE ρ vs) M1 = .ok ρ' M1 ∧ f ρ' M1 = .ok (.d x) M2 ∧ I M2 ∧ P i w x) :
    ∃ ys M', kLc false t tYesX f vs ρ (.ok (soL ws) M) = .ok (.d (.list ys)) M' ∧ I M' ∧ ys.length = ws.length ∧ ∀ i w y, ws[i]? = some w → ys[i]? = some y → P i w y := by
  have hs := sizeLine_eq
  have key : ∀ (n i : Nat) (acc : List PyData) (M : Store), n = ws.length - i → i ≤ ws.length → acc.length = i → I M → (∀ i w y, ws[i]? = some w → acc[i]? = some y → P i w y) →
      ∃ (ys : List PyData) (M' : Store), loopC (soL ws) t tYesX f putL (wipeE ρ vs) n i (acc.map W.d) M = .ok (ys.map W.d) M' ∧ I M' ∧ ys.length = ws.length ∧ ∀ i w y, ws[i]? = some w → ys[i]? = some y → P i w y := by
    intro n
    induction n with
    | zero =>
      intro i acc M hn hi hl hI hP
      refine ⟨acc, M, ?_, hI, by omega, hP⟩
      unfold loopC
      rw [soL_none M (by omega)]
    | succ n ih =>
      intro i acc M hn hi hl hI hP
      have hlt : i < ws.length := by omega
      obtain ⟨ρ', x, M2, h1, h2, h3, h4⟩ := h i ws[i] (List.getElem?_eq_getElem hlt) M hI
      unfold loopC
      rw [soL_some M hlt]
      simp only [h1, R.noX_ok, R.bind_ok, tYesX, if_true, h2]
      rw [putL_ok _ _ (by simp; omega)]
      have e : acc.map W.d ++ [W.d x] = (acc ++ [x]).map W.d := by simp
      simp only [e]
      refine ih (i + 1) (acc ++ [x]) M2 (by omega) (by omega) (by simp; omega) h3 ?_
      intro k w y hw hy
      rcases Nat.lt_or_ge k i with hk | hk
      · rw [List.getElem?_append_left (by omega)] at hy
        exact hP k w y hw hy
      · have : k = i := by
          have := (List.getElem?_eq_some_iff.mp hy).1
          simp at this
          omega
        subst this
        rw [List.getElem?_append_right (by omega)] at hy
        simp [hl] at hy
        rw [List.getElem?_eq_getElem hlt] at hw
        cases hw
        subst hy
        exact h4
  obtain ⟨ys, M', e1, e2, e3, e4⟩ := key ws.length 0 [] M (by simp) (by simp) rfl hI (by intro i w y _ hy; simp at hy)
  refine ⟨ys, M', ?_, e2, e3, e4⟩
  rw [kLc_0]
  show kNew false (loopC (soL ws) t tYesX f putL (wipeE ρ vs) ws.length 0 [] M) = _
  have e1 : loopC (soL ws) t tYesX f putL (wipeE ρ vs) ws.length 0 [] M = .ok (ys.map W.d) M' := e1
  rw [e1, kNew_0, e_newF]
/-- a for loop, by what holds ahead of each turn -/
theorem kFor_inv {a : Sm} (J : Nat → Pu.Env → Store → Prop) (h0 : J 0 ρ M)
    (h : ∀ i w, ws[i]? = some w → ∀ ρ M, J i ρ M → ∃ ρ1 ρ2 M2, t w ρ M = .ok ρ1 M ∧ a ρ1 M = .ok (.nx ρ2) M2 ∧ J (i + 1) ρ2 M2) :
    ∃ ρ' M', kFor t a ρ (.ok (soL ws) M) = .ok (.nx ρ') M' ∧ J ws.length ρ' M' := by
  have key : ∀ (n i : Nat) (ρ : Pu.Env) (M : Store), n = ws.length - i → i ≤ ws.length → J i ρ M → ∃ ρ' M', loopF (soL ws) t a n i ρ M = .ok (.nx ρ') M' ∧ J ws.length ρ' M' := by
    intro n
    induction n with
    | zero =>
      intro i ρ M hn hi hJ
      have : i = ws.length := by omega
      subst this
      refine ⟨ρ, M, ?_, hJ⟩
      unfold loopF
      rw [soL_none M (by omega)]
    | succ n ih =>
      intro i ρ M hn hi hJ
      have hlt : i < ws.length := by omega
      obtain ⟨ρ1, ρ2, M2, h1, h2, h3⟩ := h i ws[i] (List.getElem?_eq_getElem hlt) ρ M hJ
      unfold loopF
      rw [soL_some M hlt]
      simp only [h1, R.bind_ok, h2]
      exact ih (i + 1) ρ2 M2 (by omega) (by omega) h3
  rw [kFor_0]
  exact key ws.length 0 ρ M (by simp) (by simp) h0
end
theorem bools_map (bs : List Bool) : bools (bs.map fun b => .d (.bool b)) = some bs := by
  induction bs with
  | nil => rfl
  | cons b r ih =>
    simp only [List.map_cons, bools, ih]
    rfl
theorem bools_mapD {α : Type} (xs : List α) (g : α → Bool) : bools ((xs.map fun x => PyData.bool (g x)).map .d) = some (xs.map g) := by
  have := bools_map (xs.map g)
  rw [List.map_map] at this
  rw [List.map_map]
  exact this
@[simp] theorem o_all {α : Type} (xs : List α) (g : α → Bool) (M : Store) : pAll [.d (.list (xs.map fun x => .bool (g x)))] M = .ok (.d (.bool (xs.all g))) M := by
  unfold pAll
  have e : (isLst M (.d (.list (xs.map fun x => .bool (g x))))).bind bools = some (xs.map g) := bools_mapD xs g
  simp only [e]
  rw [List.all_map]
  rfl
@[simp] theorem o_any {α : Type} (xs : List α) (g : α → Bool) (M : Store) : pAny [.d (.list (xs.map fun x => .bool (g x)))] M = .ok (.d (.bool (xs.any g))) M := by
  unfold pAny
  have e : (isLst M (.d (.list (xs.map fun x => .bool (g x))))).bind bools = some (xs.map g) := bools_mapD xs g
  simp only [e]
  rw [List.any_map]
  rfl
theorem small62_of {i : Int} (h0 : 0 ≤ i) (h : i ≤ 100000) : small62 i = true := by
  unfold small62
  rw [Bool.and_eq_true, decide_eq_true_eq, decide_eq_true_eq]
  constructor
  · have : (-(2 ^ 62) : Int) ≤ 0 := by decide
    omega
  · have : (100000 : Int) < 2 ^ 62 := by decide
    omega
theorem rng_map (n : Nat) : rngW 0 (n : Int) = soL (((List.range n).map fun (i : Nat) => PyData.int (i : Int)).map .d) := by
  unfold rngW
  have e : ((n : Int) - 0).toNat = n := by omega
  rw [e, List.map_map]
  congr 1
  refine List.map_congr_left fun i _ => ?_
  show W.d (.int (0 + (i : Int))) = W.d (.int (i : Int))
  rw [Int.zero_add]
@[simp] theorem o_isB (a b : Bool) (M : Store) : pIs (.d (.bool a)) (.d (.bool b)) M = .ok (.d (.bool (a == b))) M := by
  cases a <;> cases b <;> rfl
@[simp] theorem o_isNotB (a b : Bool) (M : Store) : pIsNot (.d (.bool a)) (.d (.bool b)) M = .ok (.d (.bool (!(a == b)))) M := by
  cases a <;> cases b <;> rfl

end Pu
end
section
set_option linter.all false
set_option maxRecDepth 100000
set_option maxHeartbeats 4000000
/-! PuR: the store, the drawing hand, dict comps. -/
namespace Pu
open PySem PySem.Spec
/-! ### lists of the store -/
def kIxP (n : Nat) (o : Option Ob) (u : W) (M : Store) : R W := match o with
  | some (.lst ws) => match u with
    | .d (.int i) => retW (L2.atI ws i) M
    | _ => .bad
  | _ => pIx (.p n) u M
theorem o_ixP (n : Nat) (i : Int) (M : Store) : pIx (.p n) (.d (.int i)) M = kIxP n M[n]? (.d (.int i)) M := by
  unfold kIxP
  split
  · rename_i ws e
    unfold pIx ixW
    simp only [lstOf, e]
  · rfl
section
variable (n : Nat) (a b c d e z : W) (r : List W) (M : Store)
@[simp] theorem kIxP_0 : kIxP n (some (.lst (a :: r))) (.d (.int 0)) M = .ok a M := by
  show retW (L2.atI _ _) M = _
  unfold L2.atI
  rw [show (0 : Int) = ((0 : Nat) : Int) from rfl, ixN_lt (by simp)]
  rfl
@[simp] theorem kIxP_1 : kIxP n (some (.lst (a :: b :: r))) (.d (.int 1)) M = .ok b M := by
  show retW (L2.atI _ _) M = _
  unfold L2.atI
  rw [show (1 : Int) = ((1 : Nat) : Int) from rfl, ixN_lt (by simp)]
  rfl
@[simp] theorem kIxP_2 : kIxP n (some (.lst (a :: b :: c :: r))) (.d (.int 2)) M = .ok c M := by
  show retW (L2.atI _ _) M = _
  unfold L2.atI
  rw [show (2 : Int) = ((2 : Nat) : Int) from rfl, ixN_lt (by simp)]
  rfl
@[simp] theorem kIxP_3 : kIxP n (some (.lst (a :: b :: c :: d :: r))) (.d (.int 3)) M = .ok d M := by
  show retW (L2.atI _ _) M = _
  unfold L2.atI
  rw [show (3 : Int) = ((3 : Nat) : Int) from rfl, ixN_lt (by simp)]
  rfl
@[simp] theorem kIxP_4 : kIxP n (some (.lst (a :: b :: c :: d :: e :: r))) (.d (.int 4)) M = .ok e M := by
  show retW (L2.atI _ _) M = _
  unfold L2.atI
  rw [show (4 : Int) = ((4 : Nat) : Int) from rfl, ixN_lt (by simp)]
  rfl
def kSetP (n : Nat) (o : Option Ob) (u z : W) (M : Store) : Option Store := match o with
  | some (.lst ws) => match u with
    | .d (.int i) => (L2.ixN ws.length i).map fun j => M.set n (.lst (ws.set j z))
    | _ => none
  | _ => setW (.p n) u z M
theorem o_setP (u : W) : setW (.p n) u z M = kSetP n M[n]? u z M := by
  unfold kSetP
  split
  · rename_i ws e
    unfold setW
    simp only [e]
    try
      cases u with
      | d x => cases x <;> rfl
      | _ => rfl
  · rfl
@[simp] theorem kSetP_1 : kSetP n (some (.lst [a, b, c, d, e])) (.d (.int 1)) z M = some (M.set n (.lst [a, z, c, d, e])) := rfl
@[simp] theorem kSetP_2 : kSetP n (some (.lst [a, b, c, d, e])) (.d (.int 2)) z M = some (M.set n (.lst [a, b, z, d, e])) := rfl
@[simp] theorem kSetP_3 : kSetP n (some (.lst [a, b, c, d, e])) (.d (.int 3)) z M = some (M.set n (.lst [a, b, c, z, e])) := rfl
@[simp] theorem kSetP_4 : kSetP n (some (.lst [a, b, c, d, e])) (.d (.int 4)) z M = some (M.set n (.lst [a, b, c, d, z])) := rfl
end
theorem o_append (n : Nat) (ws : List W) (u : W) (M : Store) (h : M[n]? = some (.lst ws)) (hz : ws.length < 100000) : pAppend (.p n) [u] M = .ok (.d .none) (M.set n (.lst (ws ++ [u]))) := by
  have := sizeLine_eq
  unfold pAppend
  simp only [h]
  rw [if_pos (by omega)]
theorem o_tupP (n : Nat) (ds : List PyData) (M : Store) (h : M[n]? = some (.lst (ds.map .d))) : pTuple [.p n] M = .ok (.d (.tuple ds)) M := by
  unfold pTuple
  simp only [isLst, h, Option.bind_some, dats_map]
theorem o_addP (n : Nat) (ws : List W) (ys : List PyData) (M : Store) (h : M[n]? = some (.lst ws)) (hz : ws.length + ys.length ≤ 100000) : pAdd true (.p n) (.d (.list ys)) M = .ok (.p M.length) (M ++ [.lst (ws ++ ys.map .d)]) := by
  have := sizeLine_eq
  have e : pAdd true (.p n) (.d (.list ys)) M = addL true (.p n) (.d (.list ys)) M := rfl
  rw [e]
  unfold addL
  simp only [isLst, h]
  rw [if_pos (by simp; omega)]
  rfl
theorem ty_p (n : Nat) (ws : List W) (M : Store) (h : M[n]? = some (.lst ws)) : tyW M (.p n) = some "list" := by
  unfold tyW
  simp only [h]
theorem get_snoc (M : Store) (a : Ob) : (M ++ [a])[M.length]? = some a := by simp
theorem set_snoc (M : Store) (a b : Ob) : (M ++ [a]).set M.length b = M ++ [b] := by
  rw [List.set_append_right _ _ (Nat.le_refl _)]
  simp
def kAddP (o : Option Ob) (n : Nat) (ys : List PyData) (M : Store) : R W := match o with
  | some (.lst ws) => if ws.length + ys.length ≤ 100000 then .ok (.p M.length) (M ++ [.lst (ws ++ ys.map .d)]) else pAdd true (.p n) (.d (.list ys)) M
  | _ => pAdd true (.p n) (.d (.list ys)) M
theorem o_addPk (n : Nat) (ys : List PyData) (M : Store) : pAdd true (.p n) (.d (.list ys)) M = kAddP M[n]? n ys M := by
  unfold kAddP
  split
  · rename_i ws e
    split
    · exact o_addP n ws ys M e (by assumption)
    · rfl
  · rfl
@[simp] theorem kAddP_0 (ws : List W) (n : Nat) (ys : List PyData) (M : Store) (h : ws.length + ys.length ≤ 100000) : kAddP (some (.lst ws)) n ys M = .ok (.p M.length) (M ++ [.lst (ws ++ ys.map .d)]) := if_pos h
def kApp (o : Option Ob) (n : Nat) (u : W) (M : Store) : R W := match o with
  | some (.lst ws) => if ws.length < 100000 then .ok (.d .none) (M.set n (.lst (ws ++ [u]))) else pAppend (.p n) [u] M
  | _ => pAppend (.p n) [u] M
theorem o_appk (n : Nat) (u : W) (M : Store) : pAppend (.p n) [u] M = kApp M[n]? n u M := by
  unfold kApp
  split
  · rename_i ws e
    split
    · exact o_append n ws u M e (by assumption)
    · rfl
  · rfl
@[simp] theorem kApp_0 (ws : List W) (n : Nat) (u : W) (M : Store) (h : ws.length < 100000) : kApp (some (.lst ws)) n u M = .ok (.d .none) (M.set n (.lst (ws ++ [u]))) := if_pos h
def kTyP (o : Option Ob) (n : Nat) (M : Store) : Option String := match o with
  | some (.lst _) => some "list"
  | _ => tyW M (.p n)
theorem o_tyP (n : Nat) (M : Store) : tyW M (.p n) = kTyP M[n]? n M := by
  unfold kTyP
  split
  · rename_i ws e
    exact ty_p n ws M e
  · rfl
@[simp] theorem kTyP_0 (ws : List W) (n : Nat) (M : Store) : kTyP (some (.lst ws)) n M = some "list" := Eq.trans rfl rfl
def kItP (o : Option Ob) (n : Nat) (M : Store) : Option So := match o with
  | some (.lst ws) => some (soP n ws.length)
  | _ => itW M (.p n)
theorem o_itP (n : Nat) (M : Store) : itW M (.p n) = kItP M[n]? n M := by
  unfold kItP
  split
  · rename_i ws e
    unfold itW
    simp only [e]
  · rfl
@[simp] theorem kItP_0 (ws : List W) (n : Nat) (M : Store) : kItP (some (.lst ws)) n M = some (soP n ws.length) := Eq.trans rfl rfl
theorem get_app0 (M l : Store) : (M ++ l)[M.length]? = l[0]? := by
  rw [List.getElem?_append_right (Nat.le_refl _), Nat.sub_self]
theorem get_appk (M l : Store) (k : Nat) : (M ++ l)[M.length + k]? = l[k]? := by
  rw [List.getElem?_append_right (by omega)]
  congr 1
  omega
theorem set_app0 (M l : Store) (x : Ob) : (M ++ l).set M.length x = M ++ l.set 0 x := by
  rw [List.set_append_right _ _ (Nat.le_refl _), Nat.sub_self]
theorem set_appk (M l : Store) (k : Nat) (x : Ob) : (M ++ l).set (M.length + k) x = M ++ l.set k x := by
  rw [List.set_append_right _ _ (by omega)]
  congr 2
  omega
/-! ### slices, repr -/
theorem cutG_take {α : Type} (xs : List α) (i : Int) (h : 0 ≤ i) : cutG xs none (some i) = xs.take i.toNat := by
  obtain ⟨k, rfl⟩ : ∃ k : Nat, i = k := ⟨i.toNat, by omega⟩
  unfold cutG
  rw [HT.sIx_nat, HT.sIx_none]
  simp
theorem cutG_drop {α : Type} (xs : List α) (i : Int) (h : 0 ≤ i) : cutG xs (some i) none = xs.drop i.toNat := by
  obtain ⟨k, rfl⟩ : ∃ k : Nat, i = k := ⟨i.toNat, by omega⟩
  unfold cutG
  rw [HT.sIx_nat, HT.sIx_none, Int.toNat_natCast]
  rcases Nat.le_total k xs.length with h2 | h2
  · rw [Nat.min_eq_left h2, List.take_of_length_le (by simp)]
  · rw [Nat.min_eq_right h2, List.drop_eq_nil_of_le h2, List.drop_eq_nil_of_le (Nat.le_refl _)]
    simp
theorem cutG_mid {α : Type} (xs : List α) (i j : Int) (h : 0 ≤ i) (h2 : 0 ≤ j) : cutG xs (some i) (some j) = (xs.take j.toNat).drop i.toNat := by
  obtain ⟨k, rfl⟩ : ∃ k : Nat, i = k := ⟨i.toNat, by omega⟩
  obtain ⟨l, rfl⟩ : ∃ k : Nat, j = k := ⟨j.toNat, by omega⟩
  unfold cutG
  rw [HT.sIx_nat, HT.sIx_nat, Int.toNat_natCast, Int.toNat_natCast, List.drop_take]
  rcases Nat.le_total k xs.length with h3 | h3
  · rw [Nat.min_eq_left h3]
    rcases Nat.le_total l xs.length with h4 | h4
    · rw [Nat.min_eq_left h4]
    · rw [Nat.min_eq_right h4, List.take_of_length_le (by simp), List.take_of_length_le (by simp; omega)]
  · rw [Nat.min_eq_right h3, List.drop_eq_nil_of_le h3, List.drop_eq_nil_of_le (Nat.le_refl _)]
    simp
section
variable (st : Bool) (xs : List PyData) (i j : Int) (M : Store)
@[simp] theorem cut_takeT (h : 0 ≤ i) : cutW st (.d (.tuple xs)) none (some i) M = .ok (.d (.tuple (xs.take i.toNat))) M := by
  show R.ok (W.d (.tuple (cutG xs _ _))) M = _
  rw [cutG_take _ _ h]
@[simp] theorem cut_drop (h : 0 ≤ i) : cutW st (.d (.tuple xs)) (some i) none M = .ok (.d (.tuple (xs.drop i.toNat))) M := by
  show R.ok (W.d (.tuple (cutG xs _ _))) M = _
  rw [cutG_drop _ _ h]
@[simp] theorem cut_mid (h : 0 ≤ i) (h2 : 0 ≤ j) : cutW st (.d (.tuple xs)) (some i) (some j) M = .ok (.d (.tuple ((xs.take j.toNat).drop i.toNat))) M := by
  show R.ok (W.d (.tuple (cutG xs _ _))) M = _
  rw [cutG_mid _ _ _ h h2]
@[simp] theorem cut_takeL (h : 0 ≤ i) : cutW false (.d (.list xs)) none (some i) M = .ok (.d (.list (xs.take i.toNat))) M := by
  show newW false (cutG (xs.map W.d) _ _) M = _
  rw [cutG_take _ _ h, ← List.map_take, e_newF]
@[simp] theorem cut_dropL (h : 0 ≤ i) : cutW false (.d (.list xs)) (some i) none M = .ok (.d (.list (xs.drop i.toNat))) M := by
  show newW false (cutG (xs.map W.d) _ _) M = _
  rw [cutG_drop _ _ h, ← List.map_drop, e_newF]
theorem cut_takeP (n : Nat) (h : 0 ≤ i) (hM : M[n]? = some (.lst (xs.map .d))) : cutW false (.p n) none (some i) M = .ok (.d (.list (xs.take i.toNat))) M := by
  unfold cutW
  simp only [isLst, hM]
  rw [cutG_take _ _ h, ← List.map_take, e_newF]
theorem cut_dropP (n : Nat) (h : 0 ≤ i) (hM : M[n]? = some (.lst (xs.map .d))) : cutW false (.p n) (some i) none M = .ok (.d (.list (xs.drop i.toNat))) M := by
  unfold cutW
  simp only [isLst, hM]
  rw [cutG_drop _ _ h, ← List.map_drop, e_newF]
end
theorem o_repr (x : PyData) (M : Store) (h : okRepr x = true) : pRepr [.d x] M = .ok (.d (.str x.shown)) M := by
  show (if okRepr x = true then _ else _) = _
  rw [if_pos h]
theorem ok_bool (b : Bool) : okRepr (.bool b) = true := by
  unfold okRepr
  have hs := sizeLine_eq
  have : (PyData.bool b).shown.length ≤ 5 := by cases b <;> decide +kernel
  have h2 : decide ((PyData.bool b).shown.length ≤ sizeLine) = true := decide_eq_true (by omega)
  rw [h2]
  cases b <;> rfl
/-! ### the hand -/
def HandAt (h : Nat) (M : Store) : Prop := ∃ (cs : List Int) (p : Nat) (g m n : Int), M[h]? = some (.lst [.d (.list (cs.map .int)), .d (.int p), .d (.int g), .d (.int m), .d (.int n)])
/-- cells below a bound stand as they were, but for the hand -/
structure Same (h L : Nat) (M M' : Store) : Prop where
  hand : HandAt h M'
  len : M.length ≤ M'.length
  eq : ∀ i, i < L → i ≠ h → M'[i]? = M[i]?
theorem HandAt.lt {h : Nat} {M : Store} (H : HandAt h M) : h < M.length := by
  obtain ⟨cs, p, g, m, n, e⟩ := H
  exact (List.getElem?_eq_some_iff.mp e).1
theorem Same.refl {h L : Nat} {M : Store} (H : HandAt h M) : Same h L M M := ⟨H, Nat.le_refl _, fun _ _ _ => rfl⟩
theorem Same.trans {h L : Nat} {M M1 M2 : Store} (a : Same h L M M1) (b : Same h L M1 M2) : Same h L M M2 := ⟨b.hand, Nat.le_trans a.len b.len, fun i h1 h2 => (b.eq i h1 h2).trans (a.eq i h1 h2)⟩
theorem Same.less {h L L' : Nat} {M M1 : Store} (a : Same h L M M1) (hl : L' ≤ L) : Same h L' M M1 := ⟨a.hand, a.len, fun i h1 h2 => a.eq i (by omega) h2⟩
theorem Same.snoc {h : Nat} {M : Store} (H : HandAt h M) (os : List Ob) : Same h M.length M (M ++ os) := ⟨by
    obtain ⟨cs, p, g, m, n, e⟩ := H
    exact ⟨cs, p, g, m, n, by rw [List.getElem?_append_left (List.getElem?_eq_some_iff.mp e).1]; exact e⟩, by simp, fun i h1 _ => List.getElem?_append_left h1⟩
theorem Same.set {h L n : Nat} {M : Store} (H : HandAt h M) (hn : L ≤ n) (hh : n ≠ h) (o : Ob) : Same h L M (M.set n o) := ⟨by
    obtain ⟨cs, p, g, m, k, e⟩ := H
    exact ⟨cs, p, g, m, k, by rw [List.getElem?_set_ne hh]; exact e⟩, by simp, fun i h1 _ => List.getElem?_set_ne (by omega)⟩
theorem fmod_rng (i : Int) {many : Int} (h : 0 < many) : 0 ≤ i.fmod many ∧ i.fmod many < many := ⟨Int.fmod_nonneg_of_pos _ h, Int.fmod_lt_of_pos _ h⟩
theorem okMod_of (i : Int) {j : Int} (h : 0 < j) : okMod i j = true := by
  unfold okMod
  have : j ≠ 0 := by omega
  simp [this]
theorem okDiv_of (i : Int) {j : Int} (h : 0 < j) (h2 : j < 1073741824) : okDiv i j = true := by
  unfold okDiv
  have : j ≠ 0 := by omega
  have : j.natAbs < 1073741824 := by omega
  simp [*]
theorem okMul_r (i : Int) {j : Int} (h : 0 ≤ j) (h2 : j ≤ 2147483647) : okMul i j = true := by
  unfold okMul
  have e : (2147483647 : Int) < 2 ^ 64 := by decide
  have e0 : (-(2 ^ 64) : Int) < 0 := by decide
  have a1 : (-(2 ^ 64) : Int) < j := by omega
  have a2 : j < 2 ^ 64 := by omega
  rw [Bool.or_eq_true]
  exact .inr (by rw [Bool.and_eq_true]; exact ⟨decide_eq_true a1, decide_eq_true a2⟩)
theorem okMul_l {i : Int} (j : Int) (h : 0 ≤ i) (h2 : i ≤ 2147483647) : okMul i j = true := by
  have := okMul_r j h h2
  unfold okMul at this ⊢
  rw [Bool.or_comm]
  exact this
theorem okPow_10 (k : Int) (h : 0 ≤ k) (h2 : k ≤ 1000) : okPow 10 k = true := by
  unfold okPow
  have e : (10 : Int).natAbs < 2 ^ 64 := by decide
  rw [Bool.and_eq_true, Bool.and_eq_true]
  exact ⟨⟨decide_eq_true h, decide_eq_true (by omega)⟩, decide_eq_true e⟩
/-! ### what an enumerate, a zip walk -/
theorem soE_eq (xs : List PyData) : soE xs = soL ((xs.mapIdx fun i x => .tuple [.int (i : Nat), x]).map .d) := by
  unfold soE soL
  congr 1
  · simp
  · funext i M
    rw [List.getElem?_map, List.getElem?_mapIdx]
    cases xs[i]? <;> rfl
theorem soZ_eq (xs ys : List PyData) : soZ xs ys = soL (((xs.zip ys).map fun p => PyData.tuple [p.1, p.2]).map .d) := by
  unfold soZ soL
  congr 1
  · simp
  · funext i M
    rw [List.getElem?_map, List.getElem?_map]
    have e := fun z => List.getElem?_zip_eq_some (l₁ := xs) (l₂ := ys) (i := i) (z := z)
    cases hx : xs[i]? with
    | none =>
      have : (xs.zip ys)[i]? = none := by
        cases hz : (xs.zip ys)[i]? with
        | none => rfl
        | some z => have := (e z).mp hz; rw [hx] at this; cases this.1
      rw [this]
      rfl
    | some x =>
      cases hy : ys[i]? with
      | none =>
        have : (xs.zip ys)[i]? = none := by
          cases hz : (xs.zip ys)[i]? with
          | none => rfl
          | some z => have := (e z).mp hz; rw [hy] at this; cases this.2
        rw [this]
        rfl
      | some y =>
        have : (xs.zip ys)[i]? = some (x, y) := (e (x, y)).mpr ⟨hx, hy⟩
        rw [this]
        rfl
section
variable {ws : List W} {t : Tg} {tt : PTx} {f : PEx} {ρ : Pu.Env} {M : Store} {vs : List Nat} {r : R W} {q : R Fl}
theorem kLc_relH (hr : kLc false t tYesX f vs ρ (.ok (soL ws) M) = r) (I : Store → Prop) (P : Nat → W → PyData → Prop) (hz : ws.length ≤ 100000) (hI : I M)
    (h : ∀ i w, ws[i]? = some w → ∀ M1, I M1 → ∃ ρ' x M2, t w (wipeE ρ vs) M1 = .ok ρ' M1 ∧ f ρ' M1 = .ok (.d x) M2 ∧ I M2 ∧ P i w x) :
    ∃ ys M', r = .ok (.d (.list ys)) M' ∧ I M' ∧ ys.length = ws.length ∧ ∀ i w y, ws[i]? = some w → ys[i]? = some y → P i w y := by
  obtain ⟨ys, M', e, h⟩ := kLc_rel I P hz hI h
  exact ⟨ys, M', hr.symm.trans e, h⟩
theorem kLc_mapH (hr : kLc false t tYesX f vs ρ (.ok (soL ws) M) = r) (xs : List PyData) (g : PyData → PyData) (hws : ws = xs.map .d) (hz : xs.length ≤ 100000)
    (h : ∀ x ∈ xs, ∃ ρ', t (.d x) (wipeE ρ vs) M = .ok ρ' M ∧ f ρ' M = .ok (.d (g x)) M) : r = .ok (.d (.list (xs.map g))) M := by
  subst hws
  exact hr.symm.trans (kLc_map xs g hz h)
theorem loopC_so {so so' : So} {M : Store} {t : Tg} {tt : PTx} {f : PEx} {ρ : Pu.Env} (hat : ∀ i, so.at_ i M = so'.at_ i M) (h : ∀ i w, so'.at_ i M = some (some w) → ∃ ρ' y, t w ρ M = .ok ρ' M ∧ tt ρ' M = .ok true M ∧ f ρ' M = .ok y M) : ∀ (n i : Nat) (acc : List W), loopC so t tt f putL ρ n i acc M = loopC so' t tt f putL ρ n i acc M := by
  intro n
  induction n with
  | zero => intro i acc; unfold loopC; rw [hat i]
  | succ n ih =>
    intro i acc
    unfold loopC
    rw [hat i]
    cases e : so'.at_ i M with
    | none => rfl
    | some o =>
      cases o with
      | none => rfl
      | some w =>
        obtain ⟨ρ', y, h1, h2, h3⟩ := h i w e
        simp only [h1, h2, h3, R.noX_ok, R.bind_ok, if_true]
        split
        · exact ih _ _
        · rfl
theorem kLc_mapPH {n k : Nat} (hr : kLc false t tYesX f vs ρ (.ok (soP n k) M) = r) (xs : List PyData) (g : PyData → PyData) (hM : M[n]? = some (.lst (xs.map .d))) (hk : k = xs.length) (hz : xs.length ≤ 100000)
    (h : ∀ x ∈ xs, ∃ ρ', t (.d x) (wipeE ρ vs) M = .ok ρ' M ∧ f ρ' M = .ok (.d (g x)) M) : r = .ok (.d (.list (xs.map g))) M := by
  rw [← hr, ← kLc_map (t := t) (f := f) (ρ := ρ) (M := M) (vs := vs) xs g hz h, kLc_0, kLc_0]
  congr 1
  have e : (soP n k).n = (soL (xs.map W.d)).n := by
    show k = (xs.map W.d).length
    simp [hk]
  rw [e]
  refine loopC_so (fun i => ?_) (fun i w hw => ?_) _ _ _
  · show (match M[n]? with | some (.lst ws) => some ws[i]? | _ => none) = _
    rw [hM]
    rfl
  · have hw : some (xs.map W.d)[i]? = some (some w) := hw
    simp only [Option.some.injEq] at hw
    obtain ⟨x, hx, rfl⟩ := List.mem_map.mp (List.mem_of_getElem? hw)
    obtain ⟨ρ', h1, h2⟩ := h x hx
    exact ⟨ρ', _, h1, rfl, h2⟩
theorem kFor_invH {a : Sm} (hr : kFor t a ρ (.ok (soL ws) M) = q) (J : Nat → Pu.Env → Store → Prop) (h0 : J 0 ρ M)
    (h : ∀ i w, ws[i]? = some w → ∀ ρ M, J i ρ M → ∃ ρ1 ρ2 M2, t w ρ M = .ok ρ1 M ∧ a ρ1 M = .ok (.nx ρ2) M2 ∧ J (i + 1) ρ2 M2) :
    ∃ ρ' M', q = .ok (.nx ρ') M' ∧ J ws.length ρ' M' := by
  obtain ⟨ρ', M', e, h⟩ := kFor_inv J h0 h
  exact ⟨ρ', M', hr.symm.trans e, h⟩
end
theorem e_while (n : Nat) (t : PTx) (a : Sm) (ρ : Pu.Env) (M : Store) : sWhile n t a ρ M = loopW t a n ρ M := Eq.trans rfl rfl
/-- a while loop, by what is left to do -/
theorem while_inv {t : PTx} {a : Sm} (J : Nat → Pu.Env → Store → Prop) (h0 : ∀ ρ M, J 0 ρ M → t ρ M = .ok false M) (h : ∀ k ρ M, J (k + 1) ρ M → t ρ M = .ok true M ∧ ∃ ρ2 M2 k2, a ρ M = .ok (.nx ρ2) M2 ∧ k2 ≤ k ∧ J k2 ρ2 M2) :
    ∀ (n k : Nat) (ρ : Pu.Env) (M : Store), k < n → J k ρ M → ∃ ρ' M', loopW t a n ρ M = .ok (.nx ρ') M' ∧ J 0 ρ' M' := by
  intro n
  induction n with
  | zero => intro k ρ M hk; omega
  | succ n ih =>
    intro k ρ M hk hJ
    unfold loopW
    cases k with
    | zero =>
      rw [h0 ρ M hJ]
      exact ⟨ρ, M, rfl, hJ⟩
    | succ k =>
      obtain ⟨e1, ρ2, M2, k2, e2, h2, hJ2⟩ := h k ρ M hJ
      rw [e1]
      simp only [R.bind_ok, if_true, e2]
      exact ih k2 ρ2 M2 (by omega) hJ2
/-! ### dict comps -/
section
variable {κ : Type} [DecidableEq κ]
def foldD (acc : List (κ × W)) (ps : List (κ × W)) : List (κ × W) := ps.foldl (fun a p => setK a p.1 p.2) acc
theorem setK_keys (a : List (κ × W)) (k : κ) (v : W) : (k ∈ a.map (·.1) → (setK a k v).map (·.1) = a.map (·.1)) ∧ (k ∉ a.map (·.1) → (setK a k v).map (·.1) = a.map (·.1) ++ [k]) := by
  unfold setK
  by_cases h : (a.any fun kv => decide (kv.1 = k)) = true
  · rw [if_pos h]
    have hm : k ∈ a.map (·.1) := by
      obtain ⟨x, hx, e⟩ := List.any_eq_true.mp h
      exact List.mem_map.mpr ⟨x, hx, of_decide_eq_true e⟩
    refine ⟨fun _ => ?_, fun h2 => absurd hm h2⟩
    rw [List.map_map]
    refine List.map_congr_left fun x _ => ?_
    show (if x.1 = k then (x.1, v) else x).1 = x.1
    split <;> rfl
  · rw [if_neg h]
    have hm : k ∉ a.map (·.1) := by
      intro h2
      obtain ⟨x, hx, e⟩ := List.mem_map.mp h2
      exact h (List.any_eq_true.mpr ⟨x, hx, decide_eq_true e⟩)
    exact ⟨fun h2 => absurd h2 hm, fun _ => by simp⟩
theorem foldD_len : ∀ (ps acc : List (κ × W)), (foldD acc ps).length ≤ acc.length + ps.length ∧ ((foldD acc ps).length = acc.length + ps.length ↔ ((ps.map (·.1)).Nodup ∧ ∀ k ∈ ps.map (·.1), k ∉ acc.map (·.1)))
  | [], acc => by simp [foldD]
  | p :: ps, acc => by
    obtain ⟨i1, i2⟩ := foldD_len ps (setK acc p.1 p.2)
    obtain ⟨s1, s2⟩ := setK_keys acc p.1 p.2
    have e : foldD acc (p :: ps) = foldD (setK acc p.1 p.2) ps := rfl
    rw [e]
    by_cases h : p.1 ∈ acc.map (·.1)
    · have hk := s1 h
      have hl : (setK acc p.1 p.2).length = acc.length := by
        have := congrArg List.length hk
        simpa using this
      refine ⟨by simp only [List.length_cons]; omega, ?_⟩
      constructor
      · intro h2
        simp only [List.length_cons] at h2
        omega
      · intro h2
        exact absurd h (h2.2 p.1 (by simp))
    · have hk := s2 h
      have hl : (setK acc p.1 p.2).length = acc.length + 1 := by
        have := congrArg List.length hk
        simpa using this
      refine ⟨by simp only [List.length_cons]; omega, ?_⟩
      have : (foldD (setK acc p.1 p.2) ps).length = acc.length + (p :: ps).length ↔ (foldD (setK acc p.1 p.2) ps).length = (setK acc p.1 p.2).length + ps.length := by
        simp only [List.length_cons]
        omega
      rw [this, i2, hk]
      simp only [List.map_cons, List.nodup_cons, List.mem_append, List.mem_singleton, List.mem_cons, not_or]
      constructor
      · rintro ⟨h1, h2⟩
        exact ⟨⟨fun h3 => (h2 _ h3).2.1 rfl, h1⟩, fun k hk2 => by
          rcases hk2 with rfl | hk2
          · exact h
          · exact (h2 k hk2).1⟩
      · rintro ⟨⟨h1, h2⟩, h3⟩
        exact ⟨h2, fun k hk2 => ⟨h3 k (.inr hk2), fun h4 => h1 (h4 ▸ hk2), by simp⟩⟩
theorem kDg_map {mkOb : List (κ × W) → Ob} {key : W → Option κ} {t : Tg} {fk fv : PEx} {vs : List Nat} {ρ : Pu.Env} {M : Store} (xs : List PyData) (k : PyData → κ) (kw v : PyData → W) (hz : xs.length ≤ 100000) (hk : ∀ x ∈ xs, key (kw x) = some (k x))
    (h : ∀ x ∈ xs, ∃ ρ', t (.d x) (wipeE ρ vs) M = .ok ρ' M ∧ fk ρ' M = .ok (kw x) M ∧ fv ρ' M = .ok (v x) M) :
    kDg mkOb key t tYesX fk fv vs ρ (.ok (soL (xs.map .d)) M) = .ok (.p M.length) (M ++ [mkOb (foldD [] (xs.map fun x => (k x, v x)))]) := by
  have hs := sizeLine_eq
  have key2 : ∀ (n i : Nat) (acc : List (κ × W)), n = xs.length - i → i ≤ xs.length → acc.length ≤ i → loopC (soL (xs.map .d)) t tYesX (fKV fk fv) (putD key) (wipeE ρ vs) n i acc M = .ok (foldD acc ((xs.drop i).map fun x => (k x, v x))) M := by
    intro n
    induction n with
    | zero =>
      intro i acc hn hi _
      unfold loopC
      rw [soL_none M (by simp; omega), List.drop_eq_nil_of_le (by omega)]
      rfl
    | succ n ih =>
      intro i acc hn hi hl
      have hlt : i < xs.length := by omega
      obtain ⟨ρ', h1, h2, h3⟩ := h xs[i] (List.getElem_mem hlt)
      unfold loopC
      rw [soL_some M (by simp; omega)]
      rw [List.getElem_map]
      simp only [h1, R.noX_ok, R.bind_ok, tYesX, if_true]
      have e : fKV fk fv ρ' M = .ok (kw xs[i], v xs[i]) M := by
        unfold fKV
        rw [h2, R.bind_ok, h3, R.bind_ok]
      rw [e]
      simp only [R.noX_ok, R.bind_ok]
      have e2 : putD key acc (kw xs[i], v xs[i]) = some (setK acc (k xs[i]) (v xs[i])) := by
        unfold putD
        simp only [hk _ (List.getElem_mem hlt)]
        rw [if_pos (by omega)]
      rw [e2]
      simp only
      have hl2 : (setK acc (k xs[i]) (v xs[i])).length ≤ i + 1 := by
        unfold setK
        split
        · simp; omega
        · simp; omega
      rw [ih (i + 1) _ (by omega) (by omega) hl2, List.drop_eq_getElem_cons hlt]
      rfl
  have e := key2 xs.length 0 [] (by simp) (by simp) (by simp)
  unfold kDg
  rw [R.bind_ok]
  have e : loopC (soL (xs.map .d)) t tYesX (fKV fk fv) (putD key) (wipeE ρ vs) (soL (xs.map W.d)).n 0 [] M = .ok (foldD [] ((xs.drop 0).map fun x => (k x, v x))) M := by
    show loopC _ _ _ _ _ _ (xs.map W.d).length 0 [] M = _
    rw [List.length_map]
    exact e
  rw [e, R.bind_ok, List.drop_zero]
end
theorem o_len_dT (kws : List (List L2.Key × W)) (M : Store) : pLen [.p M.length] (M ++ [.dT kws]) = .ok (.d (.int kws.length)) (M ++ [.dT kws]) := by
  unfold pLen lenW
  simp
theorem o_len_dK (kws : List (L2.Key × W)) (M : Store) : pLen [.p M.length] (M ++ [.dK kws]) = .ok (.d (.int kws.length)) (M ++ [.dK kws]) := by
  unfold pLen lenW
  simp
end Pu
end
section
set_option linter.all false
set_option maxRecDepth 100000
set_option maxHeartbeats 4000000
/-! PuS: things that repr can show. -/
namespace Pu
open PySem PySem.Spec
/-- plain data of a depth and a weight, ints short -/
structure Rp (k n : Nat) (x : PyData) : Prop where
  lay : x.canLay0 = true
  dep : x.depth ≤ k
  wei : x.weight ≤ n
  shrt : x.intsShort 13 = true
  show_ : x.showable = true
theorem Rp.ok {k n : Nat} {x : PyData} (h : Rp k n x) (hk : k ≤ 64) (hn : n ≤ 1000000) : okRepr x = true := by
  have e : (2 : Nat) ^ 20 = 1048576 := by decide
  have hl : x.layable0 = true := by
    unfold PyData.layable0
    have h1 := h.dep
    have h2 := h.wei
    rw [h.lay, decide_eq_true (by omega), decide_eq_true (by omega)]
    rfl
  have h3 : x.shown.length ≤ 15728653 := by
    first
      | exact PySem.Spec.shown_le13 hl h.shrt
      | exact shown_le13 hl h.shrt
      | exact PyProof.Rows.shown_le13 hl h.shrt
  have hs := sizeLine_eq
  have h1 := h.dep
  unfold okRepr
  rw [h.show_, PyData.hasDict_of_canLay _ h.lay, decide_eq_true (by omega), decide_eq_true (by omega)]
  rfl
theorem Rp.mono {k n k' n' : Nat} {x : PyData} (h : Rp k n x) (hk : k ≤ k') (hn : n ≤ n') : Rp k' n' x := ⟨h.lay, Nat.le_trans h.dep hk, Nat.le_trans h.wei hn, h.shrt, h.show_⟩
theorem rp_none : Rp 0 0 .none := ⟨rfl, Nat.le_refl _, Nat.le_refl _, rfl, rfl⟩
theorem rp_int {i : Int} (h0 : 0 ≤ i) (h : i ≤ 1000000) : Rp 0 20 (.int i) := by
  have hl : i.natAbs < 10 ^ 7 := by
    have : (10 : Nat) ^ 7 = 10000000 := by decide
    omega
  have hlog : i.natAbs ≠ 0 → i.natAbs.log2 < 20 := fun hn => by
    have e : (2 : Nat) ^ 20 = 1048576 := by decide
    exact (Nat.log2_lt hn).mpr (by omega)
  refine ⟨rfl, Nat.le_refl _, ?_, ?_, ?_⟩
  · show (if i == 0 then 0 else i.natAbs.log2 + 1) ≤ 20
    split
    · omega
    · rename_i hn
      have : i.natAbs ≠ 0 := by
        intro h2
        exact hn (by simp; omega)
      have := hlog this
      omega
  · show decide ((PyData.int i).shown.length ≤ 13) = true
    refine decide_eq_true ?_
    have h1 := int_text_length_le10 (a := i) (k := 7) (by omega) hl
    have e : (Str.ofString (toString i)).length = (toString i).length := by
      first
        | exact ofString_length _
        | exact Str.ofString_length _
        | exact PySem.Spec.ofString_length _
    have e2 : (PyData.int i).shown = Str.ofString (toString i) := rfl
    rw [e2, e]
    omega
  · show decide (i.natAbs.log2 < 1920) = true
    refine decide_eq_true ?_
    by_cases hn : i.natAbs = 0
    · rw [hn]; decide
    · have := hlog hn
      omega
theorem rpAll {k n : Nat} : ∀ {xs : List PyData}, (∀ x ∈ xs, Rp k n x) → PyData.canLayAll0 xs = true ∧ PyData.depthAll xs ≤ k ∧ PyData.weightAll xs ≤ xs.length * (n + 1) ∧ PyData.intsShortAll 13 xs = true ∧ PyData.showableAll xs = true
  | [], _ => ⟨rfl, Nat.zero_le _, Nat.zero_le _, rfl, rfl⟩
  | x :: xs, h => by
    obtain ⟨a, b, c, d, e⟩ := rpAll (xs := xs) fun y hy => h y (List.mem_cons_of_mem _ hy)
    have hx := h x (by simp)
    refine ⟨?_, ?_, ?_, ?_, ?_⟩
    · show (x.canLay0 && PyData.canLayAll0 xs) = true
      rw [hx.lay, a]; rfl
    · show max x.depth (PyData.depthAll xs) ≤ k
      exact Nat.max_le.mpr ⟨hx.dep, b⟩
    · show x.weight + 1 + PyData.weightAll xs ≤ (xs.length + 1) * (n + 1)
      have := hx.wei
      rw [Nat.succ_mul]
      omega
    · show (x.intsShort 13 && PyData.intsShortAll 13 xs) = true
      rw [hx.shrt, d]; rfl
    · show (x.showable && PyData.showableAll xs) = true
      rw [hx.show_, e]; rfl
structure RpL (k n : Nat) (xs : List PyData) : Prop where
  lay : PyData.canLayAll0 xs = true
  dep : PyData.depthAll xs ≤ k
  wei : PyData.weightAll xs ≤ n
  shrt : PyData.intsShortAll 13 xs = true
  show_ : PyData.showableAll xs = true
theorem RpL.nil {k : Nat} : RpL k 0 [] := ⟨rfl, Nat.zero_le _, Nat.le_refl _, rfl, rfl⟩
theorem RpL.cons {k a b : Nat} {x : PyData} {xs : List PyData} (hx : Rp k a x) (h : RpL k b xs) : RpL k (a + 1 + b) (x :: xs) := by
  refine ⟨?_, ?_, ?_, ?_, ?_⟩
  · show (x.canLay0 && PyData.canLayAll0 xs) = true
    rw [hx.lay, h.lay]; rfl
  · show max x.depth (PyData.depthAll xs) ≤ k
    exact Nat.max_le.mpr ⟨hx.dep, h.dep⟩
  · show x.weight + 1 + PyData.weightAll xs ≤ a + 1 + b
    have h1 := hx.wei
    have h2 := h.wei
    omega
  · show (x.intsShort 13 && PyData.intsShortAll 13 xs) = true
    rw [hx.shrt, h.shrt]; rfl
  · show (x.showable && PyData.showableAll xs) = true
    rw [hx.show_, h.show_]; rfl
theorem RpL.tup {k n : Nat} {xs : List PyData} (h : RpL k n xs) : Rp (k + 1) n (.tuple xs) := ⟨h.lay, by show PyData.depthAll xs + 1 ≤ k + 1; have := h.dep; omega, h.wei, h.shrt, h.show_⟩
theorem RpL.up {k n k' : Nat} {xs : List PyData} (h : RpL k n xs) (hk : k ≤ k') : RpL k' n xs := ⟨h.lay, Nat.le_trans h.dep hk, h.wei, h.shrt, h.show_⟩
theorem rp_tup {k n m : Nat} {xs : List PyData} (h : ∀ x ∈ xs, Rp k n x) (hm : xs.length * (n + 1) ≤ m) : Rp (k + 1) m (.tuple xs) := by
  obtain ⟨a, b, c, d, e⟩ := rpAll h
  exact ⟨a, by show PyData.depthAll xs + 1 ≤ k + 1; omega, Nat.le_trans c hm, d, e⟩
end Pu
end
section
set_option linter.all false
set_option maxRecDepth 100000
set_option maxHeartbeats 4000000
/-! PuTa: sets of texts, made of a list, sorted (after the library's sets of ints). -/
namespace PuX
open PySem PySem.Spec PyProof.Rows L2
def txOf (e : Int × Value) : Str := match e.2 with | .str k _ => k | _ => Str.empty
def GoodT (w : World) (e : Int × Value) : Prop := ∃ k tk, e.2 = Value.str k tk ∧ e.1 = hashStr w k
/-- the set of the texts of a list -/
def SetT (w : World) (h : Heap) (a : Addr) (l : List Str) : Prop :=
  ∃ o es ep t, h.get? a = some o ∧ o.ExactSet ∧ o.data = .set es ep t ∧ (∀ e ∈ es.toList, GoodT w e) ∧ (es.toList.map txOf).Nodup ∧ (∀ k, k ∈ l ↔ k ∈ es.toList.map txOf) ∧
    es.size ≤ l.length ∧ t.fits es.size = true ∧ Ris t.place.toList ∧ (w.params.followText "set-order" = true ∨ t.led = true)
section
variable {P : Program} {w : World} {h h' : Heap} {a : Addr} {l : List Str}
theorem SetT.at (R : SetT w h a l) (k : ∀ o, h.get? a = some o → h'.get? a = some o) : SetT w h' a l := by
  obtain ⟨o, es, ep, t, ho, r⟩ := R
  exact ⟨o, es, ep, t, k o ho, r⟩
theorem goodT_elems {es : List (Int × Value)} (g : ∀ e ∈ es, GoodT w e) : ElemsOf (PySem.strKind P w) es := fun e he => by
  obtain ⟨k, tk, h1, h2⟩ := g e he
  exact ⟨⟨k, by rw [h1]; exact strKind_is P w k tk, h2⟩, by rw [h1] <;> rfl⟩
theorem goodT_is {e : Int × Value} (g : GoodT w e) (k : Str) : (PySem.strKind P w).is k e.2 = true ↔ txOf e = k := by
  obtain ⟨k0, tk, h1, _⟩ := g
  unfold txOf
  rw [h1]
  show ((k0 == k) = true) ↔ k0 = k
  exact beq_iff_eq
theorem goodT_mem {es : List (Int × Value)} (g : ∀ e ∈ es, GoodT w e) (k : Str) : k ∈ es.map txOf ↔ ∃ e ∈ es, (PySem.strKind P w).is k e.2 = true := by
  rw [List.mem_map]
  constructor
  · rintro ⟨e, he, q⟩
    exact ⟨e, he, (goodT_is (g e he) k).2 q⟩
  · rintro ⟨e, he, q⟩
    exact ⟨e, he, (goodT_is (g e he) k).1 q⟩
end
section
variable {P : Program} {w : World} {A : Around} {E : Value → Shared → Prop} {s : Shared} {a : Addr} {l : List Str}
theorem setT_add_tail {g : Bool → Sem Unit} (hg : ∀ (b : Bool) (s₁ : Shared) (Q' : Unit → Shared → Prop), Q' () s₁ → wpAny (model P w) A (g b) Q' E s₁)
    {o : Obj} {es : Array (Int × Value)} {ep : Nat} {t : SetTable} (ho : s.heap.get? a = some o) (hex : o.ExactSet) (hd : o.data = .set es ep t)
    {es1 : Array (Int × Value)} {t2 : SetTable} {l' : List Str} (g1 : ∀ e ∈ es1.toList, GoodT w e) (nd1 : (es1.toList.map txOf).Nodup) (m1 : ∀ k, k ∈ l' ↔ k ∈ es1.toList.map txOf)
    (hz : es1.size ≤ l'.length) (hb1 : es1.size < scanBound) (hf2 : t2.fits es1.size = true) (hr : Ris t2.place.toList) (hl : w.params.followText "set-order" = true ∨ t2.led = true) {wasDummy : Bool} {R : Option Bool → Shared → Prop}
    (hR : ∀ h', Heap.SameBut a s.heap h' → SetT w h' a l' → R (some true) { s with heap := h' }) :
    wpAny (model P w) A (do
        storeSet a es1 t2
        if (!wasDummy && t2.tooFull) = true then do
            g (relayAll t2 es1 (SetTable.grown es1.size)).2.2
            storeSet a (relayAll t2 es1 (SetTable.grown es1.size)).1 (relayAll t2 es1 (SetTable.grown es1.size)).2.1
            pure (some true)
          else pure (some true)) R E s := by
  refine wpAny_bind (wpAny_storeSet_of ho hd ?_ (fits_of_scanBound hb1))
  have ho1 := store_at (es' := es1) (t' := t2) ho hd
  have sb1 := Heap.SameBut.update s.heap a (Obj.putSet es1 t2)
  split
  · have pm := relayAll_perm t2 es1 (SetTable.grown es1.size)
    have hf3 := relayAll_fits t2 es1 (SetTable.grown es1.size)
    have hr3 := relayAll_ris t2 es1 (SetTable.grown es1.size)
    have hl3 := relayAll_led t2 es1 (SetTable.grown es1.size)
    generalize relayAll t2 es1 (SetTable.grown es1.size) = Z at pm hf3 hr3 hl3 ⊢
    obtain ⟨es2, t3, gave⟩ := Z
    dsimp only at pm hf3 hr3 hl3 ⊢
    have hsz : es2.size = es1.size := by rw [← Array.length_toList, pm.length_eq, Array.length_toList]
    have hb2 : es2.size < scanBound := by rw [hsz]; exact hb1
    refine wpAny_bind (hg _ _ _ ?_)
    refine wpAny_bind (wpAny_storeSet_of ho1 rfl ?_ (fits_of_scanBound hb2))
    have ho2 := store_at (es' := es2) (t' := t3) ho1 rfl
    refine wpAny_pure (hR _ (sb1.trans (Heap.SameBut.update _ a _)) ?_)
    exact ⟨_, es2, _, t3, ho2, hex, rfl, fun e he => g1 e (pm.mem_iff.mp he), (pm.map txOf).nodup_iff.mpr nd1, fun k => (m1 k).trans (pm.map txOf).mem_iff.symm, by rw [hsz]; exact hz, by rw [hsz] at hf3 ⊢; exact hf3, hr3,
      hl.imp id fun z => by rw [hl3]; exact z⟩
  · exact wpAny_pure (hR _ sb1 ⟨_, es1, _, t2, ho1, hex, rfl, g1, nd1, m1, hz, hf2, hr, hl⟩)
theorem setT_add_hashed {k : Str} {tk : Tok} {Q : Bool → Shared → Prop} (R : SetT w s.heap a l) (room : l.length + 1 < scanBound)
    (hQ : ∀ b h', Heap.SameBut a s.heap h' → SetT w h' a (l ++ [k]) → Q b { s with heap := h' }) :
    wpAny (model P w) A (setAddHashed a (.str k tk) ((PySem.strKind P w).hash k)) Q E s := by
  obtain ⟨o, es, ep, t, ho, hex, hd, g, nd, hm, hn, hf, hr, hl⟩ := R
  have hb : es.size < scanBound := by omega
  have hkey : (PySem.strKind P w).is k (.str k tk) = true := strKind_is P w k tk
  have hsc : (Value.str k tk).scannable = true := rfl
  have hel : ElemsOf (PySem.strKind P w) es.toList := goodT_elems g
  unfold setAddHashed setAddHashedIn
  refine wpAny_holding (wpAny_bind (wpAny_setState_of ho hd hf ?_))
  dsimp only
  rw [byScan_of hsc hb hel]
  simp only [↓reduceIte]
  unfold setAddByScan
  refine wpAny_bind ?_
  refine wpAny_bind (wpAny_rule ?_)
  refine wpAny_bind (wpAny_setScan_of hkey ho hd hf hel ?_)
  cases hfi : List.findIdx? (fun e => (PySem.strKind P w).is k e.2) es.toList with
  | some j =>
    dsimp only
    obtain ⟨hj, pj, _⟩ := List.findIdx?_eq_some_iff_getElem.mp hfi
    have hSk : k ∈ l := (hm k).2 ((goodT_mem (P := P) (w := w) g k).2 ⟨es.toList[j], List.getElem_mem hj, pj⟩)
    refine wpAny_pure (wpAny_pure ?_)
    exact hQ _ s.heap (Heap.SameBut.refl a s.heap) ⟨o, es, ep, t, ho, hex, hd, g, nd, fun i => by
      rw [← hm i, List.mem_append, List.mem_singleton]
      exact ⟨fun z => z.elim id (fun e => e ▸ hSk), .inl⟩, by simp; omega, hf, hr, hl⟩
  | none =>
    dsimp only
    have hnk : k ∉ es.toList.map txOf := fun z => by
      obtain ⟨e, he, q⟩ := (goodT_mem (P := P) (w := w) g k).1 z
      have c := List.findIdx?_eq_none_iff.mp hfi e he
      rw [q] at c
      cases c
    have hgw : ∀ (b : Bool) {s₁ : Shared} {Q' : Unit → Shared → Prop}, Q' () s₁ → wpAny (model P w) A (match b with | true => rule "set.scan.the-table-gave-way" | false => pure ()) Q' E s₁ :=
      fun b s₁ Q' q => by cases b <;> first | exact wpAny_pure q | exact wpAny_rule q
    have pm := layNew_perm t es ((PySem.strKind P w).hash k) (.str k tk)
    have hf1 := layNew_fits t es ((PySem.strKind P w).hash k) (.str k tk)
    have hr1 := layNew_ris t es ((PySem.strKind P w).hash k) (.str k tk) hr
    have hl1 := layNew_led t es ((PySem.strKind P w).hash k) (.str k tk)
    generalize layNew t es ((PySem.strKind P w).hash k) (.str k tk) = Z at pm hf1 hr1 hl1 ⊢
    obtain ⟨es1, t1, wasDummy, gave⟩ := Z
    dsimp only at pm hf1 hr1 hl1 ⊢
    rw [Array.toList_push] at pm
    have pc : es1.toList.Perm (((PySem.strKind P w).hash k, Value.str k tk) :: es.toList) := pm.trans (List.perm_append_singleton _ _)
    have pk : (es1.toList.map txOf).Perm (k :: es.toList.map txOf) := pc.map txOf
    have g1 : ∀ e ∈ es1.toList, GoodT w e := fun e he => by
      rcases List.mem_cons.mp (pc.mem_iff.mp he) with z | z
      · rw [z]; exact ⟨k, tk, rfl, rfl⟩
      · exact g e z
    have nd1 : (es1.toList.map txOf).Nodup := pk.nodup_iff.mpr (List.nodup_cons.mpr ⟨hnk, nd⟩)
    have m1 : ∀ i, i ∈ l ++ [k] ↔ i ∈ es1.toList.map txOf := fun i => by
      rw [List.mem_append, List.mem_singleton, hm i, pk.mem_iff, List.mem_cons]
      exact Or.comm
    have hsz : es1.size = es.size + 1 := by rw [← Array.length_toList, pc.length_eq, List.length_cons, Array.length_toList]
    have hb1 : es1.size < scanBound := by omega
    have hzz : es1.size ≤ (l ++ [k]).length := by simp; omega
    have hled : w.params.followText "set-order" = true ∨ t1.led = true := hl.imp id fun z => by rw [hl1]; exact z
    have fin : ∀ h', Heap.SameBut a s.heap h' → SetT w h' a (l ++ [k]) → Q true { s with heap := h' } := fun h' sb r => hQ _ h' sb r
    refine wpAny_bind (hgw _ ?_)
    split
    · refine wpAny_bind ?_
      rw [hashByValue_scannable 8 hsc]
      refine wpAny_pure ?_
      refine setT_add_tail ?_ ho hex hd g1 nd1 m1 hzz hb1 ?_ ?_ ?_ ?_
      · intro b s₁ Q' q; cases b <;> first | exact wpAny_pure q | exact wpAny_rule q
      · first | (split <;> first | exact hf1 | exact SetTable.fits_plain_off hf1) | exact hf1
      · first | (split <;> exact hr1) | exact hr1
      · first | (split <;> exact hled) | exact hled
      · intro h' sb r; dsimp only; exact wpAny_pure (fin h' sb r)
    · refine wpAny_bind (wpAny_pure ?_)
      simp only [↓reduceIte]
      refine setT_add_tail ?_ ho hex hd g1 nd1 m1 hzz hb1 hf1 hr1 hled ?_
      · intro b s₁ Q' q; cases b <;> first | exact wpAny_pure q | exact wpAny_rule q
      · intro h' sb r; dsimp only; exact wpAny_pure (fin h' sb r)
theorem setT_fresh {h : Heap} (w : World) : SetT w (h.push { cls := .type "set", dict := none, data := .set #[] 0 (.fresh 0 0 (!w.params.followText "set-order")) }) h.objs.size [] :=
  ⟨_, #[], 0, _, Heap.get?_push_size _ rfl, ⟨rfl, rfl, rfl⟩, rfl, (fun e he => by simp at he), (by simp), (fun k => by simp), (by simp), (by rfl), List.Pairwise.nil, by
    show _ ∨ (!w.params.followText "set-order") = true
    cases w.params.followText "set-order"
    · exact .inr rfl
    · exact .inl rfl⟩
theorem code_set_led1 (a : Value) {Q₁ : Value → Shared → Prop}
    (h : Q₁ (.ref s.heap.objs.size) { s with heap := s.heap.push { cls := .type "set", dict := none, data := .set #[] 0 (.fresh 0 0 (!w.params.followText "set-order")) } }) :
    codeAny (model P w) A (.call (.builtin "set.__new__") ⟨[.type "set", a], []⟩) (wants Q₁ E) s := by
  refine codeAny_of_tree ?_
  show wpAny _ A.in1 (do checkBuiltinCall "set.__new__" ⟨[.type "set", a], []⟩; again (.builtin "set.__new__" ⟨[.type "set", a], []⟩)) _ _ s
  refine wpAny_bind (wpAny_of_eq (F.newCall_set_1 a) (wpAny_pure ⟨plainId_quiet F.plain_set_new _, codeAny_builtin F.entry_set_new ?_⟩))
  rw [Around.under_plainId F.plain_set_new _]
  unfold Builtin.«set.__new__» Builtin.Frozenset.newClass
  have hsub := sub_set_self
  obtain ⟨hp, g, d, tk, os⟩ := s
  dsimp only
  wp_walk
  refine wpAny_askSetting (wpAny_pure ?_)
  dsimp only
  simp only [newObj]
  refine wpAny_bind (wpAny_alloc (wpAny_pure ?_))
  exact wpAny_pure h
end
section
variable {prog : Program} {w : World} {A : Around} {R : Result → Shared → Prop} {I : Addr} {fp wr : List Addr} {G : Array GenState → Array GenState → Prop} {n : Nat} {P : Nat → Value → Prop} {St : Nat → Shared → Prop}
theorem loopT (W : WalksS prog w A.in1 I fp wr G n P St) (S : Addr) (hSf : S ∉ fp) (xs : List Str) (hsz : xs.length = n) (hn1 : n < 4000)
    (hval : ∀ i v, P i v → ∃ t, v = .str (xs.getD i Str.empty) t) :
    ∀ (k i : Nat) (s : Shared), n - i = k → i ≤ n → St i s →
      SetT w s.heap S (xs.take i) →
      (∀ s', Moved (S :: wr) G s s' → SetT w s'.heap S xs → R (.ok (.ret .none)) s') →
      codeAny (model prog w) A (.builtin "set.update.loop" ⟨[.ref S, .ref I], []⟩) R s := by
  have hSw : S ∉ wr := fun h => hSf (W.sub _ h)
  have hsub : ∀ b ∈ wr, b ∈ S :: wr := fun b hb => List.mem_cons_of_mem _ hb
  intro k
  induction k with
  | zero =>
    intro i s hk hi hst hS hR
    have hin : i = n := by omega
    subst hin
    refine codeAny_builtin PyProof.Rows.F.entry_set_update_loop ?_
    rw [Around.under_plainId PyProof.Rows.F.plain_set_update_loop _]
    show wpAny _ A.in1 (pyNext (.ref I) >>= _) _ _ s
    refine wpAny_bind (W.done s _ _ hst fun s' hm => ?_)
    show wpAny _ A.in1 (ret Value.none) _ _ s'
    rw [List.take_of_length_le (by omega)] at hS
    exact wpAny_pure (hR s' (hm.mono hsub) (hS.at fun o ho => hm.heap S _ hSw ho))
  | succ k ih =>
    intro i s hk hi hst hS hR
    have hlt : i < n := by omega
    refine codeAny_builtin PyProof.Rows.F.entry_set_update_loop ?_
    rw [Around.under_plainId PyProof.Rows.F.plain_set_update_loop _]
    show wpAny _ A.in1 (pyNext (.ref I) >>= _) _ _ s
    refine wpAny_bind (W.item i s _ _ hlt hst fun v s' hP hst' hm => ?_)
    obtain ⟨t, rfl⟩ := hval i v hP
    have hS' : SetT w s'.heap S (xs.take i) := hS.at fun o ho => hm.heap S _ hSw ho
    show wpAny _ A.in1 (holding [Value.str (xs.getD i Str.empty) t] (setAdd S (.str (xs.getD i Str.empty) t)) >>= _) _ _ s'
    refine wpAny_bind (wpAny_holding ?_)
    unfold setAdd
    refine wpAny_holding ?_
    refine wpAny_bind ((PySem.strKind prog w).pyHash (k := xs.getD i Str.empty) (strKind_is _ _ _ _) ?_)
    refine setT_add_hashed (s := { s' with toks := s'.toks + 1 }) hS' (by rw [List.length_take]; unfold scanBound; omega) fun b h' hsb hS2 => ?_
    have e : xs.take i ++ [xs.getD i Str.empty] = xs.take (i + 1) := by
      rw [List.take_add_one, List.getD_eq_getElem?_getD, List.getElem?_eq_getElem (by omega)]
      rfl
    rw [e] at hS2
    refine wpAny_pure ⟨plainId_quiet PyProof.Rows.F.plain_set_update_loop _, ih (i + 1) _ (by omega) hlt (W.frame _ s' _ _ hst' (Nat.le_succ _) fun b hb o e => ?_) hS2 fun s'' hm'' hS'' => ?_⟩
    · rw [hsb.2 b (fun h : b = S => hSf (by rw [← h]; exact hb))]; exact e
    · refine hR s'' (Moved.trans W.gtrans ((hm.mono hsub).then_heap (Nat.le_succ _) fun b o hb e => ?_) hm'') hS''
      rw [hsb.2 b (fun h : b = S => hb (by rw [h]; exact List.mem_cons_self))]; exact e
end
end PuX
end
section
set_option linter.all false
set_option maxRecDepth 100000
set_option maxHeartbeats 4000000
/-! PuTb: set(list of texts), sorted(set of texts). -/
namespace PuX
open PySem PySem.Spec PyProof.Rows L2
section
variable {prog : Program} {w : World} {A : Around} {E : Value → Shared → Prop} {s : Shared}
theorem call_set_listT {l : Addr} {items : Array Value} {xs : List Str} {Q : Value → Shared → Prop}
    (hh : A.handled = none) (hl : s.heap.IsList l items) (hi : PyProof.Rows.StrsAre items.toList xs) (hn1 : xs.length < 4000)
    (h : ∀ (h' : Heap) (tk : Nat), SetT w h' s.heap.objs.size xs →
      (∀ b o, b < s.heap.objs.size → s.heap.get? b = some o → h'.get? b = some o) → Q (.ref s.heap.objs.size) { s with heap := h', toks := tk }) :
    wpAny (model prog w) A (call (.type "set") [.ref l]) Q E s := by
  obtain ⟨c, tl, hmro⟩ := PySem.F.called_set.mro
  have hmade := PySem.F.called_set.made
  have hsub := PySem.F.called_set.sub
  refine wpAny_call (codeAny_of_tree ?_)
  show wpAny _ _ (callAny (.type "set") _) _ _ _
  refine wpAny_pure ⟨Code.quiet_builtin _ (by decide +kernel), codeAny_builtin PySem.F.entry_type_call ?_⟩
  rw [Around.under_plain (weight_type_call_type "set" [.ref l] []) rfl]
  have h1 := PySem.F.called_set.notType
  have h2 := PySem.F.called_set.canCreate
  have hct := PySem.F.typeCall_set_1 (.ref l)
  repeat (any_goals (first | assumption | wp_step))
  refine codeAny_mono (code_set_led1 (.ref l) (E := E) (Q₁ := fun obj s₁ => obj = .ref s.heap.objs.size ∧ s₁ = { s with heap := s.heap.push { cls := .type "set", dict := none, data := .set #[] 0 (.fresh 0 0 (!w.params.followText "set-order")) } }) ⟨rfl, rfl⟩) fun r s₁ hr => ?_
  cases r with
  | error e => exact hr
  | ok fl =>
    cases fl with
    | ret obj =>
      obtain ⟨rfl, rfl⟩ := hr
      have hfr := setT_fresh (h := s.heap) w
      generalize (!w.params.followText "set-order") = led at hfr ⊢
      have hS : (s.heap.push { cls := .type "set", dict := none, data := .set #[] 0 (.fresh 0 0 led) }).get? s.heap.objs.size = some { cls := .type "set", dict := none, data := .set #[] 0 (.fresh 0 0 led) } := Heap.get?_push_size _ rfl
      have hT : Shared.TypeIs { s with heap := s.heap.push { cls := .type "set", dict := none, data := .set #[] 0 (.fresh 0 0 led) } } (.ref s.heap.objs.size) "set" := ⟨_, hS, rfl⟩
      have hli := PySem.F.called_set.init.lookup
      have hbi := PySem.F.called_set.init.bind (.ref s.heap.objs.size)
      repeat (any_goals (first | assumption | wp_step))
      refine codeAny_mono (codeAny_call_builtin (R := wants (fun r s₂ => r = .none ∧ ∃ h' tk, s₂ = { s with heap := h', toks := tk } ∧
          SetT w h' s.heap.objs.size xs ∧
          (∀ b o, b < s.heap.objs.size → s.heap.get? b = some o → h'.get? b = some o)) E) PySem.F.called_set.init.plain PySem.F.entry_set_init (check_set_init_1 hT ?_)) fun r₂ s₂ hr₂ => ?_
      · obtain ⟨ol, hol, hcl, nl, hdl⟩ := hl
        obtain ⟨ocls, odict, odata, oslots⟩ := ol
        simp only at hcl hdl
        subst hcl; subst hdl
        have hol' : (s.heap.push { cls := .type "set", dict := none, data := .set #[] 0 (.fresh 0 0 led) }).get? l = some { cls := .type "list", dict := odict, data := .seq items nl, slots := oslots } := Heap.get?_push_of_some _ hol
        have hsls := PySem.F.sub_list_set
        have hslf := PySem.F.sub_list_frozenset
        have hne : (Value.type "list" == Value.type "dict") = false := by decide
        have hl1 : (s.heap.push { cls := .type "set", dict := none, data := .set #[] 0 (.fresh 0 0 led) }).IsList l items := ⟨_, hol', rfl, nl, rfl⟩
        unfold Builtin.«set.__init__» noKeywords Builtin.Frozenset.updateFrom
        generalize hPI : pyIter = PI
        wp_walk
        subst hPI
        refine wpAny_pyIter_list hl1 ?_
        refine wpAny_bind (wpAny_runValue ?_)
        have hlS : l < s.heap.objs.size := Heap.lt_size hol
        have hh3 : A.in1.in1.in1.handled = none := by simp [hh]
        have hneI : l ≠ (s.heap.push { cls := .type "set", dict := none, data := .set #[] 0 (.fresh 0 0 led) }).objs.size := by
          rw [Heap.size_push]; exact Nat.ne_of_lt (Nat.lt_succ_of_lt hlS)
        have hSf : s.heap.objs.size ∉ [(s.heap.push { cls := .type "set", dict := none, data := .set #[] 0 (.fresh 0 0 led) }).objs.size, l] := by
          rw [Heap.size_push]; simp only [List.mem_cons, List.mem_singleton, List.not_mem_nil, or_false, not_or]
          exact ⟨Nat.ne_of_lt (Nat.lt_succ_self _), Nat.ne_of_gt hlS⟩
        have hsz : xs.length = items.size := by rw [← StrsAre.len_eq hi, Array.length_toList]
        have hval : ∀ (i : Nat) (v : Value), items[i]? = some v → ∃ t, v = .str (xs.getD i Str.empty) t := fun i v hv => SS.strs_at hi i v (by rw [Array.getElem?_toList]; exact hv)
        refine loopT ((Walks.list hh3 _ l hneI items).toS) s.heap.objs.size
          hSf xs hsz (by rw [← hsz]; exact hn1) hval (items.size - 0) 0 _ (by omega) (Nat.zero_le _)
          ⟨⟨_, Heap.get?_push_size _ rfl, rfl, rfl⟩, (hl1.push _)⟩ ?hS0 ?hR
        case hS0 =>
          exact hfr.at fun o ho => Heap.get?_push_of_some _ ho
        case hR =>
          intro s' hm hS'
          obtain ⟨h', g', d', tk', os'⟩ := s'
          have eg : g' = s.gens := hm.gens
          have ed : d' = s.drawn := hm.drawn
          have eo : os' = s.os := hm.os
          subst eg; subst ed; subst eo
          show wpAny _ _ _ _ _ _
          refine wpAny_pure ?_
          show wpAny _ _ (ret Value.none) _ _ _
          refine wpAny_pure ⟨rfl, h', tk', rfl, hS', fun b o hb e => ?_⟩
          have hb1 : b ≠ s.heap.objs.size := Nat.ne_of_lt hb
          have hb2 : b ≠ (s.heap.push { cls := .type "set", dict := none, data := .set #[] 0 (.fresh 0 0 led) }).objs.size := by
            rw [Heap.size_push]; exact Nat.ne_of_lt (Nat.lt_succ_of_lt hb)
          exact hm.heap b o (by simp only [List.mem_cons, List.mem_singleton, List.not_mem_nil, or_false, not_or]; exact ⟨hb1, hb2⟩) (Heap.get?_push_of_some _ (Heap.get?_push_of_some _ e))
      · cases r₂ with
        | error e => exact hr₂
        | ok fl₂ =>
          cases fl₂ with
          | ret r =>
            obtain ⟨rfl, h', tk, rfl, hS', hk'⟩ := hr₂
            repeat (any_goals (first | assumption | wp_step))
            exact h _ _ hS' hk'
          | _ => exact hr₂.elim
    | _ => exact hr.elim
theorem strs_of : ∀ (l : List Value), (∀ v ∈ l, ∃ k tk, v = Value.str k tk) → ∃ xs, StrsAre l xs
  | [], _ => ⟨[], .nil⟩
  | v :: l, h => by
    obtain ⟨k, tk, rfl⟩ := h v List.mem_cons_self
    obtain ⟨xs, q⟩ := strs_of l fun u hu => h u (List.mem_cons_of_mem _ hu)
    exact ⟨k :: xs, .cons k tk q⟩
theorem strs_tx : ∀ {l : List Value} {xs : List Str}, StrsAre l xs → l.map strOf = xs
  | _, _, h => h.strs
theorem sorted_setT {a : Addr} {l : List Str} {Q : Value → Shared → Prop} (R : SetT w s.heap a l) (hh : A.handled = none) (hz : l.length < 4000)
    (hQ : ∀ s' p (out : Array Value) (c : Nat) (ys : List Str), (∀ b o, s.heap.get? b = some o → s'.heap.get? b = some o) → s'.gens = s.gens → s'.os = s.os → s.heap.objs.size ≤ p →
      s'.heap.get? p = some (seqObj "list" out c) → StrsAre out.toList ys → sortedS ys = true → ys.Nodup → (∀ k, k ∈ ys ↔ k ∈ l) → ys.length ≤ l.length → Q (.ref p) s') :
    wpAny (model prog w) A (call (.builtin "sorted") [.ref a]) Q E s := by
  obtain ⟨o, es, ep, t, ho, hex, hd, g, nd, hm, hn, hf, hr, hl⟩ := R
  refine Calls.call_function_entry kind_sorted plain_sorted entry_sorted (args_sorted1 _) ?_
  unfold Builtin.«sorted»
  refine wpAny_bind (m := checkCount "sorted" 1 1 _) (wpAny_pure ?_)
  refine wpAny_bind (collect_set (A := A.in1) hh ⟨o, ho, hex.1, hd⟩ hf (by unfold scanBound; omega) hr hl fun s1 vs k1 hz1 g1 o1 pm => ?_)
  have hvl : vs.length = es.size := by rw [pm.length_eq, List.length_map, Array.length_toList]
  obtain ⟨xs, hI⟩ := strs_of vs fun v hv => by
    obtain ⟨e, he, q⟩ := List.mem_map.mp (pm.mem_iff.mp hv)
    obtain ⟨k, tk, h1, _⟩ := g e he
    exact ⟨k, tk, by rw [← q]; exact h1⟩
  have pk : xs.Perm (es.toList.map txOf) := by
    have q := pm.map strOf
    rw [hI.strs, List.map_map] at q
    refine q.trans (List.Perm.of_eq (List.map_congr_left fun e he => ?_))
    obtain ⟨k, tk, h1, _⟩ := g e he
    show strOf e.2 = txOf e
    unfold txOf
    rw [h1]
    rfl
  refine wpAny_bind (wpAny_newList ?_ (by rw [hvl, sizeLine_eq]; omega))
  have hoL : (s1.heap.push (seqObj "list" vs.toArray 0)).get? s1.heap.objs.size = some (seqObj "list" vs.toArray 0) := Heap.get?_push_size _ rfl
  refine wpAny_bind (wpAny_holding (wpAny_call_entry slot_list_sort ⟨_, hoL, rfl⟩ entry_list_sort (list_sort_treeKAny strKind_oneLt hoL hI.keysOf (fun v₁ v₂ rest e => keyKind_strs (by rw [← e]; exact hI)) (by rw [hvl, sizeLine_eq]; omega) fun st' hp hs => ?_) (args_list_sort _)))
  obtain ⟨ys, a1, a2, a3⟩ := sorted_out_str hI hp hs
  obtain ⟨c, hc⟩ := sortedHeap_at (vs := vs) (out := (arrOf st').map (·.2)) hoL
  have pn : ys.Perm (es.toList.map txOf) := a2.trans pk
  refine ⟨_, rfl, ?_⟩
  refine wpAny_pure ⟨_, rfl, hQ _ s1.heap.objs.size _ c ys (fun b u e => ?_) g1 o1 hz1 hc a1 a3 (pn.nodup_iff.mpr nd) (fun k => by rw [pn.mem_iff, ← hm k]) ?_⟩
  · have q := k1 b u e
    have hlt := Heap.lt_size q
    show (sortedHeap (s1.heap.push (seqObj "list" vs.toArray 0)) s1.heap.objs.size vs _).get? b = some u
    rw [sortedHeap_old (Nat.ne_of_lt hlt) (by rw [size_push']; exact Nat.lt_succ_of_lt hlt)]
    exact Heap.get?_push_of_some _ q
  · rw [pn.length_eq, List.length_map, Array.length_toList]; exact hn
end
end PuX
end
section
set_option linter.all false
set_option maxRecDepth 100000
set_option maxHeartbeats 4000000
/-! PuTc: rising lists: sorting with each thing once, in plain Lean. -/
namespace PuX
open PySem PySem.Spec PyProof.Rows
section
variable {α : Type}
/-- a strict order of all things -/
structure Ord (lt : α → α → Bool) : Prop where
  irr : ∀ a, lt a a = false
  tr : ∀ a b c, lt a b = true → lt b c = true → lt a c = true
  tot : ∀ a b, lt a b = false → lt b a = false → a = b
def insU (lt : α → α → Bool) (x : α) : List α → List α
  | [] => [x]
  | y :: ys => if lt x y = true then x :: y :: ys else if lt y x = true then y :: insU lt x ys else y :: ys
def sortU (lt : α → α → Bool) (xs : List α) : List α := xs.foldr (insU lt) []
variable {lt : α → α → Bool} (O : Ord lt)
def Rise (lt : α → α → Bool) (xs : List α) : Prop := xs.Pairwise fun a b => lt a b = true
theorem insU_mem (O : Ord lt) (x z : α) : ∀ ys, z ∈ insU lt x ys ↔ z = x ∨ z ∈ ys
  | [] => by simp [insU]
  | y :: ys => by
    unfold insU
    split
    · simp
    · rename_i h
      split
      · simp [insU_mem O x z ys]
        constructor
        · rintro (h | h | h) <;> simp [h]
        · rintro (h | h | h) <;> simp [h]
      · rename_i h2
        have e := O.tot x y (by simpa using h) (by simpa using h2)
        subst e
        simp
theorem insU_rise (O : Ord lt) (x : α) : ∀ ys, Rise lt ys → Rise lt (insU lt x ys)
  | [], _ => List.pairwise_singleton _ _
  | y :: ys, h => by
    have h1 := List.pairwise_cons.mp h
    unfold insU
    split
    · rename_i hx
      refine List.pairwise_cons.mpr ⟨fun z hz => ?_, h⟩
      rcases List.mem_cons.mp hz with rfl | hz
      · exact hx
      · exact O.tr _ _ _ hx (h1.1 z hz)
    · split
      · rename_i hy
        refine List.pairwise_cons.mpr ⟨fun z hz => ?_, insU_rise O x ys h1.2⟩
        rcases (insU_mem O x z ys).mp hz with rfl | hz
        · exact hy
        · exact h1.1 z hz
      · exact h
theorem sortU_mem (O : Ord lt) (z : α) : ∀ xs, z ∈ sortU lt xs ↔ z ∈ xs
  | [] => by simp [sortU]
  | x :: xs => by
    show z ∈ insU lt x (sortU lt xs) ↔ _
    rw [insU_mem O, sortU_mem O z xs]
    simp
theorem sortU_rise (O : Ord lt) : ∀ xs, Rise lt (sortU lt xs)
  | [] => List.Pairwise.nil
  | x :: xs => insU_rise O x _ (sortU_rise O xs)
/-- rising lists of the same things are one -/
theorem rise_one (O : Ord lt) : ∀ {xs ys : List α}, Rise lt xs → Rise lt ys → (∀ z, z ∈ xs ↔ z ∈ ys) → xs = ys
  | [], [], _, _, _ => rfl
  | [], y :: ys, _, _, h => absurd ((h y).mpr (by simp)) (by simp)
  | x :: xs, [], _, _, h => absurd ((h x).mp (by simp)) (by simp)
  | x :: xs, y :: ys, h1, h2, h => by
    have a := List.pairwise_cons.mp h1
    have b := List.pairwise_cons.mp h2
    have e : x = y := by
      have hx := (h x).mp (by simp)
      have hy := (h y).mpr (by simp)
      rcases List.mem_cons.mp hx with e | hx
      · exact e
      rcases List.mem_cons.mp hy with e | hy
      · exact e.symm
      have p := b.1 x hx
      have q := a.1 y hy
      have := O.tr _ _ _ p q
      rw [O.irr] at this
      cases this
    subst e
    congr 1
    refine rise_one O a.2 b.2 fun z => ?_
    have hz := h z
    simp only [List.mem_cons] at hz
    constructor
    · intro m
      rcases hz.mp (.inr m) with e | e
      · subst e
        have := a.1 z m
        rw [O.irr] at this
        cases this
      · exact e
    · intro m
      rcases hz.mpr (.inr m) with e | e
      · subst e
        have := b.1 z m
        rw [O.irr] at this
        cases this
      · exact e
theorem sortU_one (O : Ord lt) {xs ys : List α} (h : Rise lt ys) (m : ∀ z, z ∈ ys ↔ z ∈ xs) : ys = sortU lt xs := rise_one O h (sortU_rise O xs) fun z => (m z).trans (sortU_mem O z xs).symm
end
def ltI (a b : Int) : Bool := decide (a < b)
theorem ordI : Ord ltI := ⟨fun a => by simp [ltI], fun a b c h1 h2 => by simp only [ltI, decide_eq_true_eq] at *; omega, fun a b h1 h2 => by simp only [ltI, decide_eq_false_iff_not] at *; omega⟩
def ltS (a b : Str) : Bool := ltCps a.cps.toList b.cps.toList
theorem ordS : Ord ltS := ⟨fun a => by
    unfold ltS
    rw [ltCps_eq]
    exact decide_eq_false (List.lt_irrefl _), fun a b c h1 h2 => by
    unfold ltS at *
    rw [ltCps_eq] at *
    simp only [decide_eq_true_eq] at *
    exact List.lt_trans h1 h2, fun a b h1 h2 => by
    unfold ltS at *
    rw [ltCps_eq] at *
    simp only [decide_eq_false_iff_not] at *
    have e : a.cps.toList = b.cps.toList := List.le_antisymm h2 h1
    cases a with
    | mk x => cases b with
      | mk y =>
        have e : x.toList = y.toList := e
        have : x = y := Array.toList_inj.mp e
        rw [this]⟩
theorem rising_pw : ∀ (p : Str) (l : List Str), risingS p l = true → (p :: l).Pairwise fun a b => ltS b a = false
  | p, [], _ => List.pairwise_singleton _ _
  | p, x :: r, h => by
    have h : (!ltCps x.cps.toList p.cps.toList && risingS x r) = true := h
    rw [Bool.and_eq_true, Bool.not_eq_true'] at h
    have ih := rising_pw x r h.2
    have ih1 := List.pairwise_cons.mp ih
    refine List.pairwise_cons.mpr ⟨fun z hz => ?_, ih⟩
    rcases List.mem_cons.mp hz with rfl | hz
    · exact h.1
    · have q := ih1.1 z hz
      cases e : ltS z p with
      | false => rfl
      | true =>
        cases e2 : ltS p x with
        | true =>
          have := ordS.tr _ _ _ e e2
          rw [q] at this
          cases this
        | false =>
          have := ordS.tot p x e2 h.1
          subst this
          rw [q] at e
          cases e
theorem sortedS_rise {l : List Str} (h : sortedS l = true) (nd : l.Nodup) : Rise ltS l := by
  have h1 : l.Pairwise fun a b => ltS b a = false := by
    cases l with
    | nil => exact List.Pairwise.nil
    | cons x r => exact rising_pw x r h
  have h2 := List.nodup_iff_pairwise_ne.mp nd
  refine (h1.and h2).imp fun {a b} h => ?_
  cases e : ltS a b with
  | true => rfl
  | false => exact absurd (ordS.tot a b e h.1) h.2
theorem le_rise {l : List Int} (h : l.Pairwise (· ≤ ·)) (nd : l.Nodup) : Rise ltI l := by
  have h2 := List.nodup_iff_pairwise_ne.mp nd
  refine (h.and h2).imp fun {a b} h => ?_
  have : a ≠ b := h.2
  have : a ≤ b := h.1
  exact decide_eq_true (by omega)
end PuX
end
section
set_option linter.all false
set_option maxRecDepth 100000
set_option maxHeartbeats 4000000
/-! PuTd: sorted of a dict, sorted(set(list of texts)). -/
namespace Pu
open PySem PySem.Spec PyProof.Rows L2 PuX
/-! ### over the hand layer -/
def tSortSet (K : PySem.W.Frag) (ta : TE) : TE := fun σ H Q => ta σ H fun x H1 => ∃ l, ∃ xs : List Str, x = .ref l ∧ SqL K H1 l (xs.map V.str) ∧ xs.length < 4000 ∧
  ∀ (ys : List Str) (p : Addr), sortedS ys = true → ys.Nodup → (∀ k, k ∈ ys ↔ k ∈ xs) → H1 p = none → Q (.ref p) (upd H1 p (.lst (ys.map V.str)))
theorem pe_sortSet {X : Cx} {a : Expr} {ta : TE} {p p2 q pos : Pos} (hc : X.calm = true) (hg : Gl X "sorted") (hm : X.mg "sorted" = none) (hg2 : Gl X "set") (hm2 : X.mg "set" = none) (ha : PE X a ta)
    (na : starEach [a] X.env = (false, eval a X.env) :: starEach [] X.env := by rfl) : PE X (.Call (.Name "sorted" p) [.Call (.Name "set" p2) [a] [] q] [] pos) (tSortSet X.K ta) := by
  refine ⟨fun pins s σ H Q I h => ?_⟩
  refine Call_ (ld_blt I hg hm boot_sorted ?_)
  refine PyProof.Rows.callWith_builtin1 (PyProof.Rows.args_cons ?_ rfl) rfl rfl
  refine Call_ (ld_blt I hg2 hm2 boot_set ?_)
  refine PyProof.Rows.callWith_type1 (PyProof.Rows.args_cons (thn (ha.run pins s σ H _ I h) fun v s1 ⟨x, H1, I1, r1, q1⟩ => PyProof.Rows.args_nil ?_) na) na rfl
  obtain ⟨l, xs, rfl, hq, h1, q1⟩ := q1
  cases r1
  obtain ⟨its, r, pl, hz⟩ := I1.list hq
  refine call_set_listT (I1.ok.hd hc) pl.isList (by simpa using strsAre_of r) h1 fun h' tk hS hk => ?_
  refine PyProof.Rows.args_nil ?_
  have I2 : Inv X pins σ H1 { s1 with heap := h', toks := tk } := I1.kept fun b o e => hk b o (Heap.lt_size e) e
  refine sorted_setT (s := { s1 with heap := h', toks := tk }) hS (I2.ok.hd hc) h1 fun s' p out c ys k g o hp hget hi hso nd mem len => ?_
  have hlen : (ys.map V.str).length ≤ sizeLine := by rw [List.length_map, sizeLine_eq]; omega
  have hn : H1 p = none := I2.hok.fresh hp
  have J : Inv X pins σ (upd H1 p (.lst (ys.map V.str))) { ({ s1 with heap := h', toks := tk } : Shared) with heap := s'.heap, gens := s'.gens, drawn := s'.drawn, toks := s'.toks } :=
    I2.call (ch := []) (Un.laid k hp hn) (I2.hok.laid k hp ⟨hlen, out.toList, c, vals_of_strs hi, hget⟩) (by rw [g]; exact I2.bare) (fun _ z => nomatch z)
  have e : s' = { ({ s1 with heap := h', toks := tk } : Shared) with heap := s'.heap, gens := s'.gens, drawn := s'.drawn, toks := s'.toks } := by
    cases s'
    cases s1
    cases o
    rfl
  rw [e]
  exact ⟨.ref p, _, J, rfl, q1 ys p hso nd mem hn⟩
/-! ### plain -/
def strK : List Key → Option (List Str)
  | [] => some []
  | .inr x :: r => (strK r).map (x :: ·)
  | .inl _ :: _ => none
def intK : List Key → Option (List Int)
  | [] => some []
  | .inl x :: r => (intK r).map (x :: ·)
  | .inr _ :: _ => none
theorem strK_eq : ∀ {ks : List Key} {xs : List Str}, strK ks = some xs → ks = xs.map Sum.inr
  | [], _, h => by cases h; rfl
  | .inr x :: r, xs, h => by
    obtain ⟨ys, e, rfl⟩ := Option.map_eq_some_iff.mp h
    rw [List.map_cons, ← strK_eq e]
  | .inl _ :: _, _, h => by cases h
theorem intK_eq : ∀ {ks : List Key} {xs : List Int}, intK ks = some xs → ks = xs.map Sum.inl
  | [], _, h => by cases h; rfl
  | .inl x :: r, xs, h => by
    obtain ⟨ys, e, rfl⟩ := Option.map_eq_some_iff.mp h
    rw [List.map_cons, ← intK_eq e]
  | .inr _ :: _, _, h => by cases h
theorem strK_map (xs : List Str) : strK (xs.map Sum.inr) = some xs := by
  induction xs with
  | nil => rfl
  | cons x r ih => show (strK (r.map Sum.inr)).map (x :: ·) = _; rw [ih]; rfl
theorem intK_map (xs : List Int) : intK (xs.map Sum.inl) = some xs := by
  induction xs with
  | nil => rfl
  | cons x r ih => show (intK (r.map Sum.inl)).map (x :: ·) = _; rw [ih]; rfl
def sortKs (ks : List Key) (M : Store) : R W := match strK ks with
  | some xs => if xs.length < 64 ∧ xs.Nodup then .ok (.d (.list ((sortU ltS xs).map .str))) M else .bad
  | none => match intK ks with
    | some xs => if xs.length < 64 ∧ xs.Nodup then .ok (.d (.list ((sortU ltI xs).map .int))) M else .bad
    | none => .bad
/-- sorted(d) -/
def pSorted (ws : List W) (M : Store) : R W := match ws with
  | [.p n] => match M[n]? with
    | some (.dK kws) => sortKs (kws.map (·.1)) M
    | _ => .bad
  | _ => .bad
def rSortedA (K : PySem.W.Frag) : List V → Hp → VK → Prop := fun xs H Q => (∃ (a : Addr) (kvs : List (Key × V)) (ks : List Str), xs = [.ref a] ∧ Rd H a (.dK kvs) ∧ kvs.map (·.1) = ks.map Sum.inr ∧ ks.length < 64 ∧ ∀ ys p, ys.Perm ks → sortedS ys = true → H p = none → Q (.ref p) (upd H p (.lst (ys.map V.str)))) ∨
  (∃ (a : Addr) (kvs : List (Key × V)) (ks : List Int), xs = [.ref a] ∧ Rd H a (.dK kvs) ∧ kvs.map (·.1) = ks.map Sum.inl ∧ ks.length < 64 ∧ ∀ (ys : List Int) (p : Addr), ys.Perm ks → ys.Pairwise (· ≤ ·) → H p = none → Q (.ref p) (upd H p (.lst (ys.map V.int))))
theorem or_sorted {X : Cx} (hc : X.calm = true) : CallR X (.builtin "sorted") (rSortedA X.K) := (call_sortedD hc).or (call_sortedDI hc)
theorem repDs_strsX {K : PySem.W.Frag} {F : Hp} : ∀ xs : List Str, RepDs K F (xs.map V.str) (xs.map .str)
  | [] => .nil
  | x :: xs => .cons (.str x) (repDs_strsX xs)
theorem keys_rep {Y : Wd} {F : Hp} {am : List Addr} {κ : Type} : ∀ {vs : List (κ × V)} {ws : List (κ × W)}, RepKs Y F am vs ws → vs.map (·.1) = ws.map (·.1)
  | _, _, .nil => rfl
  | _, _, .cons h t => by rw [List.map_cons, List.map_cons, h.1, keys_rep t]
theorem s_sorted {Y : Wd} : CallS Y pSorted (rSortedA Y.K) := by
  intro F am M H vs ws Wx Q rp rs h
  unfold pSorted at h
  split at h
  · rename_i n
    obtain ⟨v, rfl, r⟩ := rs.one
    split at h
    · rename_i kws e
      cases r with
      | p ha =>
        rename_i a
        obtain ⟨kvs, h1, h2⟩ := rp.dK ha e
        have hk := keys_rep h2
        unfold sortKs at h
        split at h
        · rename_i xs es
          split at h
          · rename_i hz
            refine .inl ⟨a, kvs, xs, rfl, .inl h1, by rw [hk]; exact strK_eq es, hz.1, fun ys p pm so hp => ?_⟩
            have ey : ys = sortU ltS xs := sortU_one ordS (sortedS_rise so (pm.nodup_iff.mpr hz.2)) fun z => pm.mem_iff
            subst ey
            exact Aft.newL rp hp (repDs_strsX _) h
          · exact h.elim
        · split at h
          · rename_i xs es
            split at h
            · rename_i hz
              refine .inr ⟨a, kvs, xs, rfl, .inl h1, by rw [hk]; exact intK_eq es, hz.1, fun ys p pm so hp => ?_⟩
              have ey : ys = sortU ltI xs := sortU_one ordI (le_rise so (pm.nodup_iff.mpr hz.2)) fun z => pm.mem_iff
              subst ey
              exact Aft.newL rp hp (repDs_ints _) h
            · exact h.elim
          · exact h.elim
    · exact h.elim
  · exact h.elim
def strsD : List PyData → Option (List Str)
  | [] => some []
  | .str x :: r => (strsD r).map (x :: ·)
  | _ => none
theorem strsD_eq : ∀ {ds : List PyData} {xs : List Str}, strsD ds = some xs → ds = xs.map .str
  | [], _, h => by cases h; rfl
  | .str x :: r, xs, h => by
    obtain ⟨ys, e, rfl⟩ := Option.map_eq_some_iff.mp h
    rw [List.map_cons, ← strsD_eq e]
  | .none :: _, _, h => by cases h
  | .bool _ :: _, _, h => by cases h
  | .int _ :: _, _, h => by cases h
  | .list _ :: _, _, h => by cases h
  | .tuple _ :: _, _, h => by cases h
  | .dict _ :: _, _, h => by cases h
theorem strsD_map (xs : List Str) : strsD (xs.map .str) = some xs := by
  induction xs with
  | nil => rfl
  | cons x r ih => show (strsD (r.map .str)).map (x :: ·) = _; rw [ih]; rfl
theorem repDs_strs_eq {K : PySem.W.Frag} {F : Hp} : ∀ {vs : List V} {xs : List Str}, RepDs K F vs (xs.map .str) → vs = xs.map V.str
  | _, [], .nil => rfl
  | _, x :: xs, .cons r t => by
    cases r
    rw [List.map_cons, repDs_strs_eq t]
def sortSetW (w : W) (M : Store) : R W := match w with
  | .d (.list ds) => match strsD ds with
    | some xs => if xs.length < 4000 then .ok (.d (.list ((sortU ltS xs).map .str))) M else .bad
    | none => .bad
  | _ => .bad
def xSortSet (f : PEx) : PEx := fun ρ M => (f ρ M).bind sortSetW
theorem px_sortSet {X : Cx} {Y : Wd} {Wx : WX} {a : Expr} {f : PEx} {p p2 q pos : Pos} (hc : X.calm = true) (hg : Gl X "sorted") (hm : X.mg "sorted" = none) (hg2 : Gl X "set") (hm2 : X.mg "set" = none) (ha : PE X a (xT Y Wx f)) (hK : X.K = Y.K := by rfl)
    (na : starEach [a] X.env = (false, eval a X.env) :: starEach [] X.env := by rfl) : PE X (.Call (.Name "sorted" p) [.Call (.Name "set" p2) [a] [] q] [] pos) (xT Y Wx (xSortSet f)) := (pe_sortSet hc hg hm hg2 hm2 ha na).to fun σ H Q h => by
  obtain ⟨F, am, M, ρ, rp, re, h⟩ := h
  refine ⟨F, am, M, ρ, rp, re, h.bind.imp fun F1 am1 M1 w H1 x1 rp1 h1 v r => ?_⟩
  unfold sortSetW at h1
  split at h1
  · rename_i ds
    split at h1
    · rename_i xs es
      split at h1
      · rename_i hz
        have e := strsD_eq es
        subst e
        cases r with
        | d r =>
          cases r with
          | lst ha2 r2 =>
            rename_i l vs
            have e2 := repDs_strs_eq r2
            subst e2
            refine ⟨l, xs, rfl, by rw [hK]; exact SqL.of (rp1.fz _ _ ha2), hz, fun ys p so nd mem hp => ?_⟩
            have ey : ys = sortU ltS xs := sortU_one ordS (sortedS_rise so nd) mem
            subst ey
            exact Aft.newL rp1 hp (repDs_strsX _) h1
      · exact h1.elim
    · exact h1.elim
  · exact h1.elim
end Pu
end
section
set_option linter.all false
set_option maxRecDepth 100000
set_option maxHeartbeats 4000000
/-! PuU: the last list of the store, comps that choose, sorted keys. -/
namespace Pu
open PySem PySem.Spec L2 PuX
/-! ### the last list of the store -/
theorem ext_snoc (M : Store) (ws : List W) (ys : List PyData) (h : ws.length + ys.length ≤ 100000) : pExtend (.p M.length) [.d (.list ys)] (M ++ [.lst ws]) = .ok (.d .none) (M ++ [.lst (ws ++ ys.map .d)]) := by
  have := sizeLine_eq
  unfold pExtend
  simp only [get_snoc, isLst]
  rw [if_pos (by simp; omega), set_snoc]
theorem app_snoc (M : Store) (ws : List W) (u : W) (h : ws.length < 100000) : pAppend (.p M.length) [u] (M ++ [.lst ws]) = .ok (.d .none) (M ++ [.lst (ws ++ [u])]) := by
  rw [o_append _ ws u _ (get_snoc _ _) h, set_snoc]
theorem ty_snoc (M : Store) (ws : List W) : tyW (M ++ [.lst ws]) (.p M.length) = some "list" := ty_p _ ws _ (get_snoc _ _)
theorem o_listT (xs : List PyData) (M : Store) : pList false [.d (.tuple xs)] M = .ok (.d (.list xs)) M := by
  unfold pList
  simp [lstOf, isLst, newW]
  try (rw [e_newL]; simp)
/-! ### comps that choose -/
section
variable {ws : List W} {t : Tg} {tt : PTx} {f : PEx} {ρ : Pu.Env} {M : Store} {vs : List Nat} {r : R W}
theorem kLc_selH (hr : kLc false t tt f vs ρ (.ok (soL ws) M) = r) (xs : List PyData) (b : PyData → Bool) (g : PyData → PyData) (hws : ws = xs.map .d) (hz : xs.length ≤ 100000)
    (h : ∀ x ∈ xs, ∃ ρ', t (.d x) (wipeE ρ vs) M = .ok ρ' M ∧ tt ρ' M = .ok (b x) M ∧ (b x = true → f ρ' M = .ok (.d (g x)) M)) : r = .ok (.d (.list ((xs.filter b).map g))) M := by
  subst hws
  exact hr.symm.trans (kLc_sel xs b g hz h)
theorem loopC_so2 {so so' : So} {t : Tg} {tt : PTx} {f : PEx} {ρ : Pu.Env} (hat : ∀ i, so.at_ i M = so'.at_ i M) (h : ∀ i w, so'.at_ i M = some (some w) → ∃ ρ' b, t w ρ M = .ok ρ' M ∧ tt ρ' M = .ok b M ∧ (b = true → ∃ y, f ρ' M = .ok y M)) : ∀ (n i : Nat) (acc : List W), loopC so t tt f putL ρ n i acc M = loopC so' t tt f putL ρ n i acc M := by
  intro n
  induction n with
  | zero => intro i acc; unfold loopC; rw [hat i]
  | succ n ih =>
    intro i acc
    unfold loopC
    rw [hat i]
    cases e : so'.at_ i M with
    | none => rfl
    | some o =>
      cases o with
      | none => rfl
      | some w =>
        obtain ⟨ρ', b, h1, h2, h3⟩ := h i w e
        cases b with
        | true =>
          obtain ⟨y, h3⟩ := h3 rfl
          simp only [h1, h2, h3, R.noX_ok, R.bind_ok, if_true]
          split
          · exact ih _ _
          · rfl
        | false =>
          simp only [h1, h2, R.noX_ok, R.bind_ok, Bool.false_eq_true, if_false]
          exact ih _ _
theorem kLc_selPH {n k : Nat} (hr : kLc false t tt f vs ρ (.ok (soP n k) M) = r) (xs : List PyData) (b : PyData → Bool) (g : PyData → PyData) (hM : M[n]? = some (.lst (xs.map .d))) (hk : k = xs.length) (hz : xs.length ≤ 100000)
    (h : ∀ x ∈ xs, ∃ ρ', t (.d x) (wipeE ρ vs) M = .ok ρ' M ∧ tt ρ' M = .ok (b x) M ∧ (b x = true → f ρ' M = .ok (.d (g x)) M)) : r = .ok (.d (.list ((xs.filter b).map g))) M := by
  rw [← hr, ← kLc_sel (t := t) (tt := tt) (f := f) (ρ := ρ) (M := M) (vs := vs) xs b g hz h, kLc_0, kLc_0]
  congr 1
  have e : (soP n k).n = (soL (xs.map W.d)).n := by
    show k = (xs.map W.d).length
    simp [hk]
  rw [e]
  refine loopC_so2 (fun i => ?_) (fun i w hw => ?_) _ _ _
  · show (match M[n]? with | some (.lst ws) => some ws[i]? | _ => none) = _
    rw [hM]
    rfl
  · have hw : some (xs.map W.d)[i]? = some (some w) := hw
    simp only [Option.some.injEq] at hw
    obtain ⟨x, hx, rfl⟩ := List.mem_map.mp (List.mem_of_getElem? hw)
    obtain ⟨ρ', h1, h2, h3⟩ := h x hx
    exact ⟨ρ', _, h1, h2, fun hb => ⟨_, h3 hb⟩⟩
end
section
variable {κ : Type} [DecidableEq κ]
theorem kDg_selH {mkOb : List (κ × W) → Ob} {key : W → Option κ} {t : Tg} {tt : PTx} {fk fv : PEx} {vs : List Nat} {ρ : Pu.Env} {M : Store} {r : R W} {ws : List W} (hr : kDg mkOb key t tt fk fv vs ρ (.ok (soL ws) M) = r) (xs : List PyData) (b : PyData → Bool) (k : PyData → κ) (kw v : PyData → W) (hws : ws = xs.map .d) (hz : xs.length ≤ 100000) (hk : ∀ x ∈ xs, b x = true → key (kw x) = some (k x))
    (h : ∀ x ∈ xs, ∃ ρ', t (.d x) (wipeE ρ vs) M = .ok ρ' M ∧ tt ρ' M = .ok (b x) M ∧ (b x = true → fk ρ' M = .ok (kw x) M ∧ fv ρ' M = .ok (v x) M)) :
    r = .ok (.p M.length) (M ++ [mkOb (foldD [] ((xs.filter b).map fun x => (k x, v x)))]) := by
  subst hws
  subst hr
  have hs := sizeLine_eq
  have key2 : ∀ (n i : Nat) (acc : List (κ × W)), n = xs.length - i → i ≤ xs.length → acc.length ≤ i → loopC (soL (xs.map .d)) t tt (fKV fk fv) (putD key) (wipeE ρ vs) n i acc M = .ok (foldD acc (((xs.drop i).filter b).map fun x => (k x, v x))) M := by
    intro n
    induction n with
    | zero =>
      intro i acc hn hi _
      unfold loopC
      rw [soL_none M (by simp; omega), List.drop_eq_nil_of_le (by omega)]
      rfl
    | succ n ih =>
      intro i acc hn hi hl
      have hlt : i < xs.length := by omega
      obtain ⟨ρ', h1, h2, h3⟩ := h xs[i] (List.getElem_mem hlt)
      unfold loopC
      rw [soL_some M (by simp; omega)]
      rw [List.getElem_map]
      simp only [h1, R.noX_ok, R.bind_ok, h2]
      rw [List.drop_eq_getElem_cons hlt]
      cases hb : b xs[i] with
      | false =>
        simp only [Bool.false_eq_true, if_false]
        rw [ih (i + 1) acc (by omega) (by omega) (by omega), List.filter_cons_of_neg (by rw [hb]; simp)]
      | true =>
        obtain ⟨h3, h4⟩ := h3 hb
        simp only [if_true]
        have e : fKV fk fv ρ' M = .ok (kw xs[i], v xs[i]) M := by
          unfold fKV
          rw [h3, R.bind_ok, h4, R.bind_ok]
        rw [e]
        simp only [R.noX_ok, R.bind_ok]
        have e2 : putD key acc (kw xs[i], v xs[i]) = some (setK acc (k xs[i]) (v xs[i])) := by
          unfold putD
          simp only [hk _ (List.getElem_mem hlt) hb]
          rw [if_pos (by omega)]
        rw [e2]
        simp only
        have hl2 : (setK acc (k xs[i]) (v xs[i])).length ≤ i + 1 := by
          unfold setK
          split
          · simp; omega
          · simp; omega
        rw [ih (i + 1) _ (by omega) (by omega) hl2, List.filter_cons_of_pos (by rw [hb])]
        rfl
  have e := key2 xs.length 0 [] (by simp) (by simp) (by simp)
  unfold kDg
  rw [R.bind_ok]
  have e : loopC (soL (xs.map .d)) t tt (fKV fk fv) (putD key) (wipeE ρ vs) (soL (xs.map W.d)).n 0 [] M = .ok (foldD [] (((xs.drop 0).filter b).map fun x => (k x, v x))) M := by
    show loopC _ _ _ _ _ _ (xs.map W.d).length 0 [] M = _
    rw [List.length_map]
    exact e
  rw [e, R.bind_ok, List.drop_zero]
theorem foldD_keys : ∀ (ps acc : List (κ × W)), (acc.map (·.1)).Nodup → ((foldD acc ps).map (·.1)).Nodup ∧ ∀ k, k ∈ (foldD acc ps).map (·.1) ↔ k ∈ acc.map (·.1) ∨ k ∈ ps.map (·.1)
  | [], acc, h => ⟨h, fun k => by simp [foldD]⟩
  | p :: ps, acc, h => by
    obtain ⟨s1, s2⟩ := setK_keys acc p.1 p.2
    have e : foldD acc (p :: ps) = foldD (setK acc p.1 p.2) ps := rfl
    rw [e]
    by_cases hp : p.1 ∈ acc.map (·.1)
    · have hk := s1 hp
      obtain ⟨i1, i2⟩ := foldD_keys ps (setK acc p.1 p.2) (by rw [hk]; exact h)
      refine ⟨i1, fun k => ?_⟩
      rw [i2 k, hk, List.map_cons, List.mem_cons]
      constructor
      · rintro (a | a)
        · exact .inl a
        · exact .inr (.inr a)
      · rintro (a | rfl | a)
        · exact .inl a
        · exact .inl hp
        · exact .inr a
    · have hk := s2 hp
      obtain ⟨i1, i2⟩ := foldD_keys ps (setK acc p.1 p.2) (by
        rw [hk]
        exact List.nodup_append.mpr ⟨h, by simp, fun a ha b hb => by
          rw [List.mem_singleton] at hb
          subst hb
          exact fun h2 => hp (h2 ▸ ha)⟩)
      refine ⟨i1, fun k => ?_⟩
      rw [i2 k, hk, List.map_cons, List.mem_cons, List.mem_append, List.mem_singleton]
      constructor
      · rintro ((a | a) | a)
        · exact .inl a
        · exact .inr (.inl a)
        · exact .inr (.inr a)
      · rintro (a | a | a)
        · exact .inl (.inl a)
        · exact .inl (.inr a)
        · exact .inr a
end
theorem sort_str (ys : List Str) (v : Str → W) (M : Store) (hl : ys.length < 64) : sortKs ((foldD [] (ys.map fun s => ((Sum.inr s : Key), v s))).map (·.1)) M = .ok (.d (.list ((sortU ltS ys).map .str))) M := by
  obtain ⟨h1, h2⟩ := foldD_keys (ys.map fun s => ((Sum.inr s : Key), v s)) [] (by simp)
  have h3 := (foldD_len (ys.map fun s => ((Sum.inr s : Key), v s)) []).1
  generalize hD : foldD [] (ys.map fun s => ((Sum.inr s : Key), v s)) = D at *
  have h2' : ∀ k, k ∈ D.map (·.1) ↔ ∃ s ∈ ys, Sum.inr s = k := by
    intro k
    rw [h2 k]
    simp
  obtain ⟨zs, hz⟩ : ∃ zs : List Str, D.map (·.1) = zs.map Sum.inr := by
    have : ∀ l : List Key, (∀ k ∈ l, ∃ s ∈ ys, Sum.inr s = k) → ∃ zs : List Str, l = zs.map Sum.inr := by
      intro l
      induction l with
      | nil => intro _; exact ⟨[], rfl⟩
      | cons a r ih =>
        intro h
        obtain ⟨s, _, rfl⟩ := h a (by simp)
        obtain ⟨zs, rfl⟩ := ih fun k hk => h k (by simp [hk])
        exact ⟨s :: zs, rfl⟩
    exact this _ fun k hk => (h2' k).mp hk
  rw [hz] at h1 h2' ⊢
  have hn : zs.Nodup := List.nodup_iff_pairwise_ne.mpr (List.Pairwise.of_map _ (fun a b h h2 => h (congrArg _ h2)) (List.nodup_iff_pairwise_ne.mp h1))
  have hl2 : zs.length < 64 := by
    have := congrArg List.length hz
    simp at this h3
    omega
  unfold sortKs
  rw [strK_map]
  simp only
  rw [if_pos ⟨hl2, hn⟩]
  have e : sortU ltS zs = sortU ltS ys := sortU_one ordS (sortU_rise ordS zs) fun z => (sortU_mem ordS z zs).trans (by
    have := h2' (Sum.inr z)
    simpa using this)
  rw [e]
theorem sort_int (ys : List Int) (v : Int → W) (M : Store) (hl : ys.length < 64) : sortKs ((foldD [] (ys.map fun s => ((Sum.inl s : Key), v s))).map (·.1)) M = .ok (.d (.list ((sortU ltI ys).map .int))) M := by
  obtain ⟨h1, h2⟩ := foldD_keys (ys.map fun s => ((Sum.inl s : Key), v s)) [] (by simp)
  have h3 := (foldD_len (ys.map fun s => ((Sum.inl s : Key), v s)) []).1
  generalize hD : foldD [] (ys.map fun s => ((Sum.inl s : Key), v s)) = D at *
  have h2' : ∀ k, k ∈ D.map (·.1) ↔ ∃ s ∈ ys, Sum.inl s = k := by
    intro k
    rw [h2 k]
    simp
  obtain ⟨zs, hz⟩ : ∃ zs : List Int, D.map (·.1) = zs.map Sum.inl := by
    have : ∀ l : List Key, (∀ k ∈ l, ∃ s ∈ ys, Sum.inl s = k) → ∃ zs : List Int, l = zs.map Sum.inl := by
      intro l
      induction l with
      | nil => intro _; exact ⟨[], rfl⟩
      | cons a r ih =>
        intro h
        obtain ⟨s, _, rfl⟩ := h a (by simp)
        obtain ⟨zs, rfl⟩ := ih fun k hk => h k (by simp [hk])
        exact ⟨s :: zs, rfl⟩
    exact this _ fun k hk => (h2' k).mp hk
  rw [hz] at h1 h2' ⊢
  have hn : zs.Nodup := List.nodup_iff_pairwise_ne.mpr (List.Pairwise.of_map _ (fun a b h h2 => h (congrArg _ h2)) (List.nodup_iff_pairwise_ne.mp h1))
  have hl2 : zs.length < 64 := by
    have := congrArg List.length hz
    simp at this h3
    omega
  have e : sortU ltI zs = sortU ltI ys := sortU_one ordI (sortU_rise ordI zs) fun z => (sortU_mem ordI z zs).trans (by
    have := h2' (Sum.inl z)
    simpa using this)
  cases zs with
  | nil =>
    have : ys = [] := by
      cases ys with
      | nil => rfl
      | cons a r => exact absurd ((h2' (Sum.inl a)).mpr ⟨a, by simp, rfl⟩) (by simp)
    subst this
    unfold sortKs
    simp [strK, sortU]
  | cons a r =>
    unfold sortKs
    have : strK ((a :: r).map Sum.inl) = none := rfl
    rw [this, intK_map]
    simp only
    rw [if_pos ⟨hl2, hn⟩, e]
theorem o_sortedP (M : Store) (kws : List (Key × W)) : pSorted [.p M.length] (M ++ [.dK kws]) = sortKs (kws.map (·.1)) (M ++ [.dK kws]) := by
  unfold pSorted
  simp only [get_snoc]
/-! ### shown -/
theorem RpL.lst {k n : Nat} {xs : List PyData} (h : RpL k n xs) : Rp (k + 1) n (.list xs) := ⟨h.lay, by show PyData.depthAll xs + 1 ≤ k + 1; have := h.dep; omega, h.wei, h.shrt, h.show_⟩
/-- a word more in a list of the store -/
theorem word_step {h qw : Nat} {L : Nat} {N : Store} {ws : List W} (S : HandAt h N) (K : N[qw]? = some (.lst ws)) (hq : L ≤ qw) (hqh : qw ≠ h) (hl : ws.length ≤ 100) (e : List Ob) (z : Str) : ∃ N2, pAppend (.p qw) [.d (.str z)] (N ++ e) = .ok (.d .none) N2 ∧ N2[qw]? = some (.lst (ws ++ [.d (.str z)])) ∧ Same h L N N2 ∧ tyW N (.p qw) = some "list" := by
  have l := (List.getElem?_eq_some_iff.mp K).1
  have K' : (N ++ e)[qw]? = some (.lst ws) := by rw [List.getElem?_append_left l, K]
  have S1 := Same.snoc S e
  refine ⟨_, o_append qw ws _ _ K' (by omega), List.getElem?_set_self (by simp; omega), ?_, ty_p _ _ _ K⟩
  have S2 : Same h L N (N ++ e) := by
    refine ⟨S1.hand, S1.len, fun i h1 h2 => ?_⟩
    rw [List.getElem?_append_left (by omega)]
  exact S2.trans (Same.set S2.hand hq hqh _)
theorem rng_get {many i : Nat} {w : W} (hw : ((List.range many).map (W.d ∘ fun (i : Nat) => PyData.int i))[i]? = some w) : w = .d (.int i) := by
  rw [List.getElem?_map] at hw
  cases hk : (List.range many)[i]? with
  | none => rw [hk] at hw; cases hw
  | some k =>
    rw [hk] at hw
    cases hw
    obtain ⟨_, e⟩ := List.getElem?_eq_some_iff.mp hk
    simp at e
    rw [e]
    rfl
theorem eq_p (qw : Nat) (N : Store) (xs : List PyData) (h : N[qw]? = some (.lst (xs.map .d))) (hs : SeqAt.shaped (.list xs) = true) (he : PyData.eqv (.list xs) (.list xs) = true) : pEq (.p qw) (.d (.list xs)) N = .ok (.d (.bool true)) N := by
  have e : eqW (.p qw) (.d (.list xs)) N = some true := by
    unfold eqW
    simp only [datOf, h, dats_map, Option.map_some, hs, he, Bool.and_self, if_true]
  show retB (eqW (.p qw) (.d (.list xs)) N) N = _
  rw [e]
  rfl
end Pu
end
section
set_option linter.all false
set_option maxRecDepth 100000
set_option maxHeartbeats 4000000
/-! PuTe: a, b = x, y through a pair, for names that a block within takes. -/
namespace Pu
open PySem PySem.Spec PyProof.Rows L2
section
variable {X : Cx} {Y : Wd} {Wx : WX} {pos : Pos}
theorem Rep.tmp {F : Hp} {am : List Addr} {M : Store} {H : Hp} (rp : Rep Y F am M H) {p : Addr} {vs : List V} (hp : H p = none) : Rep Y F am M (upd H p (.tup vs)) ∧ Ext F am H F am (upd H p (.tup vs)) := by
  have hs : p ≠ Y.sa ∨ KScr Y := by
    rcases rp.sc with ⟨h, _⟩ | h
    · refine .inl fun e => ?_
      subst e
      rcases h with h | h
      · rw [hp] at h; cases h
      · simp_all
    · exact .inr h
  refine ⟨rp.side (rp.nF hp) (rp.nam hp) hs (.inl hp), ⟨fun _ _ h => h, ⟨[], by simp, fun b hb => by simp at hb⟩, fun b o h _ _ => ?_, fun b h => ?_, fun b o h => .inl h⟩⟩
  · by_cases e : b = p
    · rw [e, hp] at h; cases h
    · rw [upd_ne e]; exact h
  · by_cases e : b = p
    · exact .inl (by rw [e]; exact hp)
    · rcases h with h | ⟨ps, h⟩
      · rw [upd_ne e] at h; exact .inl h
      · rw [upd_ne e] at h; exact .inr ⟨ps, h⟩
theorem ps_tup2S (i j : Nat) {tx ty a b : Expr} {as : PAx} {pt pt2 : Pos} {kt k2 : Nat} (hc : X.calm = true) (ha : PA X [a, b] (xA Y Wx as)) (hg : PGs X [tx, ty] (gTs Y Wx prA (gsCons (gN i) (gsCons (gN j) gsNil)))) (hK : X.K = Y.K := by rfl)
    (hs : swapsWithSole [.Tuple [tx, ty] kt pt] (.Tuple [a, b] k2 pt2) pos.line X.env = pure false := by rfl) (hw : swappedStores [.Tuple [tx, ty] kt pt] (.Tuple [a, b] k2 pt2) X.env = pure none := by rfl)
    (h1 : (assignEach [.Tuple [tx, ty] kt pt] X.env).map (·.2) = [assign (.Tuple [tx, ty] kt pt) X.env] := by rfl) (hn : (assignEach [tx, ty] X.env).length = 2 := by rfl) (hst : (assignEach [tx, ty] X.env).findIdx? (·.1) = none := by rfl) :
    PS X (.Assign [.Tuple [tx, ty] kt pt] (.Tuple [a, b] k2 pt2) pos) (sT Y Wx (sPar i j as)) := (ps_asg (pe_tup ha) (pg_tup hc hg hn hst) hs hw h1).to fun D σ H h => by
  obtain ⟨F, am, M, ρ, rp, re, h⟩ := h
  refine ⟨F, am, M, ρ, rp, re, h.bindW.imp fun F1 am1 M1 ws H1 x1 rp1 h1 vs q => ?_⟩
  split at h1
  · rename_i w u
    obtain ⟨v, y, rfl, q1, q2⟩ := q.two
    refine ⟨by show 2 ≤ sizeLine; decide, fun p hp => ⟨p, [v, y], rfl, .inl (.inl upd_same), rfl, ?_⟩⟩
    obtain ⟨rp2, x2⟩ := rp1.tmp (vs := [v, y]) hp
    refine ⟨F1, am1, M1, ρ, [w, u], rp2, re.ext x1, .cons q1 (.cons q2 .nil), ?_⟩
    show Aft Y _ F1 am1 _ (.ok ((ρ.set i (some w)).set j (some u)) M1) _
    intro F2 am2 H2 x3 rp3 σ2 _ re2
    exact h1 F2 am2 H2 (x2.trans x3) rp3 σ2 re2
  · exact h1.elim
end
end Pu
end
section
set_option linter.all false
set_option maxRecDepth 100000
set_option maxHeartbeats 4000000
/-! K08s: what the defs do, in plain Lean (printed by gen.py). -/
namespace K08
open PySem PySem.Spec Pu
def subT : List (Str × Str × Bool) := [("NoAct", "NoAct", true)]
def sub (c h : Str) : Option Bool := (subT.find? fun t => decide (t.1 = c ∧ t.2.1 = h)).map (·.2.2)
def f_is_within_s : Sm := (sRet (xAnd2 (xIsi "int" (xV 0)) (xAnd2 (xNot2 (xIsi "bool" (xV 0))) (x3 pLe pLe (xV 1) (xV 0) (xV 2)))))
def f_is_within : Fn := runF 3 (f_is_within_s)
def f_is_tuple_of_s : Sm := (sRet (xAnd2 (xIsi "tuple" (xV 0)) (x2 pEq (xCall pLen (aCons (xV 0) aNil)) (xV 1))))
def f_is_tuple_of : Fn := runF 2 (f_is_tuple_of_s)
def f_is_day_s : Sm := (sRet (xFn (f_is_within) (aCons (xV 0) (aCons (xC (.int 0)) (aCons (xC (.int 1000000)) aNil)))))
def f_is_day : Fn := runF 1 (f_is_day_s)
def f_is_letters_s : Sm := (sRet (xAnd2 (xIsi "str" (xV 0)) (xAnd2 (x3 pLe pLe (xC (.int 1)) (xCall pLen (aCons (xV 0) aNil)) (xV 1)) (xCall pAll (aCons (xLc false (iW (xV 0)) (gN 2) tYesX (x2 pIn (xV 2) (xC (.str "abcdefghijklmnopqrstuvwxyz"))) [2]) aNil)))))
def f_is_letters : Fn := runF 3 (f_is_letters_s)
def f_is_name_s : Sm := (sRet (xFn (f_is_letters) (aCons (xV 0) (aCons (xC (.int 8)) aNil))))
def f_is_name : Fn := runF 1 (f_is_name_s)
def f_number_in_s : Sm := (sSeq (sIf (tOr2 (tNot2 (tE (x3 pLe pLe (xC (.int 1)) (xCall pLen (aCons (xV 0) aNil)) (xC (.int 7))))) (tNot2 (tE (xCall pAll (aCons (xLc false (iW (xV 0)) (gN 2) tYesX (x2 pIn (xV 2) (xC (.str "0123456789"))) [2]) aNil))))) (sRet (xC .none)) sNext)
  (sRet (xIf (tAnd2 (tE (x2 pEq (xCall pStr (aCons (xCall pInt (aCons (xV 0) aNil)) aNil)) (xV 0))) (tE (x2 pLe (xCall pInt (aCons (xV 0) aNil)) (xV 1)))) (xCall pInt (aCons (xV 0) aNil)) (xC .none))))
def f_number_in : Fn := runF 3 (f_number_in_s)
def f_is_mark_s : Sm := (sSeq (sIf (tOr2 (tNot2 (tE (xFn (f_is_tuple_of) (aCons (xV 0) (aCons (xC (.int 2)) aNil))))) (tNot2 (tE (xFn (f_is_within) (aCons (x2 pIx (xV 0) (xC (.int 0))) (aCons (xC (.int 0)) (aCons (xC (.int 999)) aNil))))))) (sRet (xC (.bool false))) sNext)
  (sRet (xAnd2 (xFn (f_is_within) (aCons (x2 pIx (xV 0) (xC (.int 1))) (aCons (xC (.int 0)) (aCons (x2 pSub (xC (.int 20)) (xC (.int 1))) aNil)))) (xOr2 (x2 pGt (x2 pIx (xV 0) (xC (.int 0))) (xC (.int 0))) (x2 pEq (x2 pIx (xV 0) (xC (.int 1))) (xC (.int 0)))))))
def f_is_mark : Fn := runF 1 (f_is_mark_s)
def f_mark_in_s : Sm := (sSeq (sAsg (xM "str" pSplit (xSl false (xV 0) (oSome (xC (.int 1))) oNone) (aCons (xC (.str ".")) aNil)) (gN 1))
  (sSeq (sIf (tOr2 (tE (x2 pNe (xSl false (xV 0) oNone (oSome (xC (.int 1)))) (xC (.str "@")))) (tE (x2 pNe (xCall pLen (aCons (xV 1) aNil)) (xC (.int 2))))) (sRet (xC .none)) sNext)
  (sSeq (sPar 2 3 (aCons (xFn (f_number_in) (aCons (x2 pIx (xV 1) (xC (.int 0))) (aCons (xC (.int 999)) aNil))) (aCons (xFn (f_number_in) (aCons (x2 pIx (xV 1) (xC (.int 1))) (aCons (x2 pSub (xC (.int 20)) (xC (.int 1))) aNil))) aNil)))
  (sRet (xIf (tAnd2 (tE (x2 pIsNot (xV 2) (xC .none))) (tAnd2 (tE (x2 pIsNot (xV 3) (xC .none))) (tE (xFn (f_is_mark) (aCons (xTup (aCons (xV 2) (aCons (xV 3) aNil))) aNil))))) (xTup (aCons (xV 2) (aCons (xV 3) aNil))) (xC .none))))))
def f_mark_in : Fn := runF 4 (f_mark_in_s)
def f_is_word_s : Sm := (sSeq (sIf (tE (xFn (f_is_letters) (aCons (xV 0) (aCons (xC (.int 12)) aNil)))) (sRet (xC (.bool true))) sNext)
  (sRet (xAnd2 (xIsi "str" (xV 0)) (xAnd2 (x2 pLe (xCall pLen (aCons (xV 0) aNil)) (xC (.int 12))) (x2 pIsNot (xFn (f_mark_in) (aCons (xV 0) aNil)) (xC .none))))))
def f_is_word : Fn := runF 1 (f_is_word_s)
def f_are_words_s : Sm := (sRet (xAnd2 (xIsi "tuple" (xV 0)) (xAnd2 (x2 pLe (xCall pLen (aCons (xV 0) aNil)) (xC (.int 12))) (xCall pAll (aCons (xLc false (iW (xV 0)) (gN 1) tYesX (xFn (f_is_word) (aCons (xV 1) aNil)) [1]) aNil)))))
def f_are_words : Fn := runF 2 (f_are_words_s)
def f_is_after_s : Sm := (sRet (xOr2 (x2 pIs (xV 0) (xC .none)) (xAnd2 (xFn (f_is_mark) (aCons (xV 0) aNil)) (x2 pNe (xV 0) (xC (.tuple [(.int 0), (.int 0)]))))))
def f_is_after : Fn := runF 1 (f_is_after_s)
def f_is_own_mark_s : Sm := (sRet (xAnd2 (xFn (f_is_mark) (aCons (xV 0) aNil)) (x2 pNe (xV 0) (xC (.tuple [(.int 0), (.int 0)])))))
def f_is_own_mark : Fn := runF 1 (f_is_own_mark_s)
def f_is_order_s : Sm := (sSeq (sIf (tOr2 (tNot2 (tE (xIsi "tuple" (xV 0)))) (tOr2 (tE (x2 pLt (xCall pLen (aCons (xV 0) aNil)) (xC (.int 2)))) (tNot2 (tE (xIsi "str" (x2 pIx (xV 0) (xC (.int 0)))))))) (sRet (xC (.bool false))) sNext)
  (sSeq (sAsg (x2 pIx (xV 0) (xC (.int 0))) (gN 1))
  (sSeq (sIf (tE (x2 pEq (xV 1) (xC (.str "put")))) (sSeq (sIf (tOr2 (tE (x2 pNe (xCall pLen (aCons (xV 0) aNil)) (xC (.int 5)))) (tOr2 (tNot2 (tE (xFn (f_is_mark) (aCons (x2 pIx (xV 0) (xC (.int 1))) aNil)))) (tNot2 (tE (xFn (f_is_name) (aCons (x2 pIx (xV 0) (xC (.int 2))) aNil)))))) (sRet (xC (.bool false))) sNext)
  (sRet (xAnd2 (xFn (f_are_words) (aCons (x2 pIx (xV 0) (xC (.int 3))) aNil)) (xFn (f_is_after) (aCons (x2 pIx (xV 0) (xC (.int 4))) aNil))))) sNext)
  (sSeq (sIf (tNot2 (tE (xFn (f_is_own_mark) (aCons (x2 pIx (xV 0) (xC (.int 1))) aNil)))) (sRet (xC (.bool false))) sNext)
  (sSeq (sIf (tE (x2 pEq (xV 1) (xC (.str "drop")))) (sRet (x2 pEq (xCall pLen (aCons (xV 0) aNil)) (xC (.int 2)))) sNext)
  (sSeq (sIf (tE (x2 pEq (xV 1) (xC (.str "words")))) (sRet (xAnd2 (x2 pEq (xCall pLen (aCons (xV 0) aNil)) (xC (.int 3))) (xFn (f_are_words) (aCons (x2 pIx (xV 0) (xC (.int 2))) aNil)))) sNext)
  (sSeq (sIf (tE (x2 pEq (xV 1) (xC (.str "swap")))) (sRet (xAnd2 (x2 pEq (xCall pLen (aCons (xV 0) aNil)) (xC (.int 4))) (xAnd2 (xFn (f_is_word) (aCons (x2 pIx (xV 0) (xC (.int 2))) aNil)) (xFn (f_is_word) (aCons (x2 pIx (xV 0) (xC (.int 3))) aNil))))) sNext)
  (sSeq (sIf (tE (x2 pEq (xV 1) (xC (.str "name")))) (sRet (xAnd2 (x2 pEq (xCall pLen (aCons (xV 0) aNil)) (xC (.int 3))) (xFn (f_is_name) (aCons (x2 pIx (xV 0) (xC (.int 2))) aNil)))) sNext)
  (sRet (xAnd2 (x2 pEq (xV 1) (xC (.str "move"))) (xAnd2 (x2 pEq (xCall pLen (aCons (xV 0) aNil)) (xC (.int 4))) (xAnd2 (xFn (f_is_mark) (aCons (x2 pIx (xV 0) (xC (.int 2))) aNil)) (xFn (f_is_after) (aCons (x2 pIx (xV 0) (xC (.int 3))) aNil))))))))))))))
def f_is_order : Fn := runF 2 (f_is_order_s)
def f_is_time_s : Sm := (sRet (xOr2 (xFn (f_is_day) (aCons (xV 0) aNil)) (xFn (f_is_name) (aCons (xV 0) aNil))))
def f_is_time : Fn := runF 1 (f_is_time_s)
def f_is_end_s : Sm := (sRet (xOr2 (x2 pIs (xV 0) (xC .none)) (xFn (f_is_time) (aCons (xV 0) aNil))))
def f_is_end : Fn := runF 1 (f_is_end_s)
def f_is_on_order_s : Sm := (sSeq (sIf (tOr2 (tNot2 (tE (xIsi "tuple" (xV 0)))) (tOr2 (tE (x2 pLt (xCall pLen (aCons (xV 0) aNil)) (xC (.int 2)))) (tOr2 (tNot2 (tE (xIsi "str" (x2 pIx (xV 0) (xC (.int 0)))))) (tE (x2 pNotIn (x2 pIx (xV 0) (xC (.int 0))) (xC (.tuple [(.str "void"), (.str "start"), (.str "end"), (.str "instead")]))))))) (sRet (xC (.bool false))) sNext)
  (sSeq (sIf (tOr2 (tNot2 (tE (xFn (f_is_own_mark) (aCons (x2 pIx (xV 0) (xC (.int 1))) aNil)))) (tE (x2 pGe (x2 pIx (x2 pIx (xV 0) (xC (.int 1))) (xC (.int 0))) (xV 1)))) (sRet (xC (.bool false))) sNext)
  (sSeq (sIf (tE (x2 pEq (x2 pIx (xV 0) (xC (.int 0))) (xC (.str "void")))) (sRet (x2 pEq (xCall pLen (aCons (xV 0) aNil)) (xC (.int 2)))) sNext)
  (sSeq (sIf (tE (x2 pNe (xCall pLen (aCons (xV 0) aNil)) (xC (.int 3)))) (sRet (xC (.bool false))) sNext)
  (sSeq (sIf (tE (x2 pEq (x2 pIx (xV 0) (xC (.int 0))) (xC (.str "start")))) (sRet (xFn (f_is_time) (aCons (x2 pIx (xV 0) (xC (.int 2))) aNil))) sNext)
  (sRet (xIf (tE (x2 pEq (x2 pIx (xV 0) (xC (.int 0))) (xC (.str "end")))) (xFn (f_is_end) (aCons (x2 pIx (xV 0) (xC (.int 2))) aNil)) (xFn (f_is_order) (aCons (x2 pIx (xV 0) (xC (.int 2))) aNil)))))))))
def f_is_on_order : Fn := runF 2 (f_is_on_order_s)
def f_is_provision_s : Sm := (sSeq (sIf (tOr2 (tNot2 (tE (xFn (f_is_tuple_of) (aCons (xV 0) (aCons (xC (.int 3)) aNil))))) (tOr2 (tNot2 (tE (xFn (f_is_time) (aCons (x2 pIx (xV 0) (xC (.int 1))) aNil)))) (tNot2 (tE (xFn (f_is_end) (aCons (x2 pIx (xV 0) (xC (.int 2))) aNil)))))) (sRet (xC (.bool false))) sNext)
  (sRet (xOr2 (xFn (f_is_order) (aCons (x2 pIx (xV 0) (xC (.int 0))) aNil)) (xFn (f_is_on_order) (aCons (x2 pIx (xV 0) (xC (.int 0))) (aCons (xV 1) aNil))))))
def f_is_provision : Fn := runF 2 (f_is_provision_s)
def f_is_act_s : Sm := (sSeq (sIf (tOr2 (tNot2 (tE (xFn (f_is_tuple_of) (aCons (xV 0) (aCons (xC (.int 2)) aNil))))) (tOr2 (tNot2 (tE (xFn (f_is_within) (aCons (x2 pIx (xV 0) (xC (.int 0))) (aCons (xC (.int 1)) (aCons (xC (.int 999)) aNil)))))) (tNot2 (tE (xIsi "tuple" (x2 pIx (xV 0) (xC (.int 1)))))))) (sRet (xC (.bool false))) sNext)
  (sRet (xAnd2 (x3 pLe pLe (xC (.int 1)) (xCall pLen (aCons (x2 pIx (xV 0) (xC (.int 1))) aNil)) (xC (.int 20))) (xCall pAll (aCons (xLc false (iW (x2 pIx (xV 0) (xC (.int 1)))) (gN 1) tYesX (xFn (f_is_provision) (aCons (xV 1) (aCons (x2 pIx (xV 0) (xC (.int 0))) aNil))) [1]) aNil)))))
def f_is_act : Fn := runF 2 (f_is_act_s)
def f_check_act_s : Sm := (sIf (tNot2 (tE (xFn (f_is_act) (aCons (xV 0) aNil)))) (sRaise "NoAct") sNext)
def f_check_act : Fn := runF 1 (f_check_act_s)
def f_raw_is_on_order_s : Sm := (sRet (x2 pIn (x2 pIx (x2 pIx (xV 0) (xC (.int 0))) (xC (.int 0))) (xC (.tuple [(.str "void"), (.str "start"), (.str "end"), (.str "instead")]))))
def f_raw_is_on_order : Fn := runF 1 (f_raw_is_on_order_s)
def f_marks_of_act_s : Sm := (sSeq (sExpr (xFn (f_check_act) (aCons (xV 0) aNil)))
  (sRet (xCall pTuple (aCons (xLc false (iR1 (aCons (xCall pLen (aCons (x2 pIx (xV 0) (xC (.int 1))) aNil)) aNil)) (gN 1) tYesX (xTup (aCons (x2 pIx (xV 0) (xC (.int 0))) (aCons (xV 1) aNil))) [1]) aNil))))
def f_marks_of_act : Fn := runF 2 (f_marks_of_act_s)
def f_raw_times_s : Sm := (sSeq (sAsg (xLst true aNil) (gN 1))
  (sSeq (sFor (iW (x2 pIx (xV 0) (xC (.int 1)))) (gTu 3 (gsCons (gN 2) (gsCons (gN 3) (gsCons (gN 4) gsNil)))) (sSeq (sExpr (xM "list" pExtend (xV 1) (aCons (xLst false (aCons (xV 3) (aCons (xV 4) aNil))) aNil)))
  (sIf (tE (x2 pIn (x2 pIx (xV 2) (xC (.int 0))) (xTup (aCons (xC (.str "start")) (aCons (xC (.str "end")) aNil))))) (sExpr (xM "list" pAppend (xV 1) (aCons (x2 pIx (xV 2) (xC (.int 2))) aNil))) sNext)))
  (sRet (xLc false (iW (xV 1)) (gN 5) (tE (x2 pIsNot (xV 5) (xC .none))) (xV 5) [5]))))
def f_raw_times : Fn := runF 6 (f_raw_times_s)
def f_events_in_s : Sm := (sSeq (sExpr (xFn (f_check_act) (aCons (xV 0) aNil)))
  (sRet (xCall pTuple (aCons (xCall pSorted (aCons (xDcK (iW (xFn (f_raw_times) (aCons (xV 0) aNil))) (gN 1) (tE (xIsi "str" (xV 1))) (xV 1) (xC (.bool true)) [1]) aNil)) aNil))))
def f_events_in : Fn := runF 2 (f_events_in_s)
def f_days_in_s : Sm := (sSeq (sExpr (xFn (f_check_act) (aCons (xV 0) aNil)))
  (sRet (xCall pTuple (aCons (xCall pSorted (aCons (xDcK (iW (xFn (f_raw_times) (aCons (xV 0) aNil))) (gN 1) (tNot2 (tE (xIsi "str" (xV 1)))) (xV 1) (xC (.bool true)) [1]) aNil)) aNil))))
def f_days_in : Fn := runF 2 (f_days_in_s)
def f_acts_changed_s : Sm := (sSeq (sExpr (xFn (f_check_act) (aCons (xV 0) aNil)))
  (sRet (xCall pTuple (aCons (xCall pSorted (aCons (xDcK (iW (x2 pIx (xV 0) (xC (.int 1)))) (gN 1) (tE (xFn (f_raw_is_on_order) (aCons (xV 1) aNil))) (x2 pIx (x2 pIx (x2 pIx (xV 1) (xC (.int 0))) (xC (.int 1))) (xC (.int 0))) (xC (.bool true)) [1]) aNil)) aNil))))
def f_acts_changed : Fn := runF 2 (f_acts_changed_s)
def f_on_texts_s : Sm := (sSeq (sExpr (xFn (f_check_act) (aCons (xV 0) aNil)))
  (sRet (xCall pTuple (aCons (xLc false (iEn (x2 pIx (xV 0) (xC (.int 1)))) (gTu 2 (gsCons (gN 1) (gsCons (gN 2) gsNil))) (tNot2 (tE (xFn (f_raw_is_on_order) (aCons (xV 2) aNil)))) (xV 1) [1, 2]) aNil))))
def f_on_texts : Fn := runF 3 (f_on_texts_s)
def f_shifted_s : Sm := (sRet (xIf (tOr2 (tE (x2 pIs (xV 0) (xC .none))) (tE (xIsi "str" (xV 0)))) (xV 0) (x2 (pAdd false) (xV 0) (xV 1))))
def f_shifted : Fn := runF 2 (f_shifted_s)
def f_later_by_s : Sm := (sSeq (sExpr (xFn (f_check_act) (aCons (xV 0) aNil)))
  (sSeq (sIf (tNot2 (tE (xFn (f_is_day) (aCons (xV 1) aNil)))) (sRaise "NoAct") sNext)
  (sSeq (sAsg (xLst true aNil) (gN 2))
  (sSeq (sFor (iW (x2 pIx (xV 0) (xC (.int 1)))) (gTu 3 (gsCons (gN 4) (gsCons (gN 5) (gsCons (gN 6) gsNil)))) (sSeq (sIf (tE (x2 pIn (x2 pIx (xV 4) (xC (.int 0))) (xTup (aCons (xC (.str "start")) (aCons (xC (.str "end")) aNil))))) (sAsg (x2 (pAdd false) (xSl false (xV 4) oNone (oSome (xC (.int 2)))) (xTup (aCons (xFn (f_shifted) (aCons (x2 pIx (xV 4) (xC (.int 2))) (aCons (xV 1) aNil))) aNil))) (gN 4)) sNext)
  (sExpr (xM "list" pAppend (xV 2) (aCons (xTup (aCons (xV 4) (aCons (xFn (f_shifted) (aCons (xV 5) (aCons (xV 1) aNil))) (aCons (xFn (f_shifted) (aCons (xV 6) (aCons (xV 1) aNil))) aNil)))) aNil)))))
  (sSeq (sAsg (xTup (aCons (x2 pIx (xV 0) (xC (.int 0))) (aCons (xCall pTuple (aCons (xV 2) aNil)) aNil))) (gN 3))
  (sSeq (sExpr (xFn (f_check_act) (aCons (xV 3) aNil)))
  (sRet (xV 3))))))))
def f_later_by : Fn := runF 7 (f_later_by_s)
def f_law_hand_s (ns : List Int) : Sm := (sSeq (sAsg (xLc false (iW (xScr ns 63 (xV 0))) (gN 2) tYesX (x2 pMod (xCall pInt (aCons (xCall pAbs (aCons (xCall pInt (aCons (xV 2) aNil)) aNil)) aNil)) (x2 pPow (xC (.int 10)) (xC (.int 60)))) [2]) (gN 1))
  (sRet (xLst true (aCons (xV 1) (aCons (xC (.int 0)) (aCons (xC (.int 0)) (aCons (x2 (pAdd false) (xC (.int 9059)) (x2 (pMul false) (xC (.int 11)) (xCall pLen (aCons (xV 1) aNil)))) (aCons (xC (.int 0)) aNil))))))))
def f_law_hand (ns : List Int) : Fn := runF 3 (f_law_hand_s ns)
def f_law_draw_s : Sm := (sSeq (sIf (tAnd2 (tE (x2 pEq (x2 pIx (xV 0) (xC (.int 2))) (xC (.int 0)))) (tE (x2 pLt (x2 pIx (xV 0) (xC (.int 1))) (xCall pLen (aCons (x2 pIx (xV 0) (xC (.int 0))) aNil))))) (sSeq (sAsg (x2 pIx (x2 pIx (xV 0) (xC (.int 0))) (x2 pIx (xV 0) (xC (.int 1)))) (gN 3))
  (sSeq (sAsg (x2 (pAdd false) (x2 pIx (xV 0) (xC (.int 1))) (xC (.int 1))) (gSb (xV 0) (xC (.int 1))))
  (sSeq (sAsg (x2 pMod (xCall pInt (aCons (x2 (pAdd false) (x2 (pAdd false) (x2 (pMul false) (x2 pIx (xV 0) (xC (.int 3))) (xC (.int 40692))) (x2 (pMul false) (xV 3) (xC (.int 69621)))) (xC (.int 29))) aNil)) (xC (.int 2147483629))) (gSb (xV 0) (xC (.int 3))))
  (sIf (tE (x2 pGe (xV 3) (x2 pPow (xC (.int 10)) (xC (.int 18))))) (sAsg (xV 3) (gSb (xV 0) (xC (.int 2)))) sNext)))) sNext)
  (sSeq (sIf (tE (x2 pGt (x2 pIx (xV 0) (xC (.int 2))) (xC (.int 0)))) (sSeq (sAsg (x2 pMod (xCall pInt (aCons (x2 pIx (xV 0) (xC (.int 2))) aNil)) (xV 1)) (gN 4))
  (sSeq (sAsg (x2 pDiv (x2 pIx (xV 0) (xC (.int 2))) (xV 1)) (gSb (xV 0) (xC (.int 2))))
  (sRet (xV 4)))) sNext)
  (sSeq (sAsg (x2 (pAdd false) (x2 pIx (xV 0) (xC (.int 4))) (xC (.int 1))) (gSb (xV 0) (xC (.int 4))))
  (sSeq (sAsg (x2 pMod (xCall pInt (aCons (x2 (pMul false) (xCall pInt (aCons (x2 (pAdd false) (x2 pIx (xV 0) (xC (.int 3))) (x2 (pMul false) (xC (.int 6997)) (x2 pIx (xV 0) (xC (.int 4))))) aNil)) (xC (.int 48271))) aNil)) (xC (.int 2147483647))) (gN 2))
  (sSeq (sAsg (x2 pMod (xCall pInt (aCons (x2 (pMul false) (xV 2) (x2 (pAdd false) (x2 pDiv (xV 2) (xC (.int 1009))) (xC (.int 69621)))) aNil)) (xC (.int 2147483647))) (gN 2))
  (sSeq (sAsg (x2 pMod (xCall pInt (aCons (x2 (pMul false) (xV 2) (x2 (pAdd false) (x2 pDiv (xV 2) (xC (.int 2003))) (xC (.int 40692)))) aNil)) (xC (.int 2147483563))) (gN 2))
  (sRet (x2 pMod (xCall pInt (aCons (x2 pDiv (xV 2) (xC (.int 16))) aNil)) (xV 1)))))))))
def f_law_draw : Fn := runF 5 (f_law_draw_s)
def f_law_some_s : Sm := (sRet (x2 pIx (xV 1) (xFn (f_law_draw) (aCons (xV 0) (aCons (xCall pLen (aCons (xV 1) aNil)) aNil)))))
def f_law_some : Fn := runF 2 (f_law_some_s)
def f_law_like_s : Sm := (sRet (x2 pEq (xCall pRepr (aCons (xV 0) aNil)) (xCall pRepr (aCons (xV 1) aNil))))
def f_law_like : Fn := runF 2 (f_law_like_s)
def f_law_is_on_text_s : Sm := (sRet (x2 pIn (x2 pIx (xV 0) (xC (.int 0))) (xTup (aCons (xC (.str "put")) (aCons (xC (.str "drop")) (aCons (xC (.str "words")) (aCons (xC (.str "swap")) (aCons (xC (.str "name")) (aCons (xC (.str "move")) aNil)))))))))
def f_law_is_on_text : Fn := runF 1 (f_law_is_on_text_s)
def f_law_when_s : Sm := (sSeq (sIf (tE (x2 pEq (xFn (f_law_draw) (aCons (xV 0) (aCons (xC (.int 3)) aNil))) (xC (.int 0)))) (sRet (xFn (f_law_some) (aCons (xV 0) (aCons (xLst false (aCons (xC (.str "x")) (aCons (xC (.str "y")) (aCons (xC (.str "zz")) (aCons (xC (.str "abcdefgh")) (aCons (xC (.str "abcdefgi")) (aCons (xC (.str "a")) aNil))))))) aNil)))) sNext)
  (sRet (xFn (f_law_some) (aCons (xV 0) (aCons (xLst false (aCons (xC (.int 0)) (aCons (xC (.int 1)) (aCons (xC (.int 2)) (aCons (xC (.int 9)) (aCons (xC (.int 10)) (aCons (xC (.int 11)) (aCons (xC (.int 99)) (aCons (xC (.int 100)) (aCons (xC (.int 1000)) (aCons (xC (.int 999999)) (aCons (x2 pPow (xC (.int 10)) (xC (.int 6))) (aCons (xFn (f_law_draw) (aCons (xV 0) (aCons (x2 pPow (xC (.int 10)) (xC (.int 6))) aNil))) aNil))))))))))))) aNil)))))
def f_law_when : Fn := runF 1 (f_law_when_s)
def f_law_on_text_s : Sm := (sSeq (sAsg (xLst false (aCons (xTup (aCons (xC (.str "put")) (aCons (xTup (aCons (xC (.int 0)) (aCons (xC (.int 0)) aNil))) (aCons (xC (.str "gate")) (aCons (xTup (aCons (xC (.str "no")) aNil)) (aCons (xC .none) aNil)))))) (aCons (xTup (aCons (xC (.str "drop")) (aCons (xV 1) aNil))) (aCons (xTup (aCons (xC (.str "words")) (aCons (xV 1) (aCons (xTup (aCons (xC (.str "may")) (aCons (xC (.str "@10.1")) aNil))) aNil)))) aNil)))) (gN 2))
  (sRet (xFn (f_law_some) (aCons (xV 0) (aCons (x2 (pAdd false) (xV 2) (xLst false (aCons (xTup (aCons (xC (.str "swap")) (aCons (xV 1) (aCons (xC (.str "no")) (aCons (xC (.str "may")) aNil))))) (aCons (xTup (aCons (xC (.str "name")) (aCons (xV 1) (aCons (xC (.str "b")) aNil)))) (aCons (xTup (aCons (xC (.str "move")) (aCons (xV 1) (aCons (xTup (aCons (xC (.int 1)) (aCons (xC (.int 10)) aNil))) (aCons (xC .none) aNil))))) aNil))))) aNil)))))
def f_law_on_text : Fn := runF 3 (f_law_on_text_s)
def f_law_provided_s : Sm := (sSeq (sAsg (xLc false (iW (xLst false (aCons (xC (.int 1)) (aCons (xC (.int 2)) (aCons (xC (.int 9)) (aCons (xC (.int 10)) (aCons (xC (.int 11)) (aCons (xC (.int 99)) (aCons (xC (.int 100)) (aCons (xC (.int 101)) (aCons (xC (.int 998)) aNil))))))))))) (gN 5) (tE (x2 pLt (xV 5) (xV 1))) (xV 5) [5]) (gN 2))
  (sSeq (sAsg (xTup (aCons (xFn (f_law_some) (aCons (xV 0) (aCons (xV 2) aNil))) (aCons (xFn (f_law_draw) (aCons (xV 0) (aCons (xC (.int 20)) aNil))) aNil))) (gN 3))
  (sSeq (sAsg (xLst true (aCons (xTup (aCons (xC (.str "void")) (aCons (xV 3) aNil))) (aCons (xTup (aCons (xC (.str "start")) (aCons (xV 3) (aCons (xFn (f_law_when) (aCons (xV 0) aNil)) aNil)))) (aCons (xTup (aCons (xC (.str "end")) (aCons (xV 3) (aCons (xFn (f_law_some) (aCons (xV 0) (aCons (xLst false (aCons (xC .none) (aCons (xFn (f_law_when) (aCons (xV 0) aNil)) aNil))) aNil))) aNil)))) aNil)))) (gN 4))
  (sSeq (sAsg (x2 (pAdd true) (xV 4) (xLst false (aCons (xTup (aCons (xC (.str "instead")) (aCons (xV 3) (aCons (xFn (f_law_on_text) (aCons (xV 0) (aCons (xV 3) aNil))) aNil)))) (aCons (xFn (f_law_on_text) (aCons (xV 0) (aCons (xTup (aCons (xV 1) (aCons (xC (.int 0)) aNil))) aNil))) aNil)))) (gN 4))
  (sSeq (sExpr (xM "list" pAppend (xV 4) (aCons (xFn (f_law_on_text) (aCons (xV 0) (aCons (xV 3) aNil))) aNil)))
  (sRet (xTup (aCons (xFn (f_law_some) (aCons (xV 0) (aCons (xV 4) aNil))) (aCons (xFn (f_law_when) (aCons (xV 0) aNil)) (aCons (xFn (f_law_some) (aCons (xV 0) (aCons (xLst false (aCons (xC .none) (aCons (xFn (f_law_when) (aCons (xV 0) aNil)) (aCons (xC .none) aNil)))) aNil))) aNil))))))))))
def f_law_provided : Fn := runF 6 (f_law_provided_s)
def f_law_times_s : Sm := (sSeq (sAsg (xLst true aNil) (gN 1))
  (sSeq (sFor (iW (x2 pIx (xV 0) (xC (.int 1)))) (gTu 3 (gsCons (gN 2) (gsCons (gN 3) (gsCons (gN 4) gsNil)))) (sSeq (sExpr (xM "list" pExtend (xV 1) (aCons (x2 (pAdd false) (xLst false (aCons (xV 3) aNil)) (xIf (tE (x2 pIs (xV 4) (xC .none))) (xLst false aNil) (xLst false (aCons (xV 4) aNil)))) aNil)))
  (sIf (tAnd2 (tE (x2 pIn (x2 pIx (xV 2) (xC (.int 0))) (xTup (aCons (xC (.str "start")) (aCons (xC (.str "end")) aNil))))) (tE (x2 pIsNot (x2 pIx (xV 2) (xC (.int 2))) (xC .none)))) (sExpr (xM "list" pAppend (xV 1) (aCons (x2 pIx (xV 2) (xC (.int 2))) aNil))) sNext)))
  (sRet (xV 1))))
def f_law_times : Fn := runF 5 (f_law_times_s)
def f_law_numbers_s : Sm := (sSeq (sAsg (xLst false aNil) (gN 1))
  (sSeq (sFor (iW (xV 0)) (gN 2) (sSeq (sAsg (xCall pSumA (aCons (xLc false (iW (xV 1)) (gN 4) tYesX (xCall pInt (aCons (x2 pLt (xV 4) (xV 2)) aNil)) [4]) aNil)) (gN 3))
  (sIf (tOr2 (tE (x2 pEq (xV 3) (xCall pLen (aCons (xV 1) aNil)))) (tE (x2 pNe (x2 pIx (xV 1) (xV 3)) (xV 2)))) (sAsg (x2 (pAdd false) (x2 (pAdd false) (xSl false (xV 1) oNone (oSome (xV 3))) (xLst false (aCons (xV 2) aNil))) (xSl false (xV 1) (oSome (xV 3)) oNone)) (gN 1)) sNext)))
  (sRet (xCall pTuple (aCons (xV 1) aNil)))))
def f_law_numbers : Fn := runF 5 (f_law_numbers_s)
def f_law_is_told_right_s : Sm := (sSeq (sPar 6 7 (aCons (xFn (f_law_times) (aCons (xV 0) aNil)) (aCons (x2 pIx (xV 0) (xC (.int 0))) aNil)))
  (sSeq (sAsg (xFn (f_law_numbers) (aCons (xLc false (iW (xV 6)) (gN 8) (tNot2 (tE (xIsi "str" (xV 8)))) (xV 8) [8]) aNil)) (gN 1))
  (sSeq (sAsg (xCall pTuple (aCons (xSortSet (xLc false (iW (xV 6)) (gN 8) (tE (xIsi "str" (xV 8))) (xV 8) [8])) aNil)) (gN 2))
  (sSeq (sAsg (xFn (f_law_numbers) (aCons (xLc false (iW (x2 pIx (xV 0) (xC (.int 1)))) (gTu 3 (gsCons (gN 9) (gsCons (gN 10) (gsCons (gN 11) gsNil)))) (tNot2 (tE (xFn (f_law_is_on_text) (aCons (xV 9) aNil)))) (x2 pIx (x2 pIx (xV 9) (xC (.int 1))) (xC (.int 0))) [9, 10, 11]) aNil)) (gN 3))
  (sSeq (sAsg (xCall pTuple (aCons (xLc false (iEn (x2 pIx (xV 0) (xC (.int 1)))) (gTu 2 (gsCons (gN 12) (gsCons (gN 8) gsNil))) (tE (xFn (f_law_is_on_text) (aCons (x2 pIx (xV 8) (xC (.int 0))) aNil))) (xV 12) [12, 8]) aNil)) (gN 4))
  (sSeq (sAsg (xLst false (aCons (xFn (f_marks_of_act) (aCons (xV 0) aNil)) (aCons (xFn (f_events_in) (aCons (xV 0) aNil)) (aCons (xFn (f_days_in) (aCons (xV 0) aNil)) (aCons (xFn (f_acts_changed) (aCons (xV 0) aNil)) (aCons (xFn (f_on_texts) (aCons (xV 0) aNil)) aNil)))))) (gN 5))
  (sRet (xFn (f_law_like) (aCons (xV 5) (aCons (xLst false (aCons (xCall pTuple (aCons (xLc false (iR1 (aCons (xCall pLen (aCons (x2 pIx (xV 0) (xC (.int 1))) aNil)) aNil)) (gN 12) tYesX (xTup (aCons (xV 7) (aCons (xV 12) aNil))) [12]) aNil)) (aCons (xV 2) (aCons (xV 1) (aCons (xV 3) (aCons (xV 4) aNil)))))) aNil))))))))))
def f_law_is_told_right : Fn := runF 13 (f_law_is_told_right_s)
def f_law_later_s : Sm := (sRet (xIf (tOr2 (tE (x2 pIs (xV 0) (xC .none))) (tE (xIsi "str" (xV 0)))) (xV 0) (x2 (pAdd false) (xV 0) (xV 1))))
def f_law_later : Fn := runF 2 (f_law_later_s)
def f_law_moved_s : Sm := (sSeq (sAsg (xLst true aNil) (gN 2))
  (sSeq (sFor (iW (x2 pIx (xV 0) (xC (.int 1)))) (gTu 3 (gsCons (gN 3) (gsCons (gN 4) (gsCons (gN 5) gsNil)))) (sSeq (sIf (tE (x2 pIn (x2 pIx (xV 3) (xC (.int 0))) (xTup (aCons (xC (.str "start")) (aCons (xC (.str "end")) aNil))))) (sAsg (x2 (pAdd false) (xSl false (xV 3) oNone (oSome (xC (.int 2)))) (xTup (aCons (xFn (f_law_later) (aCons (x2 pIx (xV 3) (xC (.int 2))) (aCons (xV 1) aNil))) aNil))) (gN 3)) sNext)
  (sExpr (xM "list" pAppend (xV 2) (aCons (xTup (aCons (xV 3) (aCons (xFn (f_law_later) (aCons (xV 4) (aCons (xV 1) aNil))) (aCons (xFn (f_law_later) (aCons (xV 5) (aCons (xV 1) aNil))) aNil)))) aNil)))))
  (sRet (xTup (aCons (x2 pIx (xV 0) (xC (.int 0))) (aCons (xCall pTuple (aCons (xV 2) aNil)) aNil))))))
def f_law_moved : Fn := runF 6 (f_law_moved_s)
def f_law_is_later_right_s : Sm := (sSeq (sAsg (xCall pMax (aCons (x2 (pAdd false) (xLst false (aCons (xC (.int 0)) aNil)) (xLc false (iW (xFn (f_law_times) (aCons (xV 1) aNil))) (gN 6) (tNot2 (tE (xIsi "str" (xV 6)))) (xV 6) [6])) aNil)) (gN 2))
  (sSeq (sAsg (x2 pSub (x2 pPow (xC (.int 10)) (xC (.int 6))) (xV 2)) (gN 3))
  (sSeq (sFor (iW (xLst false (aCons (xC (.int 0)) (aCons (xV 3) (aCons (x2 (pAdd false) (xV 3) (xC (.int 1))) (aCons (xC (.int 1)) (aCons (xFn (f_law_draw) (aCons (xV 0) (aCons (x2 (pAdd false) (xV 3) (xC (.int 1))) aNil))) (aCons (xFn (f_law_some) (aCons (xV 0) (aCons (xLst false (aCons (xC (.int 9)) (aCons (xC (.int 90)) (aCons (xC (.int 900)) (aCons (x2 pPow (xC (.int 10)) (xC (.int 6))) aNil))))) aNil))) aNil)))))))) (gN 4) (sIf (tOr2 (tE (x2 pGt (x2 (pAdd false) (xV 2) (xV 4)) (x2 pPow (xC (.int 10)) (xC (.int 6))))) (tE (x2 pGt (xV 4) (x2 pPow (xC (.int 10)) (xC (.int 6)))))) (sIf (tE (x2 pNe (xWord sub [("NoAct", "act"), ("LawError", "other")] "let" (xFn (f_later_by) (aCons (xV 1) (aCons (xV 4) aNil)))) (xC (.str "act")))) (sRet (xC (.bool false))) sNext) (sIf (tOr2 (tNot2 (tE (xFn (f_law_like) (aCons (xFn (f_later_by) (aCons (xV 1) (aCons (xV 4) aNil))) (aCons (xFn (f_law_moved) (aCons (xV 1) (aCons (xV 4) aNil))) aNil))))) (tE (x2 pIsNot (xFn (f_is_act) (aCons (xFn (f_later_by) (aCons (xV 1) (aCons (xV 4) aNil))) aNil)) (xC (.bool true))))) (sRet (xC (.bool false))) sNext)))
  (sSeq (sAsg (xFn (f_law_some) (aCons (xV 0) (aCons (xLst false (aCons (xNeg (xC (.int 1))) (aCons (x2 (pAdd false) (x2 pPow (xC (.int 10)) (xC (.int 6))) (xC (.int 1))) (aCons (xC (.bool true)) (aCons (xC .none) (aCons (xC (.str "1")) (aCons (xTup (aCons (xC (.int 1)) aNil)) aNil))))))) aNil))) (gN 5))
  (sRet (x2 pEq (xWord sub [("NoAct", "act"), ("LawError", "other")] "let" (xFn (f_later_by) (aCons (xV 1) (aCons (xV 5) aNil)))) (xC (.str "act"))))))))
def f_law_is_later_right : Fn := runF 7 (f_law_is_later_right_s)
def f_law_are_refused_s : Sm := (sSeq (sAsg (xV 1) (gTu 2 (gsCons (gN 5) (gsCons (gN 6) gsNil))))
  (sSeq (sAsg (xLst false (aCons (xC .none) (aCons (xCall (pList false) (aCons (xV 1) aNil)) (aCons (xTup (aCons (xV 5) aNil)) (aCons (xTup (aCons (xV 5) (aCons (xTup aNil) aNil))) (aCons (xTup (aCons (xV 5) (aCons (xCall (pList false) (aCons (xV 6) aNil)) aNil))) (aCons (xTup (aCons (xC (.int 0)) (aCons (xV 6) aNil))) (aCons (xTup (aCons (xC (.int 1000)) (aCons (xV 6) aNil))) aNil)))))))) (gN 2))
  (sSeq (sAsg (x2 (pAdd false) (xV 2) (xLst false (aCons (xTup (aCons (xV 5) (aCons (x2 (pMul false) (xSl false (xV 6) oNone (oSome (xC (.int 1)))) (xC (.int 21))) aNil))) (aCons (xTup (aCons (xV 5) (aCons (x2 (pAdd false) (xV 6) (xTup (aCons (xC .none) aNil))) aNil))) (aCons (xTup (aCons (xC (.int 1)) (aCons (xTup (aCons (xTup (aCons (xTup (aCons (xC (.str "void")) (aCons (xTup (aCons (xC (.int 1)) (aCons (xC (.int 0)) aNil))) aNil))) (aCons (xC (.int 0)) (aCons (xC .none) aNil)))) aNil)) aNil))) aNil))))) (gN 2))
  (sSeq (sAsg (xFn (f_law_some) (aCons (xV 0) (aCons (xV 2) aNil))) (gN 3))
  (sSeq (sAsg (xLst true (aCons (xWord sub [("NoAct", "act"), ("LawError", "other")] "let" (xFn (f_marks_of_act) (aCons (xV 3) aNil))) aNil)) (gN 4))
  (sSeq (sExpr (xM "list" pAppend (xV 4) (aCons (xWord sub [("NoAct", "act"), ("LawError", "other")] "let" (xFn (f_events_in) (aCons (xV 3) aNil))) aNil)))
  (sSeq (sExpr (xM "list" pAppend (xV 4) (aCons (xWord sub [("NoAct", "act"), ("LawError", "other")] "let" (xFn (f_days_in) (aCons (xV 3) aNil))) aNil)))
  (sSeq (sExpr (xM "list" pAppend (xV 4) (aCons (xWord sub [("NoAct", "act"), ("LawError", "other")] "let" (xFn (f_acts_changed) (aCons (xV 3) aNil))) aNil)))
  (sSeq (sExpr (xM "list" pAppend (xV 4) (aCons (xWord sub [("NoAct", "act"), ("LawError", "other")] "let" (xFn (f_on_texts) (aCons (xV 3) aNil))) aNil)))
  (sSeq (sExpr (xM "list" pAppend (xV 4) (aCons (xWord sub [("NoAct", "act"), ("LawError", "other")] "let" (xFn (f_later_by) (aCons (xV 3) (aCons (xC (.int 0)) aNil)))) aNil)))
  (sRet (xAnd2 (x2 pEq (xV 4) (x2 (pMul false) (xLst false (aCons (xC (.str "act")) aNil)) (xC (.int 6)))) (x2 pIs (xFn (f_is_act) (aCons (xV 3) aNil)) (xC (.bool false)))))))))))))))
def f_law_are_refused : Fn := runF 7 (f_law_are_refused_s)
def f_law_s (ns : List Int) : Sm := (sSeq (sAsg (xFn (f_law_hand ns) (aCons (xV 0) aNil)) (gN 1))
  (sSeq (sFor (iR1 (aCons (xC (.int 4)) aNil)) (gN 2) (sSeq (sAsg (xFn (f_law_some) (aCons (xV 1) (aCons (xLst false (aCons (xC (.int 2)) (aCons (xC (.int 10)) (aCons (xC (.int 11)) (aCons (xC (.int 100)) (aCons (xC (.int 102)) (aCons (xC (.int 999)) aNil))))))) aNil))) (gN 3))
  (sSeq (sAsg (xTup (aCons (xV 3) (aCons (xCall pTuple (aCons (xLc false (iR1 (aCons (xFn (f_law_some) (aCons (xV 1) (aCons (xLst false (aCons (xC (.int 1)) (aCons (xC (.int 2)) (aCons (xC (.int 11)) (aCons (xC (.int 19)) (aCons (xC (.int 20)) (aCons (xC (.int 20)) aNil))))))) aNil))) aNil)) (gN 5) tYesX (xFn (f_law_provided) (aCons (xV 1) (aCons (xV 3) aNil))) [5]) aNil)) aNil))) (gN 4))
  (sSeq (sIf (tOr2 (tE (x2 pIsNot (xFn (f_is_act) (aCons (xV 4) aNil)) (xC (.bool true)))) (tNot2 (tE (xFn (f_law_is_told_right) (aCons (xV 4) aNil))))) (sRet (xC (.bool false))) sNext)
  (sIf (tOr2 (tNot2 (tE (xFn (f_law_is_later_right) (aCons (xV 1) (aCons (xV 4) aNil))))) (tNot2 (tE (xFn (f_law_are_refused) (aCons (xV 1) (aCons (xV 4) aNil)))))) (sRet (xC (.bool false))) sNext)))))
  (sRet (xC (.bool true)))))
def f_law (ns : List Int) : Fn := runF 6 (f_law_s ns)
end K08
end
section
set_option linter.all false
set_option maxRecDepth 100000
set_option maxHeartbeats 4000000
/-! K08d: drawing from the hand. -/
namespace K08
open PySem PySem.Spec Pu
def drawA : Sm := (sIf (tAnd2 (tE (x2 pEq (x2 pIx (xV 0) (xC (.int 2))) (xC (.int 0)))) (tE (x2 pLt (x2 pIx (xV 0) (xC (.int 1))) (xCall pLen (aCons (x2 pIx (xV 0) (xC (.int 0))) aNil))))) (sSeq (sAsg (x2 pIx (x2 pIx (xV 0) (xC (.int 0))) (x2 pIx (xV 0) (xC (.int 1)))) (gN 3))
  (sSeq (sAsg (x2 (pAdd false) (x2 pIx (xV 0) (xC (.int 1))) (xC (.int 1))) (gSb (xV 0) (xC (.int 1))))
  (sSeq (sAsg (x2 pMod (xCall pInt (aCons (x2 (pAdd false) (x2 (pAdd false) (x2 (pMul false) (x2 pIx (xV 0) (xC (.int 3))) (xC (.int 40692))) (x2 (pMul false) (xV 3) (xC (.int 69621)))) (xC (.int 29))) aNil)) (xC (.int 2147483629))) (gSb (xV 0) (xC (.int 3))))
  (sIf (tE (x2 pGe (xV 3) (x2 pPow (xC (.int 10)) (xC (.int 18))))) (sAsg (xV 3) (gSb (xV 0) (xC (.int 2)))) sNext)))) sNext)
def drawT : Sm := (sSeq (sIf (tE (x2 pGt (x2 pIx (xV 0) (xC (.int 2))) (xC (.int 0)))) (sSeq (sAsg (x2 pMod (xCall pInt (aCons (x2 pIx (xV 0) (xC (.int 2))) aNil)) (xV 1)) (gN 4))
  (sSeq (sAsg (x2 pDiv (x2 pIx (xV 0) (xC (.int 2))) (xV 1)) (gSb (xV 0) (xC (.int 2))))
  (sRet (xV 4)))) sNext)
  (sSeq (sAsg (x2 (pAdd false) (x2 pIx (xV 0) (xC (.int 4))) (xC (.int 1))) (gSb (xV 0) (xC (.int 4))))
  (sSeq (sAsg (x2 pMod (xCall pInt (aCons (x2 (pMul false) (xCall pInt (aCons (x2 (pAdd false) (x2 pIx (xV 0) (xC (.int 3))) (x2 (pMul false) (xC (.int 6997)) (x2 pIx (xV 0) (xC (.int 4))))) aNil)) (xC (.int 48271))) aNil)) (xC (.int 2147483647))) (gN 2))
  (sSeq (sAsg (x2 pMod (xCall pInt (aCons (x2 (pMul false) (xV 2) (x2 (pAdd false) (x2 pDiv (xV 2) (xC (.int 1009))) (xC (.int 69621)))) aNil)) (xC (.int 2147483647))) (gN 2))
  (sSeq (sAsg (x2 pMod (xCall pInt (aCons (x2 (pMul false) (xV 2) (x2 (pAdd false) (x2 pDiv (xV 2) (xC (.int 2003))) (xC (.int 40692)))) aNil)) (xC (.int 2147483563))) (gN 2))
  (sRet (x2 pMod (xCall pInt (aCons (x2 pDiv (xV 2) (xC (.int 16))) aNil)) (xV 1))))))))
theorem draw_split : f_law_draw_s = sSeq drawA drawT := rfl

theorem drawT_ok {h : Nat} {M : Store} {cs : List Int} {p : Nat} {g m n many : Int} {x y z : Option W} (hM : M[h]? = some (.lst [.d (.list (cs.map .int)), .d (.int p), .d (.int g), .d (.int m), .d (.int n)])) (hm : 0 < many) (hm2 : many < 1073741824) :
    ∃ d M', drawT [some (.p h), some (.d (.int many)), x, y, z] M = .ok (.rt (.d (.int d))) M' ∧ 0 ≤ d ∧ d < many ∧ HandAt h M' ∧ M'.length = M.length ∧ ∀ i, i ≠ h → M'[i]? = M[i]? := by
  have hl : h < M.length := (List.getElem?_eq_some_iff.mp hM).1
  have gs : ∀ v, (M.set h v)[h]? = some v := fun v => List.getElem?_set_self hl
  by_cases hg : 0 < g
  · refine ⟨g.fmod many, M.set h (.lst [.d (.list (cs.map .int)), .d (.int p), .d (.int (g.fdiv many)), .d (.int m), .d (.int n)]), ?_, (fmod_rng g hm).1, (fmod_rng g hm).2, ?_, by simp, fun i hi => by rw [List.getElem?_set_ne (fun e => hi e.symm)]⟩
    · simp [drawT, o_ixP, o_setP, hM, hg, o_mod _ _ _ (okMod_of g hm), o_div _ _ _ (okDiv_of g hm hm2)]
    · exact ⟨cs, p, g.fdiv many, m, n, by rw [List.getElem?_set_self hl]⟩
  · let n1 := n + 1
    let a1 := ((m + 6997 * n1) * 48271).fmod 2147483647
    let a2 := (a1 * (a1.fdiv 1009 + 69621)).fmod 2147483647
    let a3 := (a2 * (a2.fdiv 2003 + 40692)).fmod 2147483563
    have h1 := fmod_rng ((m + 6997 * n1) * 48271) (many := 2147483647) (by omega)
    have h2 := fmod_rng (a1 * (a1.fdiv 1009 + 69621)) (many := 2147483647) (by omega)
    refine ⟨(a3.fdiv 16).fmod many, M.set h (.lst [.d (.list (cs.map .int)), .d (.int p), .d (.int g), .d (.int m), .d (.int n1)]), ?_, (fmod_rng _ hm).1, (fmod_rng _ hm).2, ?_, by simp, fun i hi => by rw [List.getElem?_set_ne (fun e => hi e.symm)]⟩
    · have q1 := fun M => o_mul M 6997 n1 (okMul_l _ (by omega) (by omega))
      have q2 := fun M => o_mul M (m + 6997 * n1) 48271 (okMul_r _ (by omega) (by omega))
      have q3 := fun M => o_mod M ((m + 6997 * n1) * 48271) 2147483647 (okMod_of _ (by omega))
      have q4 := fun M => o_div M a1 1009 (okDiv_of _ (by omega) (by omega))
      have q5 := fun M => o_mul M a1 (a1.fdiv 1009 + 69621) (okMul_l _ h1.1 (by have := h1.2; omega))
      have q6 := fun M => o_mod M (a1 * (a1.fdiv 1009 + 69621)) 2147483647 (okMod_of _ (by omega))
      have q7 := fun M => o_div M a2 2003 (okDiv_of _ (by omega) (by omega))
      have q8 := fun M => o_mul M a2 (a2.fdiv 2003 + 40692) (okMul_l _ h2.1 (by have := h2.2; omega))
      have q9 := fun M => o_mod M (a2 * (a2.fdiv 2003 + 40692)) 2147483563 (okMod_of _ (by omega))
      have q10 := fun M => o_div M a3 16 (okDiv_of _ (by omega) (by omega))
      have q11 := fun M => o_mod M (a3.fdiv 16) many (okMod_of _ hm)
      change ∀ M, pMod (.d (.int ((m + 6997 * n1) * 48271))) (.d (.int 2147483647)) M = .ok (.d (.int a1)) M at q3
      change ∀ M, pMod (.d (.int (a1 * (a1.fdiv 1009 + 69621)))) (.d (.int 2147483647)) M = .ok (.d (.int a2)) M at q6
      change ∀ M, pMod (.d (.int (a2 * (a2.fdiv 2003 + 40692)))) (.d (.int 2147483563)) M = .ok (.d (.int a3)) M at q9
      have e1 : n + 1 = n1 := rfl
      clear_value a3 a2 a1 n1
      simp [drawT, o_ixP, o_setP, hM, hg, gs, e1, q1, q2, q3, q4, q5, q6, q7, q8, q9, q10, q11]
    · exact ⟨cs, p, g, m, n1, by rw [List.getElem?_set_self hl]⟩
theorem drawA_ok {h : Nat} {M : Store} {many : Int} (H : HandAt h M) : ∃ (cs : List Int) (p : Nat) (g m n : Int) (y : Option W) (M' : Store), drawA [some (.p h), some (.d (.int many)), none, none, none] M = .ok (.nx [some (.p h), some (.d (.int many)), none, y, none]) M' ∧
    M'[h]? = some (.lst [.d (.list (cs.map .int)), .d (.int p), .d (.int g), .d (.int m), .d (.int n)]) ∧ M'.length = M.length ∧ ∀ i, i ≠ h → M'[i]? = M[i]? := by
  have hl := H.lt
  have gs : ∀ v, (M.set h v)[h]? = some v := fun v => List.getElem?_set_self hl
  obtain ⟨cs, p, g, m, n, hM⟩ := H
  by_cases hg : g = 0
  · by_cases hp : p < cs.length
    · have hp' : (p : Int) < cs.length := by omega
      let m1 := (m * 40692 + cs[p] * 69621 + 29).fmod 2147483629
      have i0 := fun M => o_ixl (cs.map .int) p (.int cs[p]) M (by rw [List.getElem?_map, List.getElem?_eq_getElem hp]; rfl)
      have q1 := fun M => o_mul M m 40692 (okMul_r _ (by omega) (by omega))
      have q2 := fun M => o_mul M cs[p] 69621 (okMul_r _ (by omega) (by omega))
      have q3 := fun M => o_mod M (m * 40692 + cs[p] * 69621 + 29) 2147483629 (okMod_of _ (by omega))
      change ∀ M, pMod (.d (.int (m * 40692 + cs[p] * 69621 + 29))) (.d (.int 2147483629)) M = .ok (.d (.int m1)) M at q3
      have q4 := fun M => o_pow M 10 18 (okPow_10 18 (by omega) (by omega))
      clear_value m1
      by_cases hc : (10 : Int) ^ (18 : Int).toNat ≤ cs[p]
      · refine ⟨cs, p + 1, cs[p], m1, n, some (.d (.int cs[p])), M.set h (.lst [.d (.list (cs.map .int)), .d (.int ((p : Int) + 1)), .d (.int cs[p]), .d (.int m1), .d (.int n)]), ?_, by rw [List.getElem?_set_self hl]; rfl, by simp, fun i hi => by rw [List.getElem?_set_ne (fun e => hi e.symm)]⟩
        have hc' : decide ((10 : Int) ^ (18 : Int).toNat ≤ cs[p]) = true := decide_eq_true hc
        generalize (10 : Int) ^ (18 : Int).toNat = T at *
        simp [drawA, o_ixP, o_setP, hM, hg, gs, hp', i0, q1, q2, q3, q4, hc]
      · refine ⟨cs, p + 1, 0, m1, n, some (.d (.int cs[p])), M.set h (.lst [.d (.list (cs.map .int)), .d (.int ((p : Int) + 1)), .d (.int 0), .d (.int m1), .d (.int n)]), ?_, by rw [List.getElem?_set_self hl]; rfl, by simp, fun i hi => by rw [List.getElem?_set_ne (fun e => hi e.symm)]⟩
        generalize (10 : Int) ^ (18 : Int).toNat = T at *
        simp [drawA, o_ixP, o_setP, hM, hg, gs, hp', i0, q1, q2, q3, q4, hc]
    · have hp' : ¬ (p : Int) < cs.length := by omega
      exact ⟨cs, p, g, m, n, none, M, by simp [drawA, o_ixP, hM, hg, hp'], hM, rfl, fun _ _ => rfl⟩
  · exact ⟨cs, p, g, m, n, none, M, by simp [drawA, o_ixP, hM, hg], hM, rfl, fun _ _ => rfl⟩
/-- a draw: some number below the bound; nothing else of the store is changed -/
theorem draw_ok {h : Nat} {M : Store} {many : Int} (H : HandAt h M) (hm : 0 < many) (hm2 : many < 1073741824) : ∃ d M', f_law_draw [.p h, .d (.int many)] M = .ok (.d (.int d)) M' ∧ 0 ≤ d ∧ d < many ∧ Same h M.length M M' ∧ M'.length = M.length := by
  obtain ⟨cs, p, g, m, n, y, M1, e1, h1, l1, s1⟩ := drawA_ok (many := many) H
  obtain ⟨d, M2, e2, d1, d2, H2, l2, s2⟩ := drawT_ok (x := none) (y := y) (z := none) h1 hm hm2
  refine ⟨d, M2, ?_, d1, d2, ⟨H2, by omega, fun i _ hi => by rw [s2 i hi, s1 i hi]⟩, by omega⟩
  unfold f_law_draw
  rw [draw_split]
  simp [startE, e1, e2]
/-- one of a list -/
theorem some_ok {h : Nat} {M : Store} {xs : List PyData} (H : HandAt h M) (h0 : 0 < xs.length) (hm : xs.length < 100000) : ∃ x M', f_law_some [.p h, .d (.list xs)] M = .ok (.d x) M' ∧ x ∈ xs ∧ Same h M.length M M' := by
  obtain ⟨d, M1, e1, d1, d2, S, _⟩ := draw_ok (many := (xs.length : Int)) H (by omega) (by omega)
  have hd : d.toNat < xs.length := by omega
  have e : d = (d.toNat : Int) := by omega
  refine ⟨xs[d.toNat], M1, ?_, List.getElem_mem hd, S⟩
  have i0 := fun M => o_ixl xs d.toNat _ M (List.getElem?_eq_getElem hd)
  rw [← e] at i0
  simp [f_law_some, f_law_some_s, startE, e1, i0]
theorem someP_ok {h q : Nat} {M : Store} {xs : List PyData} (H : HandAt h M) (hq : M[q]? = some (.lst (xs.map .d))) (hqh : q ≠ h) (h0 : 0 < xs.length) (hm : xs.length < 100000) : ∃ x M', f_law_some [.p h, .p q] M = .ok (.d x) M' ∧ x ∈ xs ∧ Same h M.length M M' := by
  obtain ⟨d, M1, e1, d1, d2, S, _⟩ := draw_ok (many := (xs.length : Int)) H (by omega) (by omega)
  have hd : d.toNat < xs.length := by omega
  have e : d = (d.toNat : Int) := by omega
  refine ⟨xs[d.toNat], M1, ?_, List.getElem_mem hd, S⟩
  have hq1 : M1[q]? = some (.lst (xs.map .d)) := by rw [S.eq q (List.getElem?_eq_some_iff.mp hq).1 hqh]; exact hq
  have i0 := o_ixp q d.toNat (xs.map .d) (.d xs[d.toNat]) M1 hq1 (by rw [List.getElem?_map, List.getElem?_eq_getElem hd]; rfl)
  rw [← e] at i0
  have l0 := o_len_p q _ M hq
  rw [List.length_map] at l0
  simp [f_law_some, f_law_some_s, startE, l0, e1, i0]

end K08
end
section
set_option linter.all false
set_option maxRecDepth 100000
set_option maxHeartbeats 4000000
/-! K08m: what the program's predicates say. -/
namespace K08
open PySem PySem.Spec Pu
@[simp] theorem tyD (M : Store) (x : PyData) : tyW M (.d x) = match x with
  | .none => some "NoneType" | .bool _ => some "bool" | .int _ => some "int" | .str _ => some "str" | .list _ => some "list" | .tuple _ => some "tuple" | .dict _ => none := by
  cases x <;> rfl
def isWithin : PyData → Int → Int → Bool
  | .int i, lo, hi => decide (lo ≤ i) && decide (i ≤ hi)
  | _, _, _ => false
def noD : PyData → Bool
  | .dict _ => false
  | _ => true
theorem v_is_within (x : PyData) (lo hi : Int) (M : Store) (hx : noD x = true) : f_is_within [.d x, .d (.int lo), .d (.int hi)] M = .ok (.d (.bool (isWithin x lo hi))) M := by
  cases x with
  | dict _ => cases hx
  | int i =>
    simp [f_is_within, f_is_within_s, startE, isT, isWithin]
    by_cases h : lo ≤ i <;> simp [h]
  | _ => simp [f_is_within, f_is_within_s, startE, isT, isWithin]
def lenIs : PyData → Int → Bool
  | .tuple xs, n => decide ((xs.length : Int) = n)
  | _, _ => false
theorem v_is_tuple_of (x : PyData) (n : Int) (M : Store) (hx : noD x = true) : f_is_tuple_of [.d x, .d (.int n)] M = .ok (.d (.bool (lenIs x n))) M := by
  cases x with
  | dict _ => cases hx
  | _ => simp [f_is_tuple_of, f_is_tuple_of_s, startE, isT, lenIs]
def posI : PyData → Bool
  | .int i => decide (0 < i)
  | _ => false
def zerI : PyData → Bool
  | .int i => decide (i = 0)
  | _ => false
def isMark : PyData → Bool
  | .tuple [a, b] => isWithin a 0 999 && (isWithin b 0 19 && (posI a || zerI b))
  | _ => false
theorem hd_tup {xs : List PyData} (h : (PyData.tuple xs).hasDict = false) : ∀ x ∈ xs, x.hasDict = false := by
  induction xs with
  | nil => intro x hx; cases hx
  | cons y ys ih =>
    have h : (y.hasDict || PyData.hasDictAll ys) = false := h
    simp only [Bool.or_eq_false_iff] at h
    intro x hx
    rcases List.mem_cons.mp hx with rfl | hx
    · exact h.1
    · exact ih h.2 x hx
theorem noD_of {x : PyData} (h : x.hasDict = false) : noD x = true := by
  cases x with
  | dict _ => cases h
  | _ => rfl
theorem within_int {x : PyData} {lo hi : Int} (h : isWithin x lo hi = true) : ∃ i, x = .int i := by
  cases x with
  | int i => exact ⟨i, rfl⟩
  | _ => cases h
theorem v_is_mark (x : PyData) (M : Store) (hx : x.hasDict = false) : f_is_mark [.d x] M = .ok (.d (.bool (isMark x))) M := by
  by_cases h2 : ∃ a b, x = .tuple [a, b]
  · obtain ⟨a, b, rfl⟩ := h2
    have ha := noD_of (hd_tup hx a (by simp))
    have hb := noD_of (hd_tup hx b (by simp))
    have w1 := fun M => v_is_within a 0 999 M ha
    have w2 := fun M => v_is_within b 0 19 M hb
    have t := fun M => v_is_tuple_of (.tuple [a, b]) 2 M (noD_of hx)
    simp [lenIs] at t
    cases h1 : isWithin a 0 999 with
    | false => simp [f_is_mark, f_is_mark_s, startE, t, w1, h1, isMark]
    | true =>
      obtain ⟨i, rfl⟩ := within_int h1
      cases h3 : isWithin b 0 19 with
      | false => simp [f_is_mark, f_is_mark_s, startE, t, w1, w2, h1, h3, isMark]
      | true =>
        obtain ⟨j, rfl⟩ := within_int h3
        by_cases h4 : 0 < i <;> simp [f_is_mark, f_is_mark_s, startE, t, w1, w2, h1, h3, isMark, posI, zerI, h4]
  · have e : lenIs x 2 = false := by
      cases x with
      | tuple xs =>
        match xs with
        | [] => rfl
        | [_] => rfl
        | [a, b] => exact absurd ⟨a, b, rfl⟩ h2
        | _ :: _ :: _ :: r => simp [lenIs]; omega
      | _ => rfl
    have e2 : isMark x = false := by
      unfold isMark
      split
      · exact absurd ⟨_, _, rfl⟩ h2
      · rfl
    simp [f_is_mark, f_is_mark_s, startE, v_is_tuple_of _ _ _ (noD_of hx), e, e2]
theorem name_a (M : Store) : f_is_name [.d (.str "a")] M = .ok (.d (.bool true)) M := by kernel_rfl
theorem word_a (M : Store) : f_is_word [.d (.str "@10.1")] M = .ok (.d (.bool true)) M := by kernel_rfl
end K08
end
section
set_option linter.all false
set_option maxRecDepth 100000
set_option maxHeartbeats 4000000
namespace K08
open PySem PySem.Spec Pu
abbrev Ho (f : Fn) (as : List W) (b : Bool) : Prop := ∀ M, f as M = .ok (.d (.bool b)) M
theorem o_neM (i j k l : Int) (M : Store) : pNe (.d (.tuple [.int i, .int j])) (.d (.tuple [.int k, .int l])) M = .ok (.d (.bool (!(decide (i = k) && decide (j = l))))) M := by
  have e : PyData.eqv (.tuple [.int i, .int j]) (.tuple [.int k, .int l]) = (decide (i = k) && decide (j = l)) := by
    show ((i == k) && ((j == l) && true)) = _
    rw [Bool.and_true]
    rfl
  have s : ∀ i j : Int, SeqAt.shaped (.tuple [.int i, .int j]) = true := fun i j => rfl
  show retB ((eqW (.d (.tuple [.int i, .int j])) (.d (.tuple [.int k, .int l])) M).map (!·)) M = _
  unfold eqW
  simp only [datOf, s, Bool.and_self, if_true, e]
  rfl
theorem mark_form {x : PyData} (h : isMark x = true) : ∃ i j : Int, x = .tuple [.int i, .int j] ∧ 0 ≤ i ∧ i ≤ 999 ∧ 0 ≤ j ∧ j ≤ 19 ∧ (0 < i ∨ j = 0) := by
  unfold isMark at h
  split at h
  · rename_i a b
    simp only [Bool.and_eq_true] at h
    obtain ⟨h1, h2, h3⟩ := h
    obtain ⟨i, rfl⟩ := within_int h1
    obtain ⟨j, rfl⟩ := within_int h2
    simp [isWithin, posI, zerI] at h1 h2 h3
    exact ⟨i, j, rfl, h1.1, h1.2, h2.1, h2.2, h3⟩
  · cases h
def isOwn (x : PyData) : Bool := isMark x && match x with
  | .tuple [.int i, .int j] => !(decide (i = 0) && decide (j = 0))
  | _ => false
theorem v_is_own (x : PyData) (M : Store) (hx : x.hasDict = false) : f_is_own_mark [.d x] M = .ok (.d (.bool (isOwn x))) M := by
  cases h : isMark x with
  | false => simp [f_is_own_mark, f_is_own_mark_s, startE, v_is_mark x _ hx, h, isOwn]
  | true =>
    obtain ⟨i, j, rfl, _⟩ := mark_form h
    simp [f_is_own_mark, f_is_own_mark_s, startE, v_is_mark _ _ hx, h, isOwn, o_neM]
theorem t_of (xs : List PyData) (n : Int) (M : Store) : f_is_tuple_of [.d (.tuple xs), .d (.int n)] M = .ok (.d (.bool (decide ((xs.length : Int) = n)))) M := v_is_tuple_of (.tuple xs) n M rfl
theorem t_ofN (n : Int) (M : Store) : f_is_tuple_of [.d .none, .d (.int n)] M = .ok (.d (.bool false)) M := v_is_tuple_of .none n M rfl
theorem t_ofL (xs : List PyData) (n : Int) (M : Store) : f_is_tuple_of [.d (.list xs), .d (.int n)] M = .ok (.d (.bool false)) M := v_is_tuple_of (.list xs) n M rfl
/-! ### orders, by their shapes -/
section
variable (m m2 nm ws af x y o : PyData) (n : Int)
theorem or_drop (b : Bool) (h : Ho f_is_own_mark [.d m] b) : Ho f_is_order [.d (.tuple [.str "drop", m])] b := by
  intro M
  cases b <;> simp [f_is_order, f_is_order_s, startE, isT, h]
theorem or_words (h : Ho f_is_own_mark [.d m] true) (hw : Ho f_are_words [.d ws] true) : Ho f_is_order [.d (.tuple [.str "words", m, ws])] true := by
  intro M
  simp [f_is_order, f_is_order_s, startE, isT, h, hw]
theorem or_name (h : Ho f_is_own_mark [.d m] true) (hw : Ho f_is_name [.d nm] true) : Ho f_is_order [.d (.tuple [.str "name", m, nm])] true := by
  intro M
  simp [f_is_order, f_is_order_s, startE, isT, h, hw]
theorem or_swap (h : Ho f_is_own_mark [.d m] true) (hx : Ho f_is_word [.d x] true) (hy : Ho f_is_word [.d y] true) : Ho f_is_order [.d (.tuple [.str "swap", m, x, y])] true := by
  intro M
  simp [f_is_order, f_is_order_s, startE, isT, h, hx, hy]
theorem or_put (h : Ho f_is_mark [.d m] true) (hn : Ho f_is_name [.d nm] true) (hw : Ho f_are_words [.d ws] true) (ha : Ho f_is_after [.d af] true) : Ho f_is_order [.d (.tuple [.str "put", m, nm, ws, af])] true := by
  intro M
  simp [f_is_order, f_is_order_s, startE, isT, h, hn, hw, ha]
/-- an order on orders is none on texts -/
theorem or_other (k : String) (r : List PyData) (b : Bool) (h : Ho f_is_own_mark [.d m] b) (hk : k = "void" ∨ k = "start" ∨ k = "end" ∨ k = "instead") (hr : r = [] ∨ ∃ x, r = [x]) : Ho f_is_order [.d (.tuple (.str k :: m :: r))] false := by
  intro M
  rcases hr with rfl | ⟨x, rfl⟩ <;> rcases hk with rfl | rfl | rfl | rfl <;> cases b <;> simp [f_is_order, f_is_order_s, startE, isT, h]
theorem or_none : Ho f_is_order [.d .none] false := by
  intro M
  simp [f_is_order, f_is_order_s, startE, isT]
theorem or_list (xs : List PyData) : Ho f_is_order [.d (.list xs)] false := by
  intro M
  simp [f_is_order, f_is_order_s, startE, isT]
theorem oo_list (xs : List PyData) (k : W) : Ho f_is_on_order [.d (.list xs), k] false := by
  intro M
  simp [f_is_on_order, f_is_on_order_s, startE, isT]
/-! ### orders on orders -/
theorem o_notin (k : String) (M : Store) : pNotIn (.d (.str k)) (.d (.tuple [.str "void", .str "start", .str "end", .str "instead"])) M = .ok (.d (.bool (!(decide (k = "void") || decide (k = "start") || decide (k = "end") || decide (k = "instead"))))) M := by
  have e : hasW (.d (.str k)) (.d (.tuple [.str "void", .str "start", .str "end", .str "instead"])) M = some (decide (k = "void") || decide (k = "start") || decide (k = "end") || decide (k = "instead")) := by
    have b : ∀ a : String, PyData.eqv (.str (Str.ofString a)) (.str (Str.ofString k)) = decide (k = a) := by
      intro a
      show (Str.ofString a == Str.ofString k) = _
      by_cases h : k = a
      · subst h; simp
      · simp only [h, decide_false, beq_eq_false_iff_ne, ne_eq, ofS_eq]
        exact fun h2 => h h2.symm
    show some (inD _ _) = _
    simp only [inD, List.any_cons, List.any_nil, b, Bool.or_false, Bool.or_assoc]
  unfold pNotIn
  rw [e]
  rfl
theorem oo_void (i j : Int) (h : Ho f_is_own_mark [.d (.tuple [.int i, .int j])] true) : Ho f_is_on_order [.d (.tuple [.str "void", .tuple [.int i, .int j]]), .d (.int n)] (decide (i < n)) := by
  intro M
  by_cases hi : n ≤ i
  · have : ¬ i < n := by omega
    simp [f_is_on_order, f_is_on_order_s, startE, isT, h, o_notin, hi, this]
  · have : i < n := by omega
    simp [f_is_on_order, f_is_on_order_s, startE, isT, h, o_notin, hi, this]
theorem oo_start (i j : Int) (b : Bool) (h : Ho f_is_own_mark [.d (.tuple [.int i, .int j])] true) (hi : i < n) (hx : Ho f_is_time [.d x] b) : Ho f_is_on_order [.d (.tuple [.str "start", .tuple [.int i, .int j], x]), .d (.int n)] b := by
  intro M
  have : ¬ n ≤ i := by omega
  simp [f_is_on_order, f_is_on_order_s, startE, isT, h, o_notin, hi, this, hx]
theorem oo_end (i j : Int) (b : Bool) (h : Ho f_is_own_mark [.d (.tuple [.int i, .int j])] true) (hi : i < n) (hx : Ho f_is_end [.d x] b) : Ho f_is_on_order [.d (.tuple [.str "end", .tuple [.int i, .int j], x]), .d (.int n)] b := by
  intro M
  have : ¬ n ≤ i := by omega
  simp [f_is_on_order, f_is_on_order_s, startE, isT, h, o_notin, hi, this, hx]
theorem oo_instead (i j : Int) (b : Bool) (h : Ho f_is_own_mark [.d (.tuple [.int i, .int j])] true) (hi : i < n) (hx : Ho f_is_order [.d x] b) : Ho f_is_on_order [.d (.tuple [.str "instead", .tuple [.int i, .int j], x]), .d (.int n)] b := by
  intro M
  have : ¬ n ≤ i := by omega
  simp [f_is_on_order, f_is_on_order_s, startE, isT, h, o_notin, hi, this, hx]
theorem oo_instead2 (i j : Int) (h : Ho f_is_own_mark [.d (.tuple [.int i, .int j])] true) (hi : i < n) : Ho f_is_on_order [.d (.tuple [.str "instead", .tuple [.int i, .int j]]), .d (.int n)] false := by
  intro M
  have : ¬ n ≤ i := by omega
  simp [f_is_on_order, f_is_on_order_s, startE, isT, h, o_notin, hi, this]
theorem oo_badmark (r : List PyData) (h : Ho f_is_own_mark [.d m] false) (hr : r = [] ∨ ∃ x, r = [x]) (k : String) : Ho f_is_on_order [.d (.tuple (.str k :: m :: r)), .d (.int n)] false := by
  intro M
  have e : ∀ b : Bool, b = true ∨ b = false := fun b => by cases b <;> simp
  rcases e (decide (k = "void") || decide (k = "start") || decide (k = "end") || decide (k = "instead")) with hk | hk
  · rcases hr with rfl | ⟨x, rfl⟩ <;> simp [f_is_on_order, f_is_on_order_s, startE, isT, h, o_notin, hk]
  · rcases hr with rfl | ⟨x, rfl⟩ <;> simp [f_is_on_order, f_is_on_order_s, startE, isT, h, o_notin, hk]
theorem oo_plain (k : String) (r : List PyData) (hk : (decide (k = "void") || decide (k = "start") || decide (k = "end") || decide (k = "instead")) = false) (hr : r = [] ∨ (∃ x, r = [x]) ∨ ∃ x y z, r = [x, y, z]) : Ho f_is_on_order [.d (.tuple (.str k :: m :: r)), .d (.int n)] false := by
  intro M
  rcases hr with rfl | ⟨x, rfl⟩ | ⟨x, y, z, rfl⟩ <;> simp [f_is_on_order, f_is_on_order_s, startE, isT, o_notin, hk]
/-! ### provisions -/
theorem pv_ok (b b2 : Bool) (h1 : Ho f_is_time [.d x] true) (h2 : Ho f_is_end [.d y] true) (h3 : Ho f_is_order [.d o] b) (h4 : Ho f_is_on_order [.d o, .d (.int n)] b2) : Ho f_is_provision [.d (.tuple [o, x, y]), .d (.int n)] (b || b2) := by
  intro M
  cases b <;> cases b2 <;> simp [f_is_provision, f_is_provision_s, startE, t_of, h1, h2, h3, h4]
theorem pv_order (h1 : Ho f_is_time [.d x] true) (h2 : Ho f_is_end [.d y] true) (h3 : Ho f_is_order [.d o] true) : Ho f_is_provision [.d (.tuple [o, x, y]), .d (.int n)] true := by
  intro M
  simp [f_is_provision, f_is_provision_s, startE, t_of, h1, h2, h3]
theorem pv_time (h1 : Ho f_is_time [.d x] false) : Ho f_is_provision [.d (.tuple [o, x, y]), .d (.int n)] false := by
  intro M
  simp [f_is_provision, f_is_provision_s, startE, t_of, h1]
theorem pv_end (h1 : Ho f_is_time [.d x] true) (h2 : Ho f_is_end [.d y] false) : Ho f_is_provision [.d (.tuple [o, x, y]), .d (.int n)] false := by
  intro M
  simp [f_is_provision, f_is_provision_s, startE, t_of, h1, h2]
theorem pv_two : Ho f_is_provision [.d (.tuple [o, x]), .d (.int n)] false := by
  intro M
  simp [f_is_provision, f_is_provision_s, startE, t_of, t_ofN]
theorem pv_none : Ho f_is_provision [.d .none, .d (.int n)] false := by
  intro M
  simp [f_is_provision, f_is_provision_s, startE, t_of, t_ofN]
end
end K08
end
section
set_option linter.all false
set_option maxRecDepth 100000
set_option maxHeartbeats 4000000
/-! K08m3: days, names, words; acts. -/
namespace K08
open PySem PySem.Spec Pu
theorem day_of (x : PyData) (hx : noD x = true) : Ho f_is_day [.d x] (isWithin x 0 1000000) := by
  intro M
  simp [f_is_day, f_is_day_s, startE, v_is_within x 0 1000000 _ hx]
def isStr : PyData → Bool
  | .str _ => true
  | _ => false
theorem name_no (x : PyData) (hx : noD x = true) (h : isStr x = false) : Ho f_is_name [.d x] false := by
  intro M
  cases x with
  | dict _ => cases hx
  | str _ => cases h
  | _ => simp [f_is_name, f_is_name_s, f_is_letters, f_is_letters_s, startE, isT]
theorem time_int (i : Int) : Ho f_is_time [.d (.int i)] (decide (0 ≤ i) && decide (i ≤ 1000000)) := by
  intro M
  have h := name_no (.int i) rfl rfl
  by_cases h0 : 0 ≤ i <;> by_cases h1 : i ≤ 1000000 <;> simp [f_is_time, f_is_time_s, startE, day_of (.int i) rfl _, isWithin, h _, h0, h1]
theorem time_str (x : Str) (b : Bool) (h : Ho f_is_name [.d (.str x)] b) : Ho f_is_time [.d (.str x)] b := by
  intro M
  simp [f_is_time, f_is_time_s, startE, day_of (.str x) rfl _, isWithin, h _]
theorem time_no (x : PyData) (hx : noD x = true) (h : isStr x = false) (hi : isWithin x 0 1000000 = false) : Ho f_is_time [.d x] false := by
  intro M
  simp [f_is_time, f_is_time_s, startE, day_of x hx _, hi, name_no x hx h _]
@[simp] theorem o_isN (x : PyData) (M : Store) : pIs (.d x) (.d .none) M = .ok (.d (.bool (match x with | .none => true | _ => false))) M := by
  cases x <;> rfl
theorem end_none : Ho f_is_end [.d .none] true := by
  intro M
  simp [f_is_end, f_is_end_s, startE]
theorem end_of (x : PyData) (b : Bool) (hx : x ≠ .none) (h : Ho f_is_time [.d x] b) : Ho f_is_end [.d x] b := by
  intro M
  cases x with
  | none => exact absurd rfl hx
  | _ => simp [f_is_end, f_is_end_s, startE, h _]
theorem after_none : Ho f_is_after [.d .none] true := by
  intro M
  simp [f_is_after, f_is_after_s, startE]
theorem own_of (i j : Int) : Ho f_is_own_mark [.d (.tuple [.int i, .int j])] (isOwn (.tuple [.int i, .int j])) := fun M => v_is_own _ M rfl
theorem own_ok {i j : Int} (h1 : 0 < i) (h2 : i ≤ 999) (h3 : 0 ≤ j) (h4 : j ≤ 19) : isOwn (.tuple [.int i, .int j]) = true := by
  have h0 : 0 ≤ i := by omega
  have hn : ¬ i = 0 := by omega
  simp [isOwn, isMark, isWithin, posI, h0, h1, h2, h3, h4, hn]
theorem own_mk {i j : Int} (h1 : 0 < i) (h2 : i ≤ 999) (h3 : 0 ≤ j) (h4 : j ≤ 19) : Ho f_is_own_mark [.d (.tuple [.int i, .int j])] true := by
  have := own_of i j
  rw [own_ok h1 h2 h3 h4] at this
  exact this
theorem after_mk {i j : Int} (h1 : 0 < i) (h2 : i ≤ 999) (h3 : 0 ≤ j) (h4 : j ≤ 19) : Ho f_is_after [.d (.tuple [.int i, .int j])] true := by
  intro M
  have h0 : 0 ≤ i := by omega
  have hn : ¬ i = 0 := by omega
  have hm : isMark (.tuple [.int i, .int j]) = true := by simp [isMark, isWithin, posI, h0, h1, h2, h3, h4]
  simp [f_is_after, f_is_after_s, startE, v_is_mark (.tuple [.int i, .int j]) _ rfl, hm, o_neM, hn]
theorem mark_root : Ho f_is_mark [.d (.tuple [.int 0, .int 0])] true := fun M => v_is_mark _ M rfl
/-! ### acts -/
theorem act_of (n : Int) (xs : List PyData) (g : PyData → Bool) (h0 : 1 ≤ n) (h1 : n ≤ 999) (hz : xs.length ≤ 100000) (h : ∀ x ∈ xs, Ho f_is_provision [.d x, .d (.int n)] (g x)) : Ho f_is_act [.d (.tuple [.int n, .tuple xs])] (decide (1 ≤ xs.length) && decide (xs.length ≤ 20) && xs.all g) := by
  intro M
  have hw : isWithin (.int n) 1 999 = true := by simp [isWithin, h0, h1]
  by_cases h2 : 1 ≤ xs.length <;> by_cases h3 : xs.length ≤ 20
  · have e2 : (1 : Int) ≤ xs.length := by omega
    have e3 : (xs.length : Int) ≤ 20 := by omega
    simp [f_is_act, f_is_act_s, startE, t_of, v_is_within (.int n) 1 999 _ rfl, hw, isT, h2, h3, e2, e3]
    rw [kLc_map xs (fun x => .bool (g x)) hz (fun x hx => ⟨_, rfl, by simp; exact h x hx M⟩)]
    simp
  · have e2 : (1 : Int) ≤ xs.length := by omega
    have e3 : ¬ (xs.length : Int) ≤ 20 := by omega
    simp [f_is_act, f_is_act_s, startE, t_of, v_is_within (.int n) 1 999 _ rfl, hw, isT, h2, h3, e2, e3]
  · have e2 : ¬ (1 : Int) ≤ xs.length := by omega
    simp [f_is_act, f_is_act_s, startE, t_of, v_is_within (.int n) 1 999 _ rfl, hw, isT, h2, h3, e2]
  · have e2 : ¬ (1 : Int) ≤ xs.length := by omega
    simp [f_is_act, f_is_act_s, startE, t_of, v_is_within (.int n) 1 999 _ rfl, hw, isT, h2, h3, e2]
theorem act_num (x y : PyData) (hx : noD x = true) (h : isWithin x 1 999 = false) : Ho f_is_act [.d (.tuple [x, y])] false := by
  intro M
  simp [f_is_act, f_is_act_s, startE, t_of, v_is_within x 1 999 _ hx, h, isT]
theorem act_none : Ho f_is_act [.d .none] false := by
  intro M
  simp [f_is_act, f_is_act_s, startE, t_ofN]
/-- one provision is none -/
theorem act_bad (n : Int) (xs : List PyData) (h0 : 1 ≤ n) (h1 : n ≤ 999) (hz : xs.length ≤ 100000) (h : ∀ x ∈ xs, ∃ b, Ho f_is_provision [.d x, .d (.int n)] b) (hb : ∃ x ∈ xs, Ho f_is_provision [.d x, .d (.int n)] false) : Ho f_is_act [.d (.tuple [.int n, .tuple xs])] false := by
  classical
  let g : PyData → Bool := fun x => decide (Ho f_is_provision [.d x, .d (.int n)] true)
  have hg : ∀ x ∈ xs, Ho f_is_provision [.d x, .d (.int n)] (g x) := by
    intro x hx
    obtain ⟨b, hb⟩ := h x hx
    cases b with
    | true => have : g x = true := decide_eq_true hb; rw [this]; exact hb
    | false =>
      have : g x = false := decide_eq_false (fun h2 => by have := (h2 []).symm.trans (hb []); cases this)
      rw [this]
      exact hb
  have e := act_of n xs g h0 h1 hz hg
  have e2 : xs.all g = false := by
    obtain ⟨x, hx, hf⟩ := hb
    have : g x = false := decide_eq_false (fun h2 => by have := (h2 []).symm.trans (hf []); cases this)
    rw [List.all_eq_false]
    exact ⟨x, hx, by rw [this]; simp⟩
  rw [e2, Bool.and_false] at e
  exact e
theorem check_act_ok (x : PyData) (h : Ho f_is_act [.d x] true) (M : Store) : f_check_act [.d x] M = .ok (.d .none) M := by
  simp [f_check_act, f_check_act_s, startE, h _]
theorem check_act_no (x : PyData) (h : Ho f_is_act [.d x] false) (M : Store) : f_check_act [.d x] M = .ex "NoAct" M := by
  simp [f_check_act, f_check_act_s, startE, h _]
theorem marks_of (n : Int) (xs : List PyData) (h : Ho f_is_act [.d (.tuple [.int n, .tuple xs])] true) (hz : xs.length ≤ 100) (M : Store) : f_marks_of_act [.d (.tuple [.int n, .tuple xs])] M = .ok (.d (.tuple ((List.range xs.length).map fun at_ => .tuple [.int n, .int (at_ : Nat)]))) M := by
  have e : small62 (xs.length : Int) = true := small62_of (by omega) (by omega)
  simp [f_marks_of_act, f_marks_of_act_s, startE, check_act_ok _ h _, kR1_ok _ _ e]
  rw [rng_map, kLc_map _ (fun y => .tuple [.int n, y]) (by simp; omega) (fun x hx => ⟨_, rfl, by simp⟩)]
  simp
theorem like_same (x : PyData) (M : Store) (h : okRepr x = true) : f_law_like [.d x, .d x] M = .ok (.d (.bool true)) M := by
  simp [f_law_like, f_law_like_s, startE, o_repr _ _ h]
end K08
end
section
set_option linter.all false
set_option maxRecDepth 100000
set_option maxHeartbeats 4000000
/-! K08w: the texts of the generator. -/
namespace K08
open PySem PySem.Spec Pu
theorem nm_a : Ho f_is_name [.d (.str "a")] true := fun M => by kernel_rfl
theorem nm_b : Ho f_is_name [.d (.str "b")] true := fun M => by kernel_rfl
theorem nm_c : Ho f_is_name [.d (.str "c")] true := fun M => by kernel_rfl
theorem nm_gate : Ho f_is_name [.d (.str "gate")] true := fun M => by kernel_rfl
theorem nm_rule : Ho f_is_name [.d (.str "rule")] true := fun M => by kernel_rfl
theorem nm_abcdefgh : Ho f_is_name [.d (.str "abcdefgh")] true := fun M => by kernel_rfl
theorem nm_abcdefgi : Ho f_is_name [.d (.str "abcdefgi")] true := fun M => by kernel_rfl
theorem nm_z : Ho f_is_name [.d (.str "z")] true := fun M => by kernel_rfl
theorem nm_means : Ho f_is_name [.d (.str "means")] true := fun M => by kernel_rfl
theorem nm_the : Ho f_is_name [.d (.str "the")] true := fun M => by kernel_rfl
theorem nm_x : Ho f_is_name [.d (.str "x")] true := fun M => by kernel_rfl
theorem nm_y : Ho f_is_name [.d (.str "y")] true := fun M => by kernel_rfl
theorem nm_zz : Ho f_is_name [.d (.str "zz")] true := fun M => by kernel_rfl
theorem nmF_long : Ho f_is_name [.d (.str "abcdefghi")] false := fun M => by kernel_rfl
theorem nmF_Xx : Ho f_is_name [.d (.str "Xx")] false := fun M => by kernel_rfl
theorem nmF_none : Ho f_is_name [.d (.str "")] false := fun M => by kernel_rfl
theorem wd_no : Ho f_is_word [.d (.str "no")] true := fun M => by kernel_rfl
theorem wd_dogs : Ho f_is_word [.d (.str "dogs")] true := fun M => by kernel_rfl
theorem wd_may : Ho f_is_word [.d (.str "may")] true := fun M => by kernel_rfl
theorem wd_means : Ho f_is_word [.d (.str "means")] true := fun M => by kernel_rfl
theorem wd_a : Ho f_is_word [.d (.str "a")] true := fun M => by kernel_rfl
theorem wd_abcdefghijkl : Ho f_is_word [.d (.str "abcdefghijkl")] true := fun M => by kernel_rfl
theorem wd_abcdefghijkm : Ho f_is_word [.d (.str "abcdefghijkm")] true := fun M => by kernel_rfl
theorem wd_gate : Ho f_is_word [.d (.str "gate")] true := fun M => by kernel_rfl
theorem wd_b : Ho f_is_word [.d (.str "b")] true := fun M => by kernel_rfl
theorem wd__1_0 : Ho f_is_word [.d (.str "@1.0")] true := fun M => by kernel_rfl
theorem wd__1_10 : Ho f_is_word [.d (.str "@1.10")] true := fun M => by kernel_rfl
theorem wd__10_1 : Ho f_is_word [.d (.str "@10.1")] true := fun M => by kernel_rfl
theorem wd__2_9 : Ho f_is_word [.d (.str "@2.9")] true := fun M => by kernel_rfl
theorem wd__999_19 : Ho f_is_word [.d (.str "@999.19")] true := fun M => by kernel_rfl
theorem wd__0_0 : Ho f_is_word [.d (.str "@0.0")] true := fun M => by kernel_rfl
end K08
end
section
set_option linter.all false
set_option maxRecDepth 100000
set_option maxHeartbeats 4000000
/-! K08g: times, orders, provisions. -/
namespace K08
open PySem PySem.Spec Pu PuX
abbrev evL : List Str := ["x", "y", "zz", "abcdefgh", "abcdefgi", "a"]
/-- a time whose day may lie behind the last day -/
def TimeN (x : PyData) : Prop := (∃ s, x = .str s ∧ s ∈ evL) ∨ ∃ d : Int, x = .int d ∧ 0 ≤ d ∧ d ≤ 3000000
def EndN (x : PyData) : Prop := x = .none ∨ TimeN x
def okT : PyData → Bool
  | .int d => decide (d ≤ 1000000)
  | _ => true
theorem ev_name {s : Str} (h : s ∈ evL) : Ho f_is_name [.d (.str s)] true := by
  simp only [evL, List.mem_cons, List.not_mem_nil, or_false] at h
  rcases h with rfl | rfl | rfl | rfl | rfl | rfl
  · exact nm_x
  · exact nm_y
  · exact nm_zz
  · exact nm_abcdefgh
  · exact nm_abcdefgi
  · exact nm_a
theorem TimeN.ho {x : PyData} (h : TimeN x) : Ho f_is_time [.d x] (okT x) := by
  rcases h with ⟨s, rfl, hs⟩ | ⟨d, rfl, h0, h1⟩
  · exact time_str s true (ev_name hs)
  · have := time_int d
    rw [decide_eq_true h0, Bool.true_and] at this
    exact this
theorem EndN.ho {x : PyData} (h : EndN x) : Ho f_is_end [.d x] (okT x) := by
  rcases h with rfl | h
  · exact end_none
  · refine end_of x _ ?_ h.ho
    rcases h with ⟨s, rfl, _⟩ | ⟨d, rfl, _⟩ <;> simp
def mk (i j : Int) : PyData := .tuple [.int i, .int j]
abbrev txL : List String := ["put", "drop", "words", "swap", "name", "move"]
/-- an order of an act of a number -/
inductive OrdN (n : Int) : PyData → Prop
  | tx (k : String) (r : List PyData) (hk : k ∈ txL) (ho : Ho f_is_order [.d (.tuple (.str k :: r))] true) (rp : Rp 2 200 (.tuple (.str k :: r))) : OrdN n (.tuple (.str k :: r))
  | void (i j : Int) (h1 : 1 ≤ i) (h2 : i < n) (h3 : 0 ≤ j) (h4 : j ≤ 19) : OrdN n (.tuple [.str "void", mk i j])
  | start (i j : Int) (t : PyData) (h1 : 1 ≤ i) (h2 : i < n) (h3 : 0 ≤ j) (h4 : j ≤ 19) (ht : TimeN t) : OrdN n (.tuple [.str "start", mk i j, t])
  | end_ (i j : Int) (t : PyData) (h1 : 1 ≤ i) (h2 : i < n) (h3 : 0 ≤ j) (h4 : j ≤ 19) (ht : EndN t) : OrdN n (.tuple [.str "end", mk i j, t])
  | inst (i j : Int) (o : PyData) (h1 : 1 ≤ i) (h2 : i < n) (h3 : 0 ≤ j) (h4 : j ≤ 19) (ho : Ho f_is_order [.d o] true) (rp : Rp 2 200 o) : OrdN n (.tuple [.str "instead", mk i j, o])
/-- the time that an order on an order tells -/
def timeO : PyData → List PyData
  | .tuple [.str k, _, t] => if k = "start" ∨ k = "end" then [t] else []
  | _ => []
def okO (o : PyData) : Bool := (timeO o).all okT
def PvN (n : Int) (x : PyData) : Prop := ∃ o s e, x = .tuple [o, s, e] ∧ OrdN n o ∧ TimeN s ∧ EndN e
/-- all times of a provision, none too -/
def timesP : PyData → List PyData
  | .tuple [o, s, e] => s :: e :: timeO o
  | _ => []
def okP (x : PyData) : Bool := (timesP x).all okT
theorem own_m {n i j : Int} (hn : n ≤ 999) (h1 : 1 ≤ i) (h2 : i < n) (h3 : 0 ≤ j) (h4 : j ≤ 19) : Ho f_is_own_mark [.d (.tuple [.int i, .int j])] true := own_mk (by omega) (by omega) h3 h4
theorem timeO_tx {k : String} {r : List PyData} (hk : k ∈ txL) : timeO (.tuple (.str k :: r)) = [] := by
  simp only [txL, List.mem_cons, List.not_mem_nil, or_false] at hk
  match r with
  | [] => rfl
  | [_] => rfl
  | [a, b] =>
    show (if _ then _ else _) = _
    rcases hk with rfl | rfl | rfl | rfl | rfl | rfl <;> simp
  | _ :: _ :: _ :: _ => rfl
theorem OrdN.prov {n : Int} (hn : n ≤ 999) {o s e : PyData} (h : OrdN n o) (hs : Ho f_is_time [.d s] true) (he : Ho f_is_end [.d e] true) : Ho f_is_provision [.d (.tuple [o, s, e]), .d (.int n)] (okO o) := by
  cases h with
  | tx k r hk ho rp =>
    have : okO (.tuple (.str k :: r)) = true := by simp [okO, timeO_tx hk]
    rw [this]
    exact pv_order _ _ _ n hs he ho
  | void i j h1 h2 h3 h4 =>
    have ho := own_m hn h1 h2 h3 h4
    have q := oo_void n i j ho
    rw [decide_eq_true h2] at q
    exact pv_ok _ _ _ n false true hs he (or_other _ "void" [] true ho (.inl rfl) (.inl rfl)) q
  | start i j t h1 h2 h3 h4 ht =>
    have ho := own_m hn h1 h2 h3 h4
    have q := oo_start t n i j (okT t) ho h2 ht.ho
    have e2 : okO (.tuple [.str "start", mk i j, t]) = (false || okT t) := by simp [okO, timeO]
    rw [e2]
    exact pv_ok _ _ _ n false _ hs he (or_other _ "start" [t] true ho (.inr (.inl rfl)) (.inr ⟨t, rfl⟩)) q
  | end_ i j t h1 h2 h3 h4 ht =>
    have ho := own_m hn h1 h2 h3 h4
    have q := oo_end t n i j (okT t) ho h2 ht.ho
    have e2 : okO (.tuple [.str "end", mk i j, t]) = (false || okT t) := by simp [okO, timeO]
    rw [e2]
    exact pv_ok _ _ _ n false _ hs he (or_other _ "end" [t] true ho (.inr (.inr (.inl rfl))) (.inr ⟨t, rfl⟩)) q
  | inst i j o h1 h2 h3 h4 ho' rp =>
    have ho := own_m hn h1 h2 h3 h4
    have q := oo_instead o n i j true ho h2 ho'
    have e2 : okO (.tuple [.str "instead", mk i j, o]) = (false || true) := by simp [okO, timeO]
    rw [e2]
    exact pv_ok _ _ _ n false true hs he (or_other _ "instead" [o] true ho (.inr (.inr (.inr rfl))) (.inr ⟨o, rfl⟩)) q
theorem PvN.ho {n : Int} (hn : n ≤ 999) {x : PyData} (h : PvN n x) : Ho f_is_provision [.d x, .d (.int n)] (okP x) := by
  obtain ⟨o, s, e, rfl, h1, h2, h3⟩ := h
  have ep : okP (.tuple [o, s, e]) = (okT s && (okT e && okO o)) := by simp [okP, timesP, okO]
  rw [ep]
  have hs := h2.ho
  have he := h3.ho
  cases hb : okT s with
  | false => rw [hb] at hs; exact pv_time _ _ _ n hs
  | true =>
    rw [hb] at hs
    cases hc : okT e with
    | false => rw [hc] at he; exact pv_end _ _ _ n hs he
    | true =>
      rw [hc] at he
      exact h1.prov hn hs he
/-- an act's provisions -/
structure ActN (n : Int) (xs : List PyData) : Prop where
  n0 : 2 ≤ n
  n1 : n ≤ 999
  l0 : 1 ≤ xs.length
  l1 : xs.length ≤ 20
  pv : ∀ x ∈ xs, PvN n x
theorem ActN.ho {n : Int} {xs : List PyData} (h : ActN n xs) : Ho f_is_act [.d (.tuple [.int n, .tuple xs])] (xs.all okP) := by
  have := act_of n xs okP (by have := h.n0; omega) h.n1 (by have := h.l1; omega) fun x hx => (h.pv x hx).ho h.n1
  rw [decide_eq_true h.l0, decide_eq_true h.l1] at this
  exact this
end K08
end
section
set_option linter.all false
set_option maxRecDepth 100000
set_option maxHeartbeats 4000000
/-! K08r: what the generators give. -/
namespace K08
open PySem PySem.Spec Pu PuX
theorem rp_s (x : PyData) (h : (x.canLay0 && decide (x.depth ≤ 0) && decide (x.weight ≤ 20) && x.intsShort 13 && x.showable) = true) : Rp 0 20 x := by
  simp only [Bool.and_eq_true, decide_eq_true_eq] at h
  exact ⟨h.1.1.1.1, h.1.1.1.2, h.1.1.2, h.1.2, h.2⟩
def kwL : List PyData := [.str "put", .str "drop", .str "words", .str "swap", .str "name", .str "move", .str "void", .str "start", .str "end", .str "instead", .str "no", .str "may", .str "@10.1", .str "gate", .str "b", .str "x", .str "y", .str "zz", .str "abcdefgh", .str "abcdefgi", .str "a"]
theorem rp_kw {x : PyData} (k : Nat) (h : x ∈ kwL) : Rp k 20 x := by
  have : ∀ x ∈ kwL, (x.canLay0 && decide (x.depth ≤ 0) && decide (x.weight ≤ 20) && x.intsShort 13 && x.showable) = true := by
    rw [← List.all_eq_true]
    decide +kernel
  exact (rp_s x (this x h)).mono (by omega) (Nat.le_refl _)
theorem rp_mk {i j : Int} (k : Nat) (hk : 1 ≤ k) (h0 : 0 ≤ i) (h1 : i ≤ 1000) (h2 : 0 ≤ j) (h3 : j ≤ 1000) : Rp k 42 (mk i j) := ((RpL.cons (rp_int h0 (by omega)) (RpL.cons (rp_int h2 (by omega)) RpL.nil)).tup).mono hk (Nat.le_refl _)
theorem ws_no : Ho f_are_words [.d (.tuple [.str "no"])] true := fun M => by kernel_rfl
theorem ws_may : Ho f_are_words [.d (.tuple [.str "may", .str "@10.1"])] true := fun M => by kernel_rfl
theorem or_move (m m2 af : PyData) (h : Ho f_is_own_mark [.d m] true) (h2 : Ho f_is_mark [.d m2] true) (ha : Ho f_is_after [.d af] true) : Ho f_is_order [.d (.tuple [.str "move", m, m2, af])] true := by
  intro M
  simp [f_is_order, f_is_order_s, startE, isT, h, h2, ha]
theorem mark_10 : Ho f_is_mark [.d (.tuple [.int 1, .int 10])] true := fun M => v_is_mark _ M rfl
/-- an order on texts -/
def TxP (o : PyData) : Prop := ∃ (k : String) (r : List PyData), o = .tuple (.str k :: r) ∧ k ∈ txL ∧ Ho f_is_order [.d o] true ∧ Rp 2 200 o
theorem on_text_ok {h : Nat} {M : Store} (H : HandAt h M) {i j : Int} (h1 : 1 ≤ i) (h2 : i ≤ 999) (h3 : 0 ≤ j) (h4 : j ≤ 19) : ∃ x M', f_law_on_text [.p h, .d (mk i j)] M = .ok (.d x) M' ∧ TxP x ∧ Same h M.length M M' := by
  let l : List PyData := [.tuple [.str "put", .tuple [.int 0, .int 0], .str "gate", .tuple [.str "no"], .none], .tuple [.str "drop", mk i j], .tuple [.str "words", mk i j, .tuple [.str "may", .str "@10.1"]], .tuple [.str "swap", mk i j, .str "no", .str "may"], .tuple [.str "name", mk i j, .str "b"], .tuple [.str "move", mk i j, .tuple [.int 1, .int 10], .none]]
  obtain ⟨x, M1, e1, hx, S1⟩ := some_ok (xs := l) H (by simp [l]) (by simp [l])
  have ow := own_mk (i := i) (j := j) (by omega) h2 h3 h4
  have rm := rp_mk (i := i) (j := j) 1 (by omega) (by omega) (by omega) h3 (by omega)
  refine ⟨x, M1, by simp only [l] at e1; simp [f_law_on_text, f_law_on_text_s, startE, e1], ?_, S1⟩
  simp only [l, List.mem_cons, List.not_mem_nil, or_false] at hx
  rcases hx with rfl | rfl | rfl | rfl | rfl | rfl
  · refine ⟨"put", _, rfl, by simp, or_put _ _ _ _ mark_root nm_gate ws_no after_none, ?_⟩
    exact ((RpL.cons (rp_kw 1 (by simp [kwL])) (RpL.cons (rp_mk (i := 0) (j := 0) 1 (by omega) (by omega) (by omega) (by omega) (by omega)) (RpL.cons (rp_kw 1 (by simp [kwL])) (RpL.cons ((RpL.cons (rp_kw 0 (by simp [kwL])) RpL.nil).tup) (RpL.cons (rp_none.mono (by omega) (Nat.le_refl _)) RpL.nil))))).tup).mono (by omega) (by omega)
  · exact ⟨"drop", _, rfl, by simp, or_drop _ true ow, ((RpL.cons (rp_kw 1 (by simp [kwL])) (RpL.cons rm RpL.nil)).tup).mono (by omega) (by omega)⟩
  · exact ⟨"words", _, rfl, by simp, or_words _ _ ow ws_may, ((RpL.cons (rp_kw 1 (by simp [kwL])) (RpL.cons rm (RpL.cons ((RpL.cons (rp_kw 0 (by simp [kwL])) (RpL.cons (rp_kw 0 (by simp [kwL])) RpL.nil)).tup) RpL.nil))).tup).mono (by omega) (by omega)⟩
  · exact ⟨"swap", _, rfl, by simp, or_swap _ _ _ ow wd_no wd_may, ((RpL.cons (rp_kw 1 (by simp [kwL])) (RpL.cons rm (RpL.cons (rp_kw 1 (by simp [kwL])) (RpL.cons (rp_kw 1 (by simp [kwL])) RpL.nil)))).tup).mono (by omega) (by omega)⟩
  · exact ⟨"name", _, rfl, by simp, or_name _ _ ow nm_b, ((RpL.cons (rp_kw 1 (by simp [kwL])) (RpL.cons rm (RpL.cons (rp_kw 1 (by simp [kwL])) RpL.nil))).tup).mono (by omega) (by omega)⟩
  · exact ⟨"move", _, rfl, by simp, or_move _ _ _ ow mark_10 after_none, ((RpL.cons (rp_kw 1 (by simp [kwL])) (RpL.cons rm (RpL.cons (rp_mk (i := 1) (j := 10) 1 (by omega) (by omega) (by omega) (by omega) (by omega)) (RpL.cons (rp_none.mono (by omega) (Nat.le_refl _)) RpL.nil)))).tup).mono (by omega) (by omega)⟩
/-- a time that stands -/
def TimeG (x : PyData) : Prop := TimeN x ∧ okT x = true
def EndG (x : PyData) : Prop := x = .none ∨ TimeG x
theorem timeG_int {d : Int} (h0 : 0 ≤ d) (h1 : d ≤ 1000000) : TimeG (.int d) := ⟨.inr ⟨d, rfl, h0, by omega⟩, decide_eq_true h1⟩
theorem when_ok {h : Nat} {M : Store} (H : HandAt h M) : ∃ x M', f_law_when [.p h] M = .ok (.d x) M' ∧ TimeG x ∧ Same h M.length M M' := by
  obtain ⟨d, M1, e1, d1, d2, S1, _⟩ := draw_ok (many := 3) H (by omega) (by omega)
  by_cases hd : d = 0
  · obtain ⟨x, M2, e2, hx, S2⟩ := some_ok (xs := [.str "x", .str "y", .str "zz", .str "abcdefgh", .str "abcdefgi", .str "a"]) S1.hand (by simp) (by simp)
    refine ⟨x, M2, by simp [f_law_when, f_law_when_s, startE, e1, hd, e2], ?_, S1.trans (S2.less S1.len)⟩
    simp only [List.mem_cons, List.not_mem_nil, or_false] at hx
    rcases hx with rfl | rfl | rfl | rfl | rfl | rfl <;> exact ⟨.inl ⟨_, rfl, by simp⟩, rfl⟩
  · obtain ⟨t, tp, p1⟩ : ∃ t : Int, t = 1000000 ∧ ∀ M, pPow (.d (.int 10)) (.d (.int 6)) M = .ok (.d (.int t)) M := ⟨10 ^ (6 : Int).toNat, by decide, fun M => o_pow M 10 6 (okPow_10 6 (by omega) (by omega))⟩
    subst tp
    obtain ⟨d', M2, e2, d1', d2', S2, _⟩ := draw_ok (many := 1000000) S1.hand (by omega) (by omega)
    obtain ⟨x, M3, e3, hx, S3⟩ := some_ok (xs := [.int 0, .int 1, .int 2, .int 9, .int 10, .int 11, .int 99, .int 100, .int 1000, .int 999999, .int 1000000, .int d']) S2.hand (by simp) (by simp)
    refine ⟨x, M3, by simp [f_law_when, f_law_when_s, startE, e1, hd, p1, e2, e3], ?_, (S1.trans (S2.less S1.len)).trans (S3.less (S1.trans (S2.less S1.len)).len)⟩
    simp only [List.mem_cons, List.not_mem_nil, or_false] at hx
    rcases hx with rfl | rfl | rfl | rfl | rfl | rfl | rfl | rfl | rfl | rfl | rfl | rfl <;> exact timeG_int (by omega) (by omega)
/-- a provision whose days stand -/
def PvG (n : Int) (x : PyData) : Prop := PvN n x ∧ okP x = true
theorem numL_ok (n : Int) (hn : 2 ≤ n) : 1 ≤ (([1, 2, 9, 10, 11, 99, 100, 101, 998] : List Int).filter fun i => decide (i < n)).length := by
  rw [List.filter_cons_of_pos (by simp; omega)]
  simp
theorem provided_ok {h : Nat} {M : Store} (H : HandAt h M) {n : Int} (hn : 2 ≤ n) (hn2 : n ≤ 999) : ∃ x M', f_law_provided [.p h, .d (.int n)] M = .ok (.d x) M' ∧ PvG n x ∧ Same h M.length M M' := by
  simp [f_law_provided, f_law_provided_s, startE]
  generalize hr : kLc _ _ _ _ _ _ _ = r
  have er := kLc_selH hr (([1, 2, 9, 10, 11, 99, 100, 101, 998] : List Int).map .int) (fun x => match x with | .int i => decide (i < n) | _ => false) id rfl (by simp) (fun x hx => by
    obtain ⟨i, _, rfl⟩ := List.mem_map.mp hx
    exact ⟨_, rfl, by simp, fun _ => by simp⟩)
  subst er
  clear hr
  rw [List.map_id, List.filter_map]
  have hl := numL_ok n hn
  have ef : ((fun x => match x with | PyData.int i => decide (i < n) | _ => false) ∘ PyData.int) = fun i => decide (i < n) := rfl
  rw [ef]
  have hm : ∀ i ∈ (([1, 2, 9, 10, 11, 99, 100, 101, 998] : List Int).filter fun i => decide (i < n)), 1 ≤ i ∧ i < n := by
    intro i hi
    have a := List.mem_filter.mp hi
    refine ⟨?_, of_decide_eq_true a.2⟩
    have := a.1
    simp only [List.mem_cons, List.not_mem_nil, or_false] at this
    omega
  have hz : (([1, 2, 9, 10, 11, 99, 100, 101, 998] : List Int).filter fun i => decide (i < n)).length ≤ 9 := List.length_filter_le _ _
  generalize (([1, 2, 9, 10, 11, 99, 100, 101, 998] : List Int).filter fun i => decide (i < n)) = is at hl hm hz ⊢
  obtain ⟨i', M1, e1, hi, S1⟩ := some_ok (xs := is.map .int) H (by simp; omega) (by simp; omega)
  obtain ⟨i, hi2, rfl⟩ := List.mem_map.mp hi
  obtain ⟨i1, i2⟩ := hm i hi2
  obtain ⟨j, M2, e2, j1, j2, S2, _⟩ := draw_ok (many := 20) S1.hand (by omega) (by omega)
  have S := S1.trans (S2.less S1.len)
  obtain ⟨t3, M3, e3, g3, S3⟩ := when_ok S.hand
  have S := S.trans (S3.less S.len)
  obtain ⟨t4, M4, e4, g4, S4⟩ := when_ok S.hand
  have S := S.trans (S4.less S.len)
  obtain ⟨t5, M5, e5, m5, S5⟩ := some_ok (xs := [.none, t4]) S.hand (by simp) (by simp)
  have g5 : EndG t5 := by
    simp at m5
    rcases m5 with rfl | rfl
    · exact .inl rfl
    · exact .inr g4
  have S := S.trans (S5.less S.len)
  let l0 : List PyData := [.tuple [.str "void", mk i j], .tuple [.str "start", mk i j, t3], .tuple [.str "end", mk i j, t5]]
  have S6 := Same.snoc S.hand [.lst (l0.map .d)]
  have S := S.trans (S6.less S.len)
  have hq : M5.length ≠ h := by have := S5.hand.lt; omega
  obtain ⟨o7, M7, e7, g7, S7⟩ := on_text_ok (i := i) (j := j) S.hand i1 (by omega) j1 (by omega)
  have S := S.trans (S7.less S.len)
  obtain ⟨o8, M8, e8, g8, S8⟩ := on_text_ok (i := n) (j := 0) S.hand (by omega) hn2 (by omega) (by omega)
  have S := S.trans (S8.less S.len)
  have hM8 : M8[M5.length]? = some (.lst (l0.map .d)) := by
    rw [S8.eq _ (by have := S7.len; simp at this; omega) hq, S7.eq _ (by simp) hq, get_snoc]
  let l1 : List PyData := [.tuple [.str "instead", mk i j, o7], o8]
  have a1 := o_addP M5.length (l0.map .d) l1 M8 hM8 (by simp [l0, l1])
  have S9 := Same.snoc S.hand [.lst (l0.map .d ++ l1.map .d)]
  have S := S.trans (S9.less S.len)
  obtain ⟨o10, M10, e10, g10, S10⟩ := on_text_ok (i := i) (j := j) S.hand i1 (by omega) j1 (by omega)
  have hq8 : M8.length ≠ h := by have := S8.hand.lt; omega
  have hM10 : M10[M8.length]? = some (.lst ((l0 ++ l1).map .d)) := by
    rw [S10.eq _ (by simp) hq8, get_snoc, List.map_append]
  have S := S.trans (S10.less S.len)
  have a2 := o_append M8.length ((l0 ++ l1).map .d) (.d o10) M10 hM10 (by simp [l0, l1])
  have a3 := ty_p M8.length ((l0.map .d ++ l1.map .d)) (M8 ++ [.lst (l0.map .d ++ l1.map .d)]) (get_snoc _ _)
  have hl8 : M8.length < M10.length := (List.getElem?_eq_some_iff.mp hM10).1
  have hM11 : (M10.set M8.length (.lst ((l0 ++ l1 ++ [o10]).map .d)))[M8.length]? = some (.lst ((l0 ++ l1 ++ [o10]).map .d)) := List.getElem?_set_self hl8
  have S11 := Same.set (L := M8.length) S.hand (Nat.le_refl _) hq8 (.lst ((l0 ++ l1 ++ [o10]).map .d))
  have hLM : M.length ≤ M8.length := by
    have := S1.len; have := S2.len; have := S3.len; have := S4.len; have := S5.len; have := S7.len; have := S8.len
    simp at *
    omega
  have S := S.trans (S11.less hLM)
  obtain ⟨o, M12, e12, m12, S12⟩ := someP_ok (q := M8.length) (xs := l0 ++ l1 ++ [o10]) S.hand hM11 hq8 (by simp [l0, l1]) (by simp [l0, l1])
  have S := S.trans (S12.less S.len)
  obtain ⟨t13, M13, e13, g13, S13⟩ := when_ok S.hand
  have S := S.trans (S13.less S.len)
  obtain ⟨t14, M14, e14, g14, S14⟩ := when_ok S.hand
  have S := S.trans (S14.less S.len)
  obtain ⟨t15, M15, e15, m15, S15⟩ := some_ok (xs := [.none, t14, .none]) S.hand (by simp) (by simp)
  have S := S.trans (S15.less S.len)
  have g15 : EndG t15 := by
    simp at m15
    rcases m15 with rfl | rfl | rfl
    · exact .inl rfl
    · exact .inr g14
    · exact .inl rfl
  refine ⟨.tuple [o, t13, t15], M15, ?_, ?_, S⟩
  · simp [l0, l1, mk] at a1 a2 a3 e7 e8 e10 e12
    simp [e1, e2, e3, e4, e5, e7, e8, a1, e10, a2, a3, e12, e13, e14, e15]
  · have hE : ∀ {t}, EndG t → EndN t ∧ okT t = true := by
      rintro t (rfl | g)
      · exact ⟨.inl rfl, rfl⟩
      · exact ⟨.inr g.1, g.2⟩
    have tx : ∀ {o}, TxP o → OrdN n o ∧ okO o = true := by
      rintro o ⟨k, r, rfl, hk, ho, rp⟩
      exact ⟨.tx k r hk ho rp, by simp [okO, timeO_tx hk]⟩
    have ho : OrdN n o ∧ okO o = true := by
      simp only [l0, l1, List.mem_append, List.mem_cons, List.not_mem_nil, or_false] at m12
      rcases m12 with ((rfl | rfl | rfl) | rfl | rfl) | rfl
      · exact ⟨.void i j i1 i2 j1 (by omega), by simp [okO, timeO]⟩
      · exact ⟨.start i j _ i1 i2 j1 (by omega) g3.1, by simp [okO, timeO, g3.2]⟩
      · exact ⟨.end_ i j _ i1 i2 j1 (by omega) (hE g5).1, by simp [okO, timeO, (hE g5).2]⟩
      · obtain ⟨k, r, e, hk, ho, rp⟩ := g7
        exact ⟨.inst i j _ i1 i2 j1 (by omega) ho rp, by simp [okO, timeO]⟩
      · exact tx g8
      · exact tx g10
    refine ⟨⟨o, t13, t15, rfl, ho.1, g13.1, (hE g15).1⟩, ?_⟩
    have := ho.2
    unfold okO at this
    simp [okP, timesP, g13.2, (hE g15).2]
    simpa using this
end K08
end
section
set_option linter.all false
set_option maxRecDepth 100000
set_option maxHeartbeats 4000000
/-! K08t: times of an act. -/
namespace K08
open PySem PySem.Spec Pu PuX
def notN : PyData → Bool
  | .none => false
  | _ => true
theorem o_isN' (x : PyData) (M : Store) : pIs (.d x) (.d .none) M = .ok (.d (.bool (!notN x))) M := by
  cases x <;> rfl
theorem o_isNotN (x : PyData) (M : Store) : pIsNot (.d x) (.d .none) M = .ok (.d (.bool (notN x))) M := by
  cases x <;> rfl
theorem TimeN.notN {x : PyData} (h : TimeN x) : notN x = true := by
  rcases h with ⟨s, rfl, _⟩ | ⟨d, rfl, _⟩ <;> rfl
theorem o_in2 (k : String) (M : Store) : pIn (.d (.str k)) (.d (.tuple [.str "start", .str "end"])) M = .ok (.d (.bool (decide (k = "start") || decide (k = "end")))) M := by
  have e : hasW (.d (.str k)) (.d (.tuple [.str "start", .str "end"])) M = some (decide (k = "start") || decide (k = "end")) := by
    have b : ∀ a : String, PyData.eqv (.str (Str.ofString a)) (.str (Str.ofString k)) = decide (k = a) := by
      intro a
      show (Str.ofString a == Str.ofString k) = _
      by_cases h : k = a
      · subst h; simp
      · simp only [h, decide_false, beq_eq_false_iff_ne, ne_eq, ofS_eq]
        exact fun h2 => h h2.symm
    show some (inD _ _) = _
    simp only [inD, List.any_cons, List.any_nil, b, Bool.or_false, Bool.or_assoc]
  unfold pIn
  rw [e]
  rfl
theorem take_flat {α β : Type} (f : α → List β) (xs : List α) (i : Nat) (x : α) (h : xs[i]? = some x) : (xs.take (i + 1)).flatMap f = (xs.take i).flatMap f ++ f x := by
  rw [List.take_succ, h]
  simp
theorem flat_len {α β : Type} (f : α → List β) (m : Nat) : ∀ xs : List α, (∀ x ∈ xs, (f x).length ≤ m) → (xs.flatMap f).length ≤ m * xs.length
  | [], _ => by simp
  | x :: xs, h => by
    have := flat_len f m xs fun y hy => h y (by simp [hy])
    have := h x (by simp)
    simp only [List.flatMap_cons, List.length_append, List.length_cons, Nat.mul_add]
    omega
theorem timesP_len (x : PyData) : (timesP x).length ≤ 3 := by
  unfold timesP
  split
  · rename_i o s e
    have : (timeO o).length ≤ 1 := by
      unfold timeO
      split
      · split <;> simp
      · simp
    simp
    omega
  · simp
theorem take_len (xs : List PyData) (i : Nat) (h : xs.length ≤ 20) : ((xs.take i).flatMap timesP).length ≤ 60 := by
  have := flat_len timesP 3 (xs.take i) fun x _ => timesP_len x
  have := List.length_take_le i xs
  have : (xs.take i).length ≤ xs.length := by simp; omega
  omega
def actD (n : Int) (xs : List PyData) : PyData := .tuple [.int n, .tuple xs]
def timesA (xs : List PyData) : List PyData := (xs.flatMap timesP).filter notN
theorem timesA_len (xs : List PyData) (h : xs.length ≤ 20) : (timesA xs).length ≤ 60 := by
  have := flat_len timesP 3 xs fun x _ => timesP_len x
  have : (timesA xs).length ≤ (xs.flatMap timesP).length := List.length_filter_le _ _
  omega
theorem mem_times {n : Int} {x t : PyData} (h : PvN n x) (ht : t ∈ timesP x) : EndN t := by
  obtain ⟨o, s, e, rfl, h1, h2, h3⟩ := h
  simp only [timesP, List.mem_cons] at ht
  rcases ht with rfl | rfl | ht
  · exact .inr h2
  · exact h3
  · cases h1 with
    | tx k r hk ho rp => rw [timeO_tx hk] at ht; cases ht
    | void i j => simp [timeO] at ht
    | start i j t' _ _ _ _ ht' => simp [timeO] at ht; subst ht; exact .inr ht'
    | end_ i j t' _ _ _ _ ht' => simp [timeO] at ht; subst ht; exact ht'
    | inst i j o => simp [timeO] at ht
theorem timesA_time {n : Int} {xs : List PyData} (h : ∀ x ∈ xs, PvN n x) : ∀ t ∈ timesA xs, TimeN t := by
  intro t ht
  obtain ⟨h1, h2⟩ := List.mem_filter.mp ht
  obtain ⟨x, hx, h3⟩ := List.mem_flatMap.mp h1
  rcases mem_times (h x hx) h3 with rfl | h
  · cases h2
  · exact h
theorem raw_times_ok {n : Int} {xs : List PyData} (hl : xs.length ≤ 20) (h : ∀ x ∈ xs, PvN n x) (M : Store) : f_raw_times [.d (actD n xs)] M = .ok (.d (.list (timesA xs))) (M ++ [.lst ((xs.flatMap timesP).map .d)]) := by
  simp [f_raw_times, f_raw_times_s, startE, actD]
  generalize hq : kFor _ _ _ _ = q
  obtain ⟨ρ', M', rfl, ⟨a, b, c, d, rfl⟩, hM⟩ := kFor_invH hq (fun i ρ M' => (∃ a b c d, ρ = [some (.d (.tuple [.int n, .tuple xs])), some (.p M.length), a, b, c, d]) ∧ M' = M ++ [.lst (((xs.take i).flatMap timesP).map .d)]) ⟨⟨none, none, none, none, rfl⟩, by simp⟩ (by
    rintro i w hw ρ M' ⟨⟨a, b, c, d, rfl⟩, rfl⟩
    rw [List.getElem?_map] at hw
    obtain ⟨x, hx, rfl⟩ := Option.map_eq_some_iff.mp hw
    have tl := take_len xs i hl
    rw [take_flat timesP xs i x hx]
    obtain ⟨o, s, e, rfl, h1, h2, h3⟩ := h x (List.mem_of_getElem? hx)
    generalize (xs.take i).flatMap timesP = T at tl ⊢
    have x1 := ext_snoc M (T.map .d) [s, e] (by simp; omega)
    have y1 := ty_snoc M (T.map .d)
    have y2 := ty_snoc M (T.map .d ++ [.d s, .d e])
    simp only [List.map_cons, List.map_nil] at x1
    refine ⟨_, [some (.d (.tuple [.int n, .tuple xs])), some (.p M.length), some (.d o), some (.d s), some (.d e), d], M ++ [.lst ((T ++ timesP (.tuple [o, s, e])).map .d)], rfl, ?_, ⟨_, _, _, _, rfl⟩, rfl⟩
    cases h1 with
    | tx k r hk ho rp =>
      have ts : timesP (.tuple [.tuple (.str k :: r), s, e]) = [s, e] := by simp [timesP, timeO_tx hk]
      rw [ts]
      simp only [txL, List.mem_cons, List.not_mem_nil, or_false] at hk
      rcases hk with rfl | rfl | rfl | rfl | rfl | rfl <;> simp [y1, x1, o_in2]
    | void i j => simp [y1, x1, o_in2, timesP, timeO]
    | start i j t =>
      have x2 := app_snoc M (T.map .d ++ [.d s, .d e]) (.d t) (by simp; omega)
      simp only [List.append_assoc, List.cons_append, List.nil_append] at x2
      simp [y1, x1, o_in2, y2, x2, timesP, timeO]
    | end_ i j t =>
      have x2 := app_snoc M (T.map .d ++ [.d s, .d e]) (.d t) (by simp; omega)
      simp only [List.append_assoc, List.cons_append, List.nil_append] at x2
      simp [y1, x1, o_in2, y2, x2, timesP, timeO]
    | inst i j o => simp [y1, x1, o_in2, timesP, timeO])
  clear hq
  rw [List.length_map, List.take_length] at hM
  subst hM
  have fl := flat_len timesP 3 xs fun x _ => timesP_len x
  simp [o_itP, get_snoc]
  generalize hr : kLc _ _ _ _ _ _ _ = r
  have er := kLc_selPH hr (xs.flatMap timesP) notN id (get_snoc _ _) (by simp) (by omega) (fun x hx => ⟨_, rfl, by simp [o_isNotN], fun _ => by simp⟩)
  subst er
  rw [List.map_id]
  simp [timesA]
theorem law_times_ok {n : Int} {xs : List PyData} (hl : xs.length ≤ 20) (h : ∀ x ∈ xs, PvN n x) (M : Store) : f_law_times [.d (actD n xs)] M = .ok (.p M.length) (M ++ [.lst ((timesA xs).map .d)]) := by
  simp [f_law_times, f_law_times_s, startE, actD]
  generalize hq : kFor _ _ _ _ = q
  obtain ⟨ρ', M', rfl, ⟨a, b, c, rfl⟩, hM⟩ := kFor_invH hq (fun i ρ M' => (∃ a b c, ρ = [some (.d (.tuple [.int n, .tuple xs])), some (.p M.length), a, b, c]) ∧ M' = M ++ [.lst ((((xs.take i).flatMap timesP).filter notN).map .d)]) ⟨⟨none, none, none, rfl⟩, by simp⟩ (by
    rintro i w hw ρ M' ⟨⟨a, b, c, rfl⟩, rfl⟩
    rw [List.getElem?_map] at hw
    obtain ⟨x, hx, rfl⟩ := Option.map_eq_some_iff.mp hw
    have tl := take_len xs i hl
    rw [take_flat timesP xs i x hx, List.filter_append]
    obtain ⟨o, s, e, rfl, h1, h2, h3⟩ := h x (List.mem_of_getElem? hx)
    have fl : (((xs.take i).flatMap timesP).filter notN).length ≤ 60 := Nat.le_trans (List.length_filter_le _ _) tl
    generalize ((xs.take i).flatMap timesP).filter notN = T at fl ⊢
    have hs := h2.notN
    -- what is extended by
    let E : List PyData := if notN e = true then [s, e] else [s]
    have hE : E.length ≤ 2 := by simp only [E]; split <;> simp
    have x1 := ext_snoc M (T.map .d) E (by simp; omega)
    have y1 := ty_snoc M (T.map .d)
    have y2 := ty_snoc M (T.map .d ++ E.map .d)
    have fE : ∀ r, (s :: e :: r).filter notN = E ++ r.filter notN := by
      intro r
      simp only [E]
      cases he : notN e <;> simp [List.filter_cons, hs, he]
    have body : ∀ (ρ : Pu.Env) (o' : W), (xIf (tE (x2 pIs (xV 4) (xC .none))) (xLst false aNil) (xLst false (aCons (xV 4) aNil))) [some (.d (.tuple [.int n, .tuple xs])), some (.p M.length), some o', some (.d s), some (.d e)] (M ++ [.lst (T.map .d)]) = .ok (.d (.list (if notN e = true then [e] else []))) (M ++ [.lst (T.map .d)]) := by
      intro ρ o'
      cases he : notN e <;> simp [-o_isN, o_isN', he]
    have add1 : ∀ M, pAdd false (.d (.list [s])) (.d (.list (if notN e = true then [e] else []))) M = .ok (.d (.list E)) M := by
      intro M
      simp only [E]
      split <;> simp
    have body := fun o' => body [] o'
    simp [-o_isN, o_isN'] at body
    clear_value E
    refine ⟨_, [some (.d (.tuple [.int n, .tuple xs])), some (.p M.length), some (.d o), some (.d s), some (.d e)], M ++ [.lst ((T ++ (timesP (.tuple [o, s, e])).filter notN).map .d)], rfl, ?_, ⟨_, _, _, rfl⟩, rfl⟩
    have ts : timesP (.tuple [o, s, e]) = s :: e :: timeO o := rfl
    rw [ts, fE]
    cases h1 with
    | tx k r hk ho rp =>
      rw [timeO_tx hk]
      simp only [txL, List.mem_cons, List.not_mem_nil, or_false] at hk
      rcases hk with rfl | rfl | rfl | rfl | rfl | rfl <;> simp [-o_isN, o_isN', y1, body, add1, x1, o_in2]
    | void i j => simp [-o_isN, o_isN', y1, body, add1, x1, o_in2, timeO]
    | start i j t =>
      have x2 := app_snoc M (T.map .d ++ E.map .d) (.d t) (by simp; omega)
      simp only [List.append_assoc] at x2
      cases ht : notN t <;> simp [-o_isN, o_isN', y1, body, add1, x1, o_in2, y2, x2, o_isNotN, ht, timeO]
    | end_ i j t =>
      have x2 := app_snoc M (T.map .d ++ E.map .d) (.d t) (by simp; omega)
      simp only [List.append_assoc] at x2
      cases ht : notN t <;> simp [-o_isN, o_isN', y1, body, add1, x1, o_in2, y2, x2, o_isNotN, ht, timeO]
    | inst i j o => simp [-o_isN, o_isN', y1, body, add1, x1, o_in2, timeO])
  clear hq
  rw [List.length_map, List.take_length] at hM
  subst hM
  simp [timesA]
end K08
end
section
set_option linter.all false
set_option maxRecDepth 100000
set_option maxHeartbeats 4000000
/-! K08u: events, days, numbers ascending. -/
namespace K08
open PySem PySem.Spec Pu PuX L2
def strsOf : List PyData → List Str
  | [] => []
  | .str s :: r => s :: strsOf r
  | _ :: r => strsOf r
def intsOf : List PyData → List Int
  | [] => []
  | .int i :: r => i :: intsOf r
  | _ :: r => intsOf r
theorem filter_str : ∀ T : List PyData, T.filter isStr = (strsOf T).map .str
  | [] => rfl
  | x :: r => by
    have ih := filter_str r
    cases x <;> simp [List.filter_cons, isStr, strsOf, ih]
theorem filter_int : ∀ T : List PyData, (∀ t ∈ T, TimeN t) → T.filter (fun x => !isStr x) = (intsOf T).map .int
  | [], _ => rfl
  | x :: r, h => by
    have ih := filter_int r fun t ht => h t (by simp [ht])
    have a : ∀ s, isStr (.str s) = true := fun _ => rfl
    have b : ∀ s, isStr (.int s) = false := fun _ => rfl
    rcases h x (by simp) with ⟨s, rfl, _⟩ | ⟨d, rfl, _⟩ <;> simp [List.filter_cons, a, b, intsOf, ih]
theorem strs_len : ∀ T : List PyData, (strsOf T).length ≤ T.length
  | [] => Nat.le_refl _
  | x :: r => by
    have := strs_len r
    cases x <;> simp [strsOf] <;> omega
theorem ints_len : ∀ T : List PyData, (intsOf T).length ≤ T.length
  | [] => Nat.le_refl _
  | x :: r => by
    have := ints_len r
    cases x <;> simp [intsOf] <;> omega
theorem o_sortedP2 (M : Store) (a : Ob) (kws : List (Key × W)) : pSorted [.p (M.length + 1)] (M ++ [a, .dK kws]) = sortKs (kws.map (·.1)) (M ++ [a, .dK kws]) := by
  have e : (M ++ [a, .dK kws])[M.length + 1]? = some (.dK kws) := by rw [get_appk]; rfl
  unfold pSorted
  simp only [e]
def kOf : PyData → Key
  | .str s => .inr s
  | .int i => .inl i
  | _ => .inl 0
theorem events_ok {n : Int} {xs : List PyData} (hl : xs.length ≤ 20) (h : ∀ x ∈ xs, PvN n x) (ha : Ho f_is_act [.d (actD n xs)] true) (M : Store) : ∃ e, f_events_in [.d (actD n xs)] M = .ok (.d (.tuple ((sortU ltS (strsOf (timesA xs))).map .str))) (M ++ e) := by
  simp [f_events_in, f_events_in_s, startE, check_act_ok _ ha, raw_times_ok hl h]
  generalize hr : kDg (κ := Key) _ _ _ _ _ _ _ _ _ = r
  have tl := timesA_len xs hl
  have tm := timesA_time h
  have er := kDg_selH hr (timesA xs) isStr kOf W.d (fun _ => .d (.bool true)) rfl (by omega) (fun x hx hb => by
    cases x with
    | str s => rfl
    | _ => cases hb) (fun x hx => by
    exact ⟨_, rfl, by rcases tm x hx with ⟨s, rfl, _⟩ | ⟨d, rfl, _⟩ <;> simp [isT, isStr], fun hb => ⟨by simp, by simp⟩⟩)
  rw [filter_str, List.map_map] at er
  have e1 : ((fun x => (kOf x, W.d (PyData.bool true))) ∘ PyData.str) = fun s => ((Sum.inr s : Key), W.d (PyData.bool true)) := rfl
  rw [e1] at er
  subst er
  have sl := strs_len (timesA xs)
  simp [o_sortedP2, sort_str _ _ _ (by omega : (strsOf (timesA xs)).length < 64)]
theorem days_ok {n : Int} {xs : List PyData} (hl : xs.length ≤ 20) (h : ∀ x ∈ xs, PvN n x) (ha : Ho f_is_act [.d (actD n xs)] true) (M : Store) : ∃ e, f_days_in [.d (actD n xs)] M = .ok (.d (.tuple ((sortU ltI (intsOf (timesA xs))).map .int))) (M ++ e) := by
  simp [f_days_in, f_days_in_s, startE, check_act_ok _ ha, raw_times_ok hl h]
  generalize hr : kDg (κ := Key) _ _ _ _ _ _ _ _ _ = r
  have tl := timesA_len xs hl
  have tm := timesA_time h
  have er := kDg_selH hr (timesA xs) (fun x => !isStr x) kOf W.d (fun _ => .d (.bool true)) rfl (by omega) (fun x hx hb => by
    rcases tm x hx with ⟨s, rfl, _⟩ | ⟨d, rfl, _⟩
    · cases hb
    · rfl) (fun x hx => by
    exact ⟨_, rfl, by rcases tm x hx with ⟨s, rfl, _⟩ | ⟨d, rfl, _⟩ <;> simp [isT, isStr], fun hb => ⟨by simp, by simp⟩⟩)
  rw [filter_int _ tm, List.map_map] at er
  have e1 : ((fun x => (kOf x, W.d (PyData.bool true))) ∘ PyData.int) = fun s => ((Sum.inl s : Key), W.d (PyData.bool true)) := rfl
  rw [e1] at er
  subst er
  have sl := ints_len (timesA xs)
  simp [o_sortedP2, sort_int _ _ _ (by omega : (intsOf (timesA xs)).length < 64)]
/-! ### numbers ascending -/
theorem o_sumA (zs : List Int) (M : Store) : pSumA [.d (.list (zs.map .int))] M = .ok (.d (.int zs.sum)) M := by
  have e : ∀ zs : List Int, intsW ((zs.map PyData.int).map W.d) = some zs := by
    intro zs
    induction zs with
    | nil => rfl
    | cons z r ih =>
      show (intsW ((r.map PyData.int).map W.d)).map (z :: ·) = _
      rw [ih]
      rfl
  unfold pSumA
  have : (lstOf M (.d (.list (zs.map PyData.int)))).bind intsW = some zs := e zs
  simp only [this]
theorem split_rise (x : Int) : ∀ fs : List Int, Rise ltI fs → ∃ A B, fs = A ++ B ∧ (∀ a ∈ A, a < x) ∧ (∀ b ∈ B, x ≤ b) ∧ (fs.map fun a => if a < x then (1 : Int) else 0).sum = A.length
  | [], _ => ⟨[], [], rfl, by simp, by simp, rfl⟩
  | y :: r, h => by
    have h1 := List.pairwise_cons.mp h
    obtain ⟨A, B, rfl, hA, hB, hs⟩ := split_rise x r h1.2
    by_cases hy : y < x
    · refine ⟨y :: A, B, rfl, fun a ha => ?_, hB, ?_⟩
      · rcases List.mem_cons.mp ha with rfl | ha
        · exact hy
        · exact hA a ha
      · rw [List.map_cons, List.sum_cons, hs, if_pos hy]
        simp
        omega
    · have : A = [] := by
        cases A with
        | nil => rfl
        | cons a A' =>
          have q : ltI y a = true := h1.1 a (by simp)
          have q : y < a := of_decide_eq_true q
          have := hA a (by simp)
          omega
      subst this
      refine ⟨[], y :: B, rfl, by simp, fun b hb => ?_, ?_⟩
      · rcases List.mem_cons.mp hb with rfl | hb
        · omega
        · exact hB b hb
      · rw [List.map_cons, List.sum_cons, hs, if_neg hy]
        simp
theorem numbers_ok (ys : List Int) (hl : ys.length ≤ 100) (M : Store) : f_law_numbers [.d (.list (ys.map .int))] M = .ok (.d (.tuple ((sortU ltI ys).map .int))) M := by
  simp [f_law_numbers, f_law_numbers_s, startE]
  generalize hq : kFor _ _ _ _ = q
  obtain ⟨ρ', M', rfl, rfl, fs, a, b, c, rfl, hf, hm, hn⟩ := kFor_invH hq (fun i ρ M' => M' = M ∧ ∃ (fs : List Int) (a b c : Option W), ρ = [some (.d (.list (ys.map .int))), some (.d (.list (fs.map .int))), a, b, c] ∧ Rise ltI fs ∧ (∀ z, z ∈ fs ↔ z ∈ ys.take i) ∧ fs.length ≤ i) ⟨rfl, [], none, none, none, rfl, List.Pairwise.nil, by simp, Nat.le_refl _⟩ (by
    rintro i w hw ρ M' ⟨rfl, fs, a, b, c, rfl, hf, hm, hn⟩
    have hi : i < ys.length := by
      have := (List.getElem?_eq_some_iff.mp hw).1
      simpa using this
    have hx : w = .d (.int ys[i]) := by
      rw [List.getElem?_eq_getElem (by simpa using hi)] at hw
      simpa using hw.symm
    subst hx
    have tk : ∀ z, z ∈ ys.take (i + 1) ↔ z ∈ ys.take i ∨ z = ys[i] := by
      intro z
      rw [List.take_succ, List.getElem?_eq_getElem hi]
      simp only [List.mem_append, Option.toList_some, List.mem_singleton]
    generalize ys[i] = x at tk
    obtain ⟨A, B, rfl, hA, hB, hs⟩ := split_rise x fs hf
    have hlen : A.length + B.length ≤ 100 := by simp at hn; omega
    have hP := List.pairwise_append.mp hf
    obtain ⟨zs, cmp, sm⟩ : ∃ zs, kLc false (gN 4) tYesX (xCall pInt (aCons (x2 pLt (xV 4) (xV 2)) aNil)) [4] [some (.d (.list (ys.map .int))), some (.d (.list ((A ++ B).map .int))), some (.d (.int x)), b, c] (.ok (soL (((A ++ B).map PyData.int).map W.d)) M') = .ok (.d (.list zs)) M' ∧ pSumA [.d (.list zs)] M' = .ok (.d (.int A.length)) M' := by
      have := kLc_map (t := gN 4) (f := xCall pInt (aCons (x2 pLt (xV 4) (xV 2)) aNil)) (ρ := [some (.d (.list (ys.map .int))), some (.d (.list ((A ++ B).map .int))), some (.d (.int x)), b, c]) (M := M') (vs := [4]) ((A ++ B).map PyData.int) (fun y => match y with | .int a => .int (if a < x then 1 else 0) | y => y) (by simp; omega) (fun y hy => by
        obtain ⟨a, _, rfl⟩ := List.mem_map.mp hy
        exact ⟨_, rfl, by simp [pInt]⟩)
      refine ⟨_, this, ?_⟩
      have sm := o_sumA ((A ++ B).map fun a => if a < x then (1 : Int) else 0) M'
      rw [hs] at sm
      rw [List.map_map] at sm ⊢
      exact sm
    simp only [List.map_append, List.map_map] at cmp
    have tA : ((A.map PyData.int ++ B.map PyData.int).take A.length) = A.map PyData.int := List.take_left' (by simp)
    have dA : ((A.map PyData.int ++ B.map PyData.int).drop A.length) = B.map PyData.int := List.drop_left' (by simp)
    cases B with
    | nil =>
      refine ⟨_, [some (.d (.list (ys.map .int))), some (.d (.list ((A ++ [x]).map .int))), some (.d (.int x)), some (.d (.int A.length)), c], M', rfl, ?_, rfl, A ++ [x], _, _, _, rfl, ?_, ?_, ?_⟩
      · simp only [List.map_nil, List.append_nil] at cmp tA dA
        simp [cmp, sm, tA, dA]
        rw [o_addL _ _ _ (by simp at hlen ⊢; omega)]
        simp
        rw [o_addL _ _ _ (by simp at hlen ⊢; omega)]
        simp
      · refine List.pairwise_append.mpr ⟨hP.1, List.pairwise_singleton _ _, fun a ha b hb => ?_⟩
        rw [List.mem_singleton] at hb
        subst hb
        exact decide_eq_true (hA a ha)
      · intro z
        rw [tk, ← hm]
        simp
      · simp at hn ⊢; omega
    | cons b B' =>
      have ixB : ∀ M, pIx (.d (.list (A.map PyData.int ++ (b :: B').map PyData.int))) (.d (.int (A.length : Int))) M = .ok (.d (.int b)) M := fun M => o_ixl _ _ _ _ (by
        rw [List.getElem?_append_right (by simp)]
        simp)
      have ne : ¬ ((A.length : Int) = (A.length : Int) + ((B'.length : Int) + 1)) := by omega
      by_cases hb : b = x
      · subst hb
        refine ⟨_, [some (.d (.list (ys.map .int))), some (.d (.list ((A ++ b :: B').map .int))), some (.d (.int b)), some (.d (.int A.length)), c], M', rfl, ?_, rfl, A ++ b :: B', _, _, _, rfl, hf, ?_, by omega⟩
        · simp only [List.map_cons, Function.comp_apply] at cmp tA dA ixB
          simp [cmp, sm, ixB, ne]
        · intro z
          rw [tk, ← hm]
          simp
          intro hz
          exact .inr (.inl hz)
      · have hlt : x < b := by
          have := hB b (by simp)
          omega
        refine ⟨_, [some (.d (.list (ys.map .int))), some (.d (.list ((A ++ [x] ++ b :: B').map .int))), some (.d (.int x)), some (.d (.int A.length)), c], M', rfl, ?_, rfl, A ++ [x] ++ b :: B', _, _, _, rfl, ?_, ?_, ?_⟩
        · simp only [List.map_cons, Function.comp_apply] at cmp tA dA ixB
          simp [cmp, sm, ixB, ne, hb, tA, dA]
          rw [o_addL _ _ _ (by simp at hlen ⊢; omega)]
          simp
          rw [o_addL _ _ _ (by simp at hlen ⊢; omega)]
          simp
        · refine List.pairwise_append.mpr ⟨List.pairwise_append.mpr ⟨hP.1, List.pairwise_singleton _ _, fun a ha b hb => ?_⟩, hP.2.1, fun a ha c hc => ?_⟩
          · rw [List.mem_singleton] at hb
            subst hb
            exact decide_eq_true (hA a ha)
          · rcases List.mem_append.mp ha with ha | ha
            · exact hP.2.2 a ha c hc
            · rw [List.mem_singleton] at ha
              subst ha
              rcases List.mem_cons.mp hc with rfl | hc
              · exact decide_eq_true hlt
              · exact ordI.tr _ _ _ (decide_eq_true hlt : ltI a b = true) ((List.pairwise_cons.mp hP.2.1).1 c hc)
        · intro z
          rw [tk, ← hm]
          simp
          constructor
          · rintro (h | h | h | h) <;> simp [h]
          · rintro ((h | h | h) | h) <;> simp [h]
        · simp at hn ⊢; omega)
  simp
  have e : fs = sortU ltI ys := sortU_one ordI hf fun z => by
    rw [hm z]
    simp
  rw [e]
end K08
end
section
set_option linter.all false
set_option maxRecDepth 100000
set_option maxHeartbeats 4000000
/-! K08v: what is told of an act. -/
namespace K08
open PySem PySem.Spec Pu PuX L2
theorem o_in4 (k : String) (M : Store) : pIn (.d (.str k)) (.d (.tuple [.str "void", .str "start", .str "end", .str "instead"])) M = .ok (.d (.bool (decide (k = "void") || decide (k = "start") || decide (k = "end") || decide (k = "instead")))) M := by
  have e : hasW (.d (.str k)) (.d (.tuple [.str "void", .str "start", .str "end", .str "instead"])) M = some (decide (k = "void") || decide (k = "start") || decide (k = "end") || decide (k = "instead")) := by
    have b : ∀ a : String, PyData.eqv (.str (Str.ofString a)) (.str (Str.ofString k)) = decide (k = a) := by
      intro a
      show (Str.ofString a == Str.ofString k) = _
      by_cases h : k = a
      · subst h; simp
      · simp only [h, decide_false, beq_eq_false_iff_ne, ne_eq, ofS_eq]
        exact fun h2 => h h2.symm
    show some (inD _ _) = _
    simp only [inD, List.any_cons, List.any_nil, b, Bool.or_false, Bool.or_assoc]
  unfold pIn
  rw [e]
  rfl
theorem o_in6 (k : String) (M : Store) : pIn (.d (.str k)) (.d (.tuple [.str "put", .str "drop", .str "words", .str "swap", .str "name", .str "move"])) M = .ok (.d (.bool (decide (k = "put") || decide (k = "drop") || decide (k = "words") || decide (k = "swap") || decide (k = "name") || decide (k = "move")))) M := by
  have e : hasW (.d (.str k)) (.d (.tuple [.str "put", .str "drop", .str "words", .str "swap", .str "name", .str "move"])) M = some (decide (k = "put") || decide (k = "drop") || decide (k = "words") || decide (k = "swap") || decide (k = "name") || decide (k = "move")) := by
    have b : ∀ a : String, PyData.eqv (.str (Str.ofString a)) (.str (Str.ofString k)) = decide (k = a) := by
      intro a
      show (Str.ofString a == Str.ofString k) = _
      by_cases h : k = a
      · subst h; simp
      · simp only [h, decide_false, beq_eq_false_iff_ne, ne_eq, ofS_eq]
        exact fun h2 => h h2.symm
    show some (inD _ _) = _
    simp only [inD, List.any_cons, List.any_nil, b, Bool.or_false, Bool.or_assoc]
  unfold pIn
  rw [e]
  rfl
def ordP : PyData → PyData
  | .tuple (o :: _) => o
  | _ => .none
def isTx : PyData → Bool
  | .tuple (.str k :: _) => !(decide (k = Str.ofString "void") || decide (k = Str.ofString "start") || decide (k = Str.ofString "end") || decide (k = Str.ofString "instead"))
  | _ => false
/-- the number of the act that an order on an order names -/
def numP : PyData → Int
  | .tuple (.tuple (_ :: .tuple (.int i :: _) :: _) :: _) => i
  | _ => 0
theorem raw_on {n : Int} {x : PyData} (h : PvN n x) : Ho f_raw_is_on_order [.d x] (!isTx (ordP x)) := by
  obtain ⟨o, s, e, rfl, h1, h2, h3⟩ := h
  intro M
  cases h1 with
  | tx k r hk ho rp =>
    simp only [txL, List.mem_cons, List.not_mem_nil, or_false] at hk
    rcases hk with rfl | rfl | rfl | rfl | rfl | rfl <;> simp [f_raw_is_on_order, f_raw_is_on_order_s, startE, o_in4, ordP, isTx]
  | void i j => simp [f_raw_is_on_order, f_raw_is_on_order_s, startE, o_in4, ordP, isTx]
  | start i j t => simp [f_raw_is_on_order, f_raw_is_on_order_s, startE, o_in4, ordP, isTx]
  | end_ i j t => simp [f_raw_is_on_order, f_raw_is_on_order_s, startE, o_in4, ordP, isTx]
  | inst i j o => simp [f_raw_is_on_order, f_raw_is_on_order_s, startE, o_in4, ordP, isTx]
theorem law_on {n : Int} {o : PyData} (h1 : OrdN n o) : Ho f_law_is_on_text [.d o] (isTx o) := by
  intro M
  cases h1 with
  | tx k r hk ho rp =>
    simp only [txL, List.mem_cons, List.not_mem_nil, or_false] at hk
    rcases hk with rfl | rfl | rfl | rfl | rfl | rfl <;> simp [f_law_is_on_text, f_law_is_on_text_s, startE, o_in6, isTx]
  | void i j => simp [f_law_is_on_text, f_law_is_on_text_s, startE, o_in6, isTx]
  | start i j t => simp [f_law_is_on_text, f_law_is_on_text_s, startE, o_in6, isTx]
  | end_ i j t => simp [f_law_is_on_text, f_law_is_on_text_s, startE, o_in6, isTx]
  | inst i j o => simp [f_law_is_on_text, f_law_is_on_text_s, startE, o_in6, isTx]
/-- an order on an order has a mark of a lesser act -/
theorem OrdN.mark {n : Int} {o : PyData} (h1 : OrdN n o) (h : isTx o = false) : ∃ k i j r, o = .tuple (k :: .tuple [.int i, .int j] :: r) ∧ 1 ≤ i ∧ i < n := by
  cases h1 with
  | tx k r hk ho rp =>
    simp only [txL, List.mem_cons, List.not_mem_nil, or_false] at hk
    rcases hk with rfl | rfl | rfl | rfl | rfl | rfl <;> simp [isTx] at h
  | void i j a b => exact ⟨_, i, j, _, rfl, a, b⟩
  | start i j t a b => exact ⟨_, i, j, _, rfl, a, b⟩
  | end_ i j t a b => exact ⟨_, i, j, _, rfl, a, b⟩
  | inst i j o a b => exact ⟨_, i, j, _, rfl, a, b⟩
def chg (xs : List PyData) : List Int := (xs.filter fun x => !isTx (ordP x)).map numP
theorem changed_ok {n : Int} {xs : List PyData} (hl : xs.length ≤ 20) (h : ∀ x ∈ xs, PvN n x) (ha : Ho f_is_act [.d (actD n xs)] true) (M : Store) : ∃ e, f_acts_changed [.d (actD n xs)] M = .ok (.d (.tuple ((sortU ltI (chg xs)).map .int))) (M ++ e) := by
  have hc := fun M => check_act_ok _ ha M
  simp only [actD] at hc
  simp [f_acts_changed, f_acts_changed_s, startE, actD, hc]
  generalize hr : kDg (κ := Key) _ _ _ _ _ _ _ _ _ = r
  have er := kDg_selH hr xs (fun x => !isTx (ordP x)) (fun x => (Sum.inl (numP x) : Key)) (fun x => .d (.int (numP x))) (fun _ => .d (.bool true)) rfl (by omega) (fun x hx hb => rfl) (fun x hx => by
    refine ⟨_, rfl, by simp [raw_on (h x hx) _], fun hb => ?_⟩
    obtain ⟨o, s, e, rfl, h1, h2, h3⟩ := h x hx
    obtain ⟨k, i, j, r, rfl, _⟩ := h1.mark (by simpa [ordP] using hb)
    exact ⟨by simp [numP], by simp⟩)
  have e1 : ((xs.filter fun x => !isTx (ordP x)).map fun x => ((Sum.inl (numP x) : Key), W.d (PyData.bool true))) = (chg xs).map fun s => ((Sum.inl s : Key), W.d (PyData.bool true)) := by
    unfold chg
    rw [List.map_map]
    rfl
  rw [e1] at er
  subst er
  have sl : (chg xs).length ≤ xs.length := by
    unfold chg
    rw [List.length_map]
    exact List.length_filter_le _ _
  simp [o_sortedP, sort_int _ _ _ (by omega : (chg xs).length < 64)]
def enB : PyData → Bool
  | .tuple [_, x] => isTx (ordP x)
  | _ => false
def enG : PyData → PyData
  | .tuple [i, _] => i
  | y => y
def plc (xs : List PyData) : List PyData := ((xs.mapIdx fun i x => PyData.tuple [.int (i : Nat), x]).filter enB).map enG
theorem on_texts_ok {n : Int} {xs : List PyData} (hl : xs.length ≤ 20) (h : ∀ x ∈ xs, PvN n x) (ha : Ho f_is_act [.d (actD n xs)] true) (M : Store) : f_on_texts [.d (actD n xs)] M = .ok (.d (.tuple (plc xs))) M := by
  have hc := fun M => check_act_ok _ ha M
  simp only [actD] at hc
  simp [f_on_texts, f_on_texts_s, startE, actD, hc, soE_eq]
  generalize hr : kLc _ _ _ _ _ _ _ = r
  have er := kLc_selH hr (xs.mapIdx fun i x => PyData.tuple [.int (i : Nat), x]) enB enG (by simp) (by simp; omega) (fun y hy => by
    obtain ⟨i, hi, rfl⟩ := List.mem_mapIdx.mp hy
    have rw1 := raw_on (h xs[i] (List.getElem_mem hi))
    exact ⟨_, rfl, by simp [rw1 _, enB], fun _ => by simp [enG]⟩)
  subst er
  simp [plc]
theorem sortU_len {α : Type} (lt : α → α → Bool) : ∀ xs : List α, (sortU lt xs).length ≤ xs.length
  | [] => Nat.le_refl _
  | x :: xs => by
    have ih := sortU_len lt xs
    have : ∀ ys : List α, (insU lt x ys).length ≤ ys.length + 1 := by
      intro ys
      induction ys with
      | nil => exact Nat.le_refl _
      | cons y ys ih2 =>
        unfold insU
        split
        · simp
        · split
          · simp; omega
          · simp
    have := this (sortU lt xs)
    show (insU lt x (sortU lt xs)).length ≤ xs.length + 1
    omega
theorem strs_mem : ∀ {T : List PyData} {s : Str}, s ∈ strsOf T → PyData.str s ∈ T
  | [], _, h => by cases h
  | x :: r, s, h => by
    have ih := @strs_mem r s
    cases x with
    | str a =>
      simp only [strsOf, List.mem_cons] at h
      rcases h with rfl | h
      · simp
      · simp [ih h]
    | _ => simp only [strsOf] at h; simp [ih h]
theorem ints_mem : ∀ {T : List PyData} {s : Int}, s ∈ intsOf T → PyData.int s ∈ T
  | [], _, h => by cases h
  | x :: r, s, h => by
    have ih := @ints_mem r s
    cases x with
    | int a =>
      simp only [intsOf, List.mem_cons] at h
      rcases h with rfl | h
      · simp
      · simp [ih h]
    | _ => simp only [intsOf] at h; simp [ih h]
theorem timesA_ok {xs : List PyData} (h : xs.all okP = true) : ∀ t ∈ timesA xs, okT t = true := by
  intro t ht
  obtain ⟨h1, h2⟩ := List.mem_filter.mp ht
  obtain ⟨x, hx, h3⟩ := List.mem_flatMap.mp h1
  exact List.all_eq_true.mp (List.all_eq_true.mp h x hx) t h3
theorem rp_ev {s : Str} (h : s ∈ evL) : Rp 0 20 (.str s) := by
  simp only [evL, List.mem_cons, List.not_mem_nil, or_false] at h
  rcases h with rfl | rfl | rfl | rfl | rfl | rfl <;> exact rp_kw 0 (by simp [kwL])
/-- an act of the generator -/
structure ActG (n : Int) (xs : List PyData) : Prop extends ActN n xs where
  good : xs.all okP = true
theorem ActG.ho {n : Int} {xs : List PyData} (A : ActG n xs) : Ho f_is_act [.d (actD n xs)] true := by
  have := A.toActN.ho
  rw [A.good] at this
  exact this
theorem told_repr {n : Int} {xs : List PyData} (A : ActG n xs) : okRepr (.list [.tuple ((List.range xs.length).map fun at_ => .tuple [.int n, .int (at_ : Nat)]), .tuple ((sortU ltS (strsOf (timesA xs))).map .str), .tuple ((sortU ltI (intsOf (timesA xs))).map .int), .tuple ((sortU ltI (chg xs)).map .int), .tuple (plc xs)]) = true := by
  have hl := A.l1
  have n0 := A.n0
  have n1 := A.n1
  have tl := timesA_len xs hl
  have tm := timesA_time A.pv
  have tk := timesA_ok A.good
  have r1 : Rp 2 2000 (.tuple ((List.range xs.length).map fun at_ => .tuple [.int n, .int (at_ : Nat)])) := rp_tup (k := 1) (n := 42) (fun x hx => by
    obtain ⟨i, hi, rfl⟩ := List.mem_map.mp hx
    have := List.mem_range.mp hi
    exact rp_mk 1 (by omega) (by omega) (by omega) (by omega) (by omega)) (by simp; omega)
  have s1 := sortU_len ltS (strsOf (timesA xs))
  have s2 := strs_len (timesA xs)
  have r2 : Rp 1 2000 (.tuple ((sortU ltS (strsOf (timesA xs))).map .str)) := rp_tup (k := 0) (n := 20) (fun x hx => by
    obtain ⟨s, hs, rfl⟩ := List.mem_map.mp hx
    have hm := strs_mem ((sortU_mem ordS s _).mp hs)
    rcases tm _ hm with ⟨s', e, h⟩ | ⟨d, e, _⟩
    · cases e; exact rp_ev h
    · cases e) (by simp; omega)
  have s3 := sortU_len ltI (intsOf (timesA xs))
  have s4 := ints_len (timesA xs)
  have r3 : Rp 1 2000 (.tuple ((sortU ltI (intsOf (timesA xs))).map .int)) := rp_tup (k := 0) (n := 20) (fun x hx => by
    obtain ⟨s, hs, rfl⟩ := List.mem_map.mp hx
    have hm := ints_mem ((sortU_mem ordI s _).mp hs)
    have hk : okT (.int s) = true := tk _ hm
    have hk : s ≤ 1000000 := of_decide_eq_true hk
    rcases tm _ hm with ⟨s', e, h⟩ | ⟨d, e, h0, _⟩
    · cases e
    · cases e; exact rp_int h0 hk) (by simp; omega)
  have s5 := sortU_len ltI (chg xs)
  have s6 : (chg xs).length ≤ xs.length := by
    unfold chg
    rw [List.length_map]
    exact List.length_filter_le _ _
  have r4 : Rp 1 2000 (.tuple ((sortU ltI (chg xs)).map .int)) := rp_tup (k := 0) (n := 20) (fun x hx => by
    obtain ⟨s, hs, rfl⟩ := List.mem_map.mp hx
    have hm := (sortU_mem ordI s _).mp hs
    unfold chg at hm
    obtain ⟨y, hy, rfl⟩ := List.mem_map.mp hm
    obtain ⟨hy, hb⟩ := List.mem_filter.mp hy
    obtain ⟨o, s, e, rfl, h1, h2, h3⟩ := A.pv y hy
    obtain ⟨k, i, j, r, rfl, i1, i2⟩ := h1.mark (by simpa [ordP] using hb)
    exact rp_int (i := i) (by omega) (by omega)) (by simp; omega)
  have s7 : (plc xs).length ≤ xs.length := by
    unfold plc
    rw [List.length_map]
    refine Nat.le_trans (List.length_filter_le _ _) (by simp)
  have r5 : Rp 1 2000 (.tuple (plc xs)) := rp_tup (k := 0) (n := 20) (fun x hx => by
    unfold plc at hx
    obtain ⟨y, hy, rfl⟩ := List.mem_map.mp hx
    obtain ⟨hy, hb⟩ := List.mem_filter.mp hy
    obtain ⟨i, hi, rfl⟩ := List.mem_mapIdx.mp hy
    exact rp_int (i := (i : Int)) (by omega) (by omega)) (by omega)
  exact ((RpL.cons r1 (RpL.cons (r2.mono (by omega) (Nat.le_refl _)) (RpL.cons (r3.mono (by omega) (Nat.le_refl _)) (RpL.cons (r4.mono (by omega) (Nat.le_refl _)) (RpL.cons (r5.mono (by omega) (Nat.le_refl _)) RpL.nil))))).lst).ok (by omega) (by omega)
end K08
end
section
set_option linter.all false
set_option maxRecDepth 100000
set_option maxHeartbeats 4000000
/-! K08x: all that is told is right. -/
namespace K08
open PySem PySem.Spec Pu PuX L2
def kSs (r : R W) : R W := r.bind sortSetW
@[simp] theorem e_ss (f : PEx) (ρ : Pu.Env) (M : Store) : xSortSet f ρ M = kSs (f ρ M) := rfl
theorem kSs_0 (xs : List Str) (M : Store) (h : xs.length < 4000) : kSs (.ok (.d (.list (xs.map .str))) M) = .ok (.d (.list ((sortU ltS xs).map .str))) M := by
  unfold kSs
  rw [R.bind_ok]
  unfold sortSetW
  simp only [strsD_map]
  rw [if_pos h]
theorem told_ok {n : Int} {xs : List PyData} (A : ActG n xs) (M : Store) : ∃ e, f_law_is_told_right [.d (actD n xs)] M = .ok (.d (.bool true)) (M ++ e) := by
  have hl := A.l1
  have tl := timesA_len xs hl
  have tm := timesA_time A.pv
  have lt := law_times_ok hl A.pv M
  have fi := filter_int _ tm
  have fs := filter_str (timesA xs)
  have n1 := fun M => numbers_ok (intsOf (timesA xs)) (by have := ints_len (timesA xs); omega) M
  have n2 := fun M => numbers_ok (chg xs) (by
    have : (chg xs).length ≤ xs.length := by
      unfold chg
      rw [List.length_map]
      exact List.length_filter_le _ _
    omega) M
  simp only [actD] at lt
  simp [f_law_is_told_right, f_law_is_told_right_s, startE, actD, lt, o_itP, get_snoc]
  -- days
  generalize hr : kLc _ _ _ _ _ _ _ = r
  have er := kLc_selPH hr (timesA xs) (fun x => !isStr x) id (get_snoc _ _) (by simp) (by omega) (fun x hx => ⟨_, rfl, by rcases tm x hx with ⟨s, rfl, _⟩ | ⟨d, rfl, _⟩ <;> simp [isT, isStr], fun _ => by simp⟩)
  rw [fi, List.map_id] at er
  subst er
  clear hr
  simp [n1, o_itP, get_snoc]
  -- events
  generalize hr : kLc _ _ _ _ _ _ _ = r
  have er := kLc_selPH hr (timesA xs) isStr id (get_snoc _ _) (by simp) (by omega) (fun x hx => ⟨_, rfl, by rcases tm x hx with ⟨s, rfl, _⟩ | ⟨d, rfl, _⟩ <;> simp [isT, isStr], fun _ => by simp⟩)
  rw [fs, List.map_id] at er
  subst er
  clear hr
  have ks := fun M => kSs_0 (strsOf (timesA xs)) M (by have := strs_len (timesA xs); omega)
  simp [ks]
  -- changed
  generalize hr : kLc _ _ _ _ _ _ _ = r
  have er := kLc_selH hr xs (fun x => !isTx (ordP x)) (fun x => .int (numP x)) rfl (by omega) (fun x hx => by
    obtain ⟨o, s, e, rfl, h1, h2, h3⟩ := A.pv x hx
    have lo := law_on h1
    refine ⟨_, rfl, by simp [lo _, ordP], fun hb => ?_⟩
    obtain ⟨k, i, j, r, rfl, _⟩ := h1.mark (by simpa [ordP] using hb)
    simp [numP])
  have ec : (xs.filter fun x => !isTx (ordP x)).map (fun x => PyData.int (numP x)) = (chg xs).map .int := by
    unfold chg
    rw [List.map_map]
    rfl
  rw [ec] at er
  subst er
  clear hr
  simp [n2, soE_eq]
  -- places
  generalize hr : kLc _ _ _ _ _ _ _ = r
  have er := kLc_selH hr (xs.mapIdx fun i x => PyData.tuple [.int (i : Nat), x]) enB enG (by simp) (by simp; omega) (fun y hy => by
    obtain ⟨i, hi, rfl⟩ := List.mem_mapIdx.mp hy
    obtain ⟨o, s, e, ex, h1, h2, h3⟩ := A.pv xs[i] (List.getElem_mem hi)
    have lo := law_on h1
    exact ⟨_, rfl, by simp [ex, lo _, ordP, enB], fun _ => by simp [enG]⟩)
  have ep : ((xs.mapIdx fun i x => PyData.tuple [.int (i : Nat), x]).filter enB).map enG = plc xs := rfl
  rw [ep] at er
  subst er
  clear hr
  simp
  -- told
  have ho := A.ho
  obtain ⟨e2, q2⟩ := events_ok hl A.pv ho (M ++ [.lst ((timesA xs).map .d)])
  obtain ⟨e3, q3⟩ := days_ok hl A.pv ho (M ++ [.lst ((timesA xs).map .d)] ++ e2)
  obtain ⟨e4, q4⟩ := changed_ok hl A.pv ho (M ++ [.lst ((timesA xs).map .d)] ++ e2 ++ e3)
  have q5 := on_texts_ok hl A.pv ho (M ++ [.lst ((timesA xs).map .d)] ++ e2 ++ e3 ++ e4)
  have q1 := marks_of n xs ho (by omega) (M ++ [.lst ((timesA xs).map .d)])
  have lk := like_same _ (M ++ [.lst ((timesA xs).map .d)] ++ e2 ++ e3 ++ e4) (told_repr A)
  simp only [actD] at q1 q2 q3 q4 q5
  have sm : small62 (xs.length : Int) = true := small62_of (by omega) (by omega)
  simp only [List.append_assoc, List.cons_append, List.nil_append] at q1 q2 q3 q4 q5 lk
  simp [q1, q2, q3, q4, q5, kR1_ok _ _ sm, rng_map]
  generalize hr : kLc _ _ _ _ _ _ _ = r
  have er := kLc_mapH hr ((List.range xs.length).map fun (i : Nat) => PyData.int i) (fun y => .tuple [.int n, y]) (by simp) (by simp; omega) (fun x hx => ⟨_, rfl, by simp⟩)
  rw [List.map_map] at er
  have ef : (List.range xs.length).map ((fun y => PyData.tuple [PyData.int n, y]) ∘ fun (i : Nat) => PyData.int i) = (List.range xs.length).map fun at_ => PyData.tuple [.int n, .int (at_ : Nat)] := rfl
  rw [ef] at er
  subst er
  clear hr
  refine ⟨Ob.lst ((timesA xs).map .d) :: (e2 ++ (e3 ++ e4)), ?_⟩
  simp [lk]
end K08
end
section
set_option linter.all false
set_option maxRecDepth 100000
set_option maxHeartbeats 4000000
/-! K08y: days so many later. -/
namespace K08
open PySem PySem.Spec Pu PuX L2
def shT (by_ : Int) : PyData → PyData
  | .int d => .int (d + by_)
  | x => x
def shO (by_ : Int) : PyData → PyData
  | .tuple [.str k, m, t] => if k = Str.ofString "start" ∨ k = Str.ofString "end" then .tuple [.str k, m, shT by_ t] else .tuple [.str k, m, t]
  | x => x
def shP (by_ : Int) : PyData → PyData
  | .tuple [o, s, e] => .tuple [shO by_ o, shT by_ s, shT by_ e]
  | x => x
theorem shifted_ok {x : PyData} (h : EndN x) (b : Int) (M : Store) : f_shifted [.d x, .d (.int b)] M = .ok (.d (shT b x)) M := by
  rcases h with rfl | ⟨s, rfl, _⟩ | ⟨d, rfl, _⟩ <;> simp [f_shifted, f_shifted_s, startE, shT, isT]
theorem law_later_ok {x : PyData} (h : EndN x) (b : Int) (M : Store) : f_law_later [.d x, .d (.int b)] M = .ok (.d (shT b x)) M := by
  rcases h with rfl | ⟨s, rfl, _⟩ | ⟨d, rfl, _⟩ <;> simp [f_law_later, f_law_later_s, startE, shT, isT]
theorem shO_tx {b : Int} {k : String} {r : List PyData} (hk : k ∈ txL) : shO b (.tuple (.str k :: r)) = .tuple (.str k :: r) := by
  simp only [txL, List.mem_cons, List.not_mem_nil, or_false] at hk
  match r with
  | [] => rfl
  | [_] => rfl
  | [a, c] =>
    show (if _ then _ else _) = _
    rcases hk with rfl | rfl | rfl | rfl | rfl | rfl <;> simp
  | _ :: _ :: _ :: _ => rfl
theorem timeO_sh {n : Int} {o : PyData} (h : OrdN n o) (b : Int) : timeO (shO b o) = (timeO o).map (shT b) := by
  cases h with
  | tx k r hk ho rp => rw [shO_tx hk, timeO_tx hk]; rfl
  | void i j => simp [shO, timeO]
  | start i j t => simp [shO, timeO]
  | end_ i j t => simp [shO, timeO]
  | inst i j o => simp [shO, timeO]
theorem timesP_sh {n : Int} {x : PyData} (h : PvN n x) (b : Int) : timesP (shP b x) = (timesP x).map (shT b) := by
  obtain ⟨o, s, e, rfl, h1, h2, h3⟩ := h
  simp [shP, timesP, timeO_sh h1 b]
theorem TimeN.sh {x : PyData} (h : TimeN x) (hk : okT x = true) {b : Int} (b0 : 0 ≤ b) (b1 : b ≤ 1000000) : TimeN (shT b x) := by
  rcases h with ⟨s, rfl, hs⟩ | ⟨d, rfl, h0, _⟩
  · exact .inl ⟨s, rfl, hs⟩
  · have hk : d ≤ 1000000 := of_decide_eq_true hk
    exact .inr ⟨d + b, rfl, by omega, by omega⟩
theorem EndN.sh {x : PyData} (h : EndN x) (hk : okT x = true) {b : Int} (b0 : 0 ≤ b) (b1 : b ≤ 1000000) : EndN (shT b x) := by
  rcases h with rfl | h
  · exact .inl rfl
  · exact .inr (h.sh hk b0 b1)
theorem PvN.sh {n : Int} {x : PyData} (h : PvN n x) (hk : okP x = true) {b : Int} (b0 : 0 ≤ b) (b1 : b ≤ 1000000) : PvN n (shP b x) := by
  have hk := List.all_eq_true.mp hk
  obtain ⟨o, s, e, rfl, h1, h2, h3⟩ := h
  refine ⟨shO b o, shT b s, shT b e, rfl, ?_, h2.sh (hk s (by simp [timesP])) b0 b1, h3.sh (hk e (by simp [timesP])) b0 b1⟩
  cases h1 with
  | tx k r hk' ho rp => rw [shO_tx hk']; exact .tx k r hk' ho rp
  | void i j a b c d => simp [shO]; exact .void i j a b c d
  | start i j t a b c d ht =>
    have := ht.sh (hk t (by simp [timesP, timeO])) b0 b1
    simp [shO]; exact .start i j _ a b c d this
  | end_ i j t a b c d ht =>
    have := ht.sh (hk t (by simp [timesP, timeO])) b0 b1
    simp [shO]; exact .end_ i j _ a b c d this
  | inst i j o a b c d ho rp => simp [shO]; exact .inst i j o a b c d ho rp
theorem ActG.sh {n : Int} {xs : List PyData} (A : ActG n xs) {b : Int} (b0 : 0 ≤ b) (b1 : b ≤ 1000000) : ActN n (xs.map (shP b)) := by
  refine ⟨A.n0, A.n1, by rw [List.length_map]; exact A.l0, by rw [List.length_map]; exact A.l1, fun x hx => ?_⟩
  obtain ⟨y, hy, rfl⟩ := List.mem_map.mp hx
  exact (A.pv y hy).sh (List.all_eq_true.mp A.good y hy) b0 b1
/-- all days stand when so many later, by the days told -/
theorem sh_good {n : Int} {xs : List PyData} (h : ∀ x ∈ xs, PvN n x) (b : Int) : (xs.map (shP b)).all okP = true ↔ ∀ d ∈ intsOf (timesA xs), d + b ≤ 1000000 := by
  have imem : ∀ d : Int, d ∈ intsOf (timesA xs) ↔ PyData.int d ∈ timesA xs := by
    intro d
    refine ⟨ints_mem, ?_⟩
    generalize timesA xs = T
    induction T with
    | nil => intro h; cases h
    | cons t r ih =>
      intro h
      rcases List.mem_cons.mp h with e | h
      · subst e; simp [intsOf]
      · have := ih h
        cases t <;> simp [intsOf, this]
  constructor
  · intro hg d hd
    have hd := (imem d).mp hd
    obtain ⟨h1, _⟩ := List.mem_filter.mp hd
    obtain ⟨x, hx, h3⟩ := List.mem_flatMap.mp h1
    have hp := List.all_eq_true.mp hg (shP b x) (List.mem_map_of_mem hx)
    unfold okP at hp
    rw [timesP_sh (h x hx)] at hp
    have := List.all_eq_true.mp hp (shT b (.int d)) (List.mem_map_of_mem h3)
    exact of_decide_eq_true this
  · intro hd
    refine List.all_eq_true.mpr fun y hy => ?_
    obtain ⟨x, hx, rfl⟩ := List.mem_map.mp hy
    unfold okP
    rw [timesP_sh (h x hx)]
    refine List.all_eq_true.mpr fun t ht => ?_
    obtain ⟨u, hu, rfl⟩ := List.mem_map.mp ht
    cases u with
    | int d =>
      refine decide_eq_true (hd d ((imem d).mpr ?_))
      exact List.mem_filter.mpr ⟨List.mem_flatMap.mpr ⟨x, hx, hu⟩, rfl⟩
    | _ => rfl
theorem take_map {α β : Type} (f : α → β) (xs : List α) (i : Nat) (x : α) (h : xs[i]? = some x) : (xs.take (i + 1)).map f = (xs.take i).map f ++ [f x] := by
  rw [List.take_succ, h]
  simp
theorem moved_ok {n : Int} {xs : List PyData} (hl : xs.length ≤ 20) (h : ∀ x ∈ xs, PvN n x) (b : Int) (M : Store) : ∃ e, f_law_moved [.d (actD n xs), .d (.int b)] M = .ok (.d (actD n (xs.map (shP b)))) (M ++ e) := by
  simp [f_law_moved, f_law_moved_s, startE, actD]
  generalize hq : kFor _ _ _ _ = q
  obtain ⟨ρ', M', rfl, ⟨u, v, w, rfl⟩, hM⟩ := kFor_invH hq (fun i ρ M' => (∃ u v w, ρ = [some (.d (.tuple [.int n, .tuple xs])), some (.d (.int b)), some (.p M.length), u, v, w]) ∧ M' = M ++ [.lst (((xs.take i).map (shP b)).map .d)]) ⟨⟨none, none, none, rfl⟩, by simp⟩ (by
    rintro i w hw ρ M' ⟨⟨u, v, w', rfl⟩, rfl⟩
    rw [List.getElem?_map] at hw
    obtain ⟨x, hx, rfl⟩ := Option.map_eq_some_iff.mp hw
    have tl : ((xs.take i).map (shP b)).length ≤ 20 := by simp; omega
    rw [take_map (shP b) xs i x hx]
    obtain ⟨o, s, e, rfl, h1, h2, h3⟩ := h x (List.mem_of_getElem? hx)
    generalize (xs.take i).map (shP b) = T at tl ⊢
    have y1 := ty_snoc M (T.map .d)
    have l2 := fun M => law_later_ok (.inr h2) b M
    have l3 := fun M => law_later_ok h3 b M
    refine ⟨_, [some (.d (.tuple [.int n, .tuple xs])), some (.d (.int b)), some (.p M.length), some (.d (shO b o)), some (.d s), some (.d e)], M ++ [.lst ((T ++ [shP b (.tuple [o, s, e])]).map .d)], rfl, ?_, ⟨_, _, _, rfl⟩, rfl⟩
    have x1 := app_snoc M (T.map .d) (.d (.tuple [shO b o, shT b s, shT b e])) (by simp; omega)
    cases h1 with
    | tx k r hk ho rp =>
      rw [shO_tx hk] at x1 ⊢
      have es : shP b (.tuple [.tuple (.str k :: r), s, e]) = .tuple [.tuple (.str k :: r), shT b s, shT b e] := by simp [shP, shO_tx hk]
      rw [es]
      simp only [txL, List.mem_cons, List.not_mem_nil, or_false] at hk
      rcases hk with rfl | rfl | rfl | rfl | rfl | rfl <;> simp [o_in2, l2, l3, y1, x1]
    | void i j => simp [shO] at x1; simp [o_in2, l2, l3, y1, x1, shP, shO]
    | start i j t _ _ _ _ ht =>
      have l4 := fun M => law_later_ok (.inr ht) b M
      simp [shO] at x1
      simp [o_in2, l2, l3, l4, y1, x1, shP, shO]
    | end_ i j t _ _ _ _ ht =>
      have l4 := fun M => law_later_ok ht b M
      simp [shO] at x1
      simp [o_in2, l2, l3, l4, y1, x1, shP, shO]
    | inst i j o => simp [shO] at x1; simp [o_in2, l2, l3, y1, x1, shP, shO])
  clear hq
  rw [List.length_map, List.take_length] at hM
  subst hM
  have tp := o_tupP M.length (xs.map (shP b)) (M ++ [.lst ((xs.map (shP b)).map .d)]) (get_snoc _ _)
  refine ⟨[.lst ((xs.map (shP b)).map .d)], ?_⟩
  simp only [List.map_map] at tp ⊢
  simp [tp]
theorem later_day_no {n : Int} {xs : List PyData} (A : ActG n xs) (x : PyData) (hx : noD x = true) (hw : isWithin x 0 1000000 = false) (M : Store) : f_later_by [.d (actD n xs), .d x] M = .ex "NoAct" M := by
  have hc := fun M => check_act_ok _ A.ho M
  have hd := day_of x hx
  rw [hw] at hd
  simp [f_later_by, f_later_by_s, startE, hc, hd _]
theorem later_ok {n : Int} {xs : List PyData} (A : ActG n xs) {b : Int} (b0 : 0 ≤ b) (b1 : b ≤ 1000000) {g : Bool} (hg : (xs.map (shP b)).all okP = g) (M : Store) : ∃ e, f_later_by [.d (actD n xs), .d (.int b)] M = cond g (.ok (.d (actD n (xs.map (shP b)))) (M ++ e)) (.ex "NoAct" (M ++ e)) := by
  have hc := fun M => check_act_ok _ A.ho M
  have hd := day_of (.int b) rfl
  have hw : isWithin (.int b) 0 1000000 = true := by simp [isWithin, b0, b1]
  rw [hw] at hd
  have hl := A.l1
  simp only [actD] at hc
  simp [f_later_by, f_later_by_s, startE, actD, hc, hd _]
  generalize hq : kFor _ _ _ _ = q
  obtain ⟨ρ', M', rfl, ⟨u, v, w, rfl⟩, hM⟩ := kFor_invH hq (fun i ρ M' => (∃ u v w, ρ = [some (.d (.tuple [.int n, .tuple xs])), some (.d (.int b)), some (.p M.length), none, u, v, w]) ∧ M' = M ++ [.lst (((xs.take i).map (shP b)).map .d)]) ⟨⟨none, none, none, rfl⟩, by simp⟩ (by
    rintro i w hw ρ M' ⟨⟨u, v, w', rfl⟩, rfl⟩
    rw [List.getElem?_map] at hw
    obtain ⟨x, hx, rfl⟩ := Option.map_eq_some_iff.mp hw
    have tl : ((xs.take i).map (shP b)).length ≤ 20 := by simp; omega
    rw [take_map (shP b) xs i x hx]
    obtain ⟨o, s, e, rfl, h1, h2, h3⟩ := A.pv x (List.mem_of_getElem? hx)
    generalize (xs.take i).map (shP b) = T at tl ⊢
    have y1 := ty_snoc M (T.map .d)
    have l2 := fun M => shifted_ok (.inr h2) b M
    have l3 := fun M => shifted_ok h3 b M
    refine ⟨_, [some (.d (.tuple [.int n, .tuple xs])), some (.d (.int b)), some (.p M.length), none, some (.d (shO b o)), some (.d s), some (.d e)], M ++ [.lst ((T ++ [shP b (.tuple [o, s, e])]).map .d)], rfl, ?_, ⟨_, _, _, rfl⟩, rfl⟩
    have x1 := app_snoc M (T.map .d) (.d (.tuple [shO b o, shT b s, shT b e])) (by simp; omega)
    cases h1 with
    | tx k r hk ho rp =>
      rw [shO_tx hk] at x1 ⊢
      have es : shP b (.tuple [.tuple (.str k :: r), s, e]) = .tuple [.tuple (.str k :: r), shT b s, shT b e] := by simp [shP, shO_tx hk]
      rw [es]
      simp only [txL, List.mem_cons, List.not_mem_nil, or_false] at hk
      rcases hk with rfl | rfl | rfl | rfl | rfl | rfl <;> simp [o_in2, l2, l3, y1, x1]
    | void i j => simp [shO] at x1; simp [o_in2, l2, l3, y1, x1, shP, shO]
    | start i j t _ _ _ _ ht =>
      have l4 := fun M => shifted_ok (.inr ht) b M
      simp [shO] at x1
      simp [o_in2, l2, l3, l4, y1, x1, shP, shO]
    | end_ i j t _ _ _ _ ht =>
      have l4 := fun M => shifted_ok ht b M
      simp [shO] at x1
      simp [o_in2, l2, l3, l4, y1, x1, shP, shO]
    | inst i j o => simp [shO] at x1; simp [o_in2, l2, l3, y1, x1, shP, shO])
  clear hq
  rw [List.length_map, List.take_length] at hM
  subst hM
  have tp := o_tupP M.length (xs.map (shP b)) (M ++ [.lst ((xs.map (shP b)).map .d)]) (get_snoc _ _)
  have ha := (A.sh b0 b1).ho
  refine ⟨[.lst ((xs.map (shP b)).map .d)], ?_⟩
  cases g with
  | true =>
    rw [hg] at ha
    have h2 := fun M => check_act_ok _ ha M
    simp only [cond_true]
    simp only [List.map_map] at tp ⊢
    simp [tp, h2]
  | false =>
    rw [hg] at ha
    have h2 := fun M => check_act_no _ ha M
    simp only [cond_false]
    simp only [List.map_map] at tp ⊢
    simp [tp, h2]
end K08
end
section
set_option linter.all false
set_option maxRecDepth 100000
set_option maxHeartbeats 4000000
/-! K08z: the check of days later answers True. -/
namespace K08
open PySem PySem.Spec Pu PuX L2
theorem rp_timeG {x : PyData} (h : EndN x) (hk : okT x = true) (k : Nat) : Rp k 20 x := by
  rcases h with rfl | ⟨s, rfl, hs⟩ | ⟨d, rfl, h0, _⟩
  · exact rp_none.mono (by omega) (by omega)
  · exact (rp_ev hs).mono (by omega) (Nat.le_refl _)
  · exact (rp_int h0 (of_decide_eq_true hk)).mono (by omega) (Nat.le_refl _)
theorem rp_ordN {n : Int} (hn : n ≤ 999) {o : PyData} (h : OrdN n o) (hk : okO o = true) : Rp 3 300 o := by
  have hk := List.all_eq_true.mp hk
  cases h with
  | tx k r hk ho rp => exact rp.mono (by omega) (by omega)
  | void i j a b c d => exact ((RpL.cons (rp_kw 2 (by simp [kwL])) (RpL.cons (rp_mk (i := i) (j := j) 2 (by omega) (by omega) (by omega) (by omega) (by omega)) RpL.nil)).tup).mono (by omega) (by omega)
  | start i j t a b c d ht => exact ((RpL.cons (rp_kw 2 (by simp [kwL])) (RpL.cons (rp_mk (i := i) (j := j) 2 (by omega) (by omega) (by omega) (by omega) (by omega)) (RpL.cons (rp_timeG (.inr ht) (hk t (by simp [timeO])) 2) RpL.nil))).tup).mono (by omega) (by omega)
  | end_ i j t a b c d ht => exact ((RpL.cons (rp_kw 2 (by simp [kwL])) (RpL.cons (rp_mk (i := i) (j := j) 2 (by omega) (by omega) (by omega) (by omega) (by omega)) (RpL.cons (rp_timeG ht (hk t (by simp [timeO])) 2) RpL.nil))).tup).mono (by omega) (by omega)
  | inst i j o a b c d ho rp => exact ((RpL.cons (rp_kw 2 (by simp [kwL])) (RpL.cons (rp_mk (i := i) (j := j) 2 (by omega) (by omega) (by omega) (by omega) (by omega)) (RpL.cons rp RpL.nil))).tup).mono (by omega) (by omega)
theorem rp_pvN {n : Int} (hn : n ≤ 999) {x : PyData} (h : PvN n x) (hk : okP x = true) : Rp 4 400 x := by
  have hk := List.all_eq_true.mp hk
  obtain ⟨o, s, e, rfl, h1, h2, h3⟩ := h
  have ho : okO o = true := List.all_eq_true.mpr fun t ht => hk t (by simp [timesP, ht])
  exact ((RpL.cons (rp_ordN hn h1 ho) (RpL.cons (rp_timeG (.inr h2) (hk s (by simp [timesP])) 3) (RpL.cons (rp_timeG h3 (hk e (by simp [timesP])) 3) RpL.nil))).tup).mono (by omega) (by omega)
theorem act_repr {n : Int} {xs : List PyData} (A : ActN n xs) (hg : xs.all okP = true) : okRepr (actD n xs) = true := by
  have n0 := A.n0
  have n1 := A.n1
  have l1 := A.l1
  have r1 : Rp 5 9000 (.tuple xs) := rp_tup (k := 4) (n := 400) (fun x hx => rp_pvN n1 (A.pv x hx) (List.all_eq_true.mp hg x hx)) (by omega)
  exact ((RpL.cons ((rp_int (i := n) (by omega) (by omega)).mono (by omega : 0 ≤ 5) (Nat.le_refl _)) (RpL.cons r1 RpL.nil)).tup).ok (by omega) (by omega)
theorem maxL_ge : ∀ (xs : List Int) (x : Int), x ∈ xs → x ≤ maxL xs
  | [], _, h => by cases h
  | [y], x, h => by
    rw [List.mem_singleton] at h
    subst h
    exact Int.le_refl _
  | y :: z :: r, x, h => by
    have e : maxL (y :: z :: r) = if y ≤ maxL (z :: r) then maxL (z :: r) else y := rfl
    rw [e]
    rcases List.mem_cons.mp h with rfl | h
    · split <;> omega
    · have := maxL_ge (z :: r) x h
      split <;> omega
theorem o_max (zs : List Int) (M : Store) : pMax [.d (.list (.int 0 :: zs.map .int))] M = .ok (.d (.int (maxL (0 :: zs)))) M := by
  have e : ∀ zs : List Int, intsW ((zs.map PyData.int).map W.d) = some zs := by
    intro zs
    induction zs with
    | nil => rfl
    | cons z r ih =>
      show (intsW ((r.map PyData.int).map W.d)).map (z :: ·) = _
      rw [ih]
      rfl
  unfold pMax
  have : (isLst M (.d (.list (.int 0 :: zs.map PyData.int)))).bind intsW = some (0 :: zs) := e (0 :: zs)
  simp only [this]
abbrev clL : List (Str × Str) := [("NoAct", "act"), ("LawError", "other")]
theorem fh_act : firstH sub "NoAct" clL = some "act" := by decide +kernel
theorem later_right_ok {h : Nat} {M : Store} (H : HandAt h M) {n : Int} {xs : List PyData} (A : ActG n xs) : ∃ M', f_law_is_later_right [.p h, .d (actD n xs)] M = .ok (.d (.bool true)) M' ∧ Same h M.length M M' := by
  have hl := A.l1
  have tl := timesA_len xs hl
  have tm := timesA_time A.pv
  have tk := timesA_ok A.good
  have lt := law_times_ok hl A.pv M
  have fi := filter_int _ tm
  have il := ints_len (timesA xs)
  have S := Same.snoc H [.lst ((timesA xs).map .d)]
  have fa := fh_act
  simp only [clL] at fa
  have ib : ∀ d ∈ intsOf (timesA xs), 0 ≤ d ∧ d ≤ 1000000 := by
    intro d hd
    have hm := ints_mem hd
    refine ⟨?_, of_decide_eq_true (tk _ hm)⟩
    rcases tm _ hm with ⟨s', e, h⟩ | ⟨d, e, h0, _⟩
    · cases e
    · cases e; exact h0
  have lg := sh_good A.pv
  simp [f_law_is_later_right, f_law_is_later_right_s, startE, lt, o_itP, get_snoc]
  generalize hr : kLc _ _ _ _ _ _ _ = r
  have er := kLc_selPH hr (timesA xs) (fun x => !isStr x) id (get_snoc _ _) (by simp) (by omega) (fun x hx => ⟨_, rfl, by rcases tm x hx with ⟨s, rfl, _⟩ | ⟨d, rfl, _⟩ <;> simp [isT, isStr], fun _ => by simp⟩)
  rw [fi, List.map_id] at er
  subst er
  clear hr
  have ad := fun M => o_addL M [.int 0] ((intsOf (timesA xs)).map .int) (by simp; omega)
  have mx := fun M => o_max (intsOf (timesA xs)) M
  simp only [List.cons_append, List.nil_append] at ad
  have last0 : 0 ≤ maxL (0 :: intsOf (timesA xs)) := maxL_ge _ _ (by simp)
  have lastG : ∀ d ∈ intsOf (timesA xs), d ≤ maxL (0 :: intsOf (timesA xs)) := fun d hd => maxL_ge _ _ (by simp [hd])
  obtain ⟨z, zm, ze⟩ := maxL_is.maxL_mem (0 :: intsOf (timesA xs)) (by simp)
  rw [← ze] at last0 lastG mx
  clear ze
  have zb : z ≤ 1000000 := by
    rcases List.mem_cons.mp zm with rfl | hz
    · omega
    · exact (ib z hz).2
  have good : ∀ b : Int, b ≤ 1000000 → ((xs.map (shP b)).all okP = decide (z + b ≤ 1000000)) := by
    intro b hb
    rw [Bool.eq_iff_iff, lg b, decide_eq_true_eq]
    constructor
    · intro hd
      rcases List.mem_cons.mp zm with rfl | hz
      · omega
      · exact hd z hz
    · intro hz d hd
      have := lastG d hd
      omega
  obtain ⟨t, tp, p1⟩ : ∃ t : Int, t = 1000000 ∧ ∀ M, pPow (.d (.int 10)) (.d (.int 6)) M = .ok (.d (.int t)) M := ⟨10 ^ (6 : Int).toNat, by decide, fun M => o_pow M 10 6 (okPow_10 6 (by omega) (by omega))⟩
  subst tp
  generalize M ++ [.lst ((timesA xs).map .d)] = M1 at S ⊢
  obtain ⟨d, M2, e2, d1, d2, S2, _⟩ := draw_ok (many := 1000000 - z + 1) S.hand (by omega) (by omega)
  have S := S.trans (S2.less S.len)
  obtain ⟨x, M3, e3, hx, S3⟩ := some_ok (xs := [.int 9, .int 90, .int 900, .int 1000000]) S.hand (by simp) (by simp)
  have S := S.trans (S3.less S.len)
  obtain ⟨y, rfl, y0, y1⟩ : ∃ y : Int, x = .int y ∧ 0 ≤ y ∧ y ≤ 1000000 := by
    simp at hx
    rcases hx with rfl | rfl | rfl | rfl <;> exact ⟨_, rfl, by omega, by omega⟩
  simp [ad, mx, p1, e2, e3]
  generalize hq : kFor _ _ _ _ = q
  obtain ⟨ρ5, M5, rfl, ⟨w4, rfl⟩, S⟩ := kFor_invH hq (fun _ ρ M' => (∃ w4, ρ = [some (.p h), some (.d (actD n xs)), some (.d (.int z)), some (.d (.int (1000000 - z))), w4, none, none]) ∧ Same h M.length M M') ⟨⟨none, rfl⟩, S⟩ (by
    rintro i w hw ρ M4 ⟨⟨w4, rfl⟩, S⟩
    obtain ⟨b, rfl, b0, b1⟩ : ∃ b : Int, w = .d (.int b) ∧ 0 ≤ b ∧ b ≤ 1000001 := by
      have := List.mem_of_getElem? hw
      simp at this
      rcases this with rfl | rfl | rfl | rfl | rfl | rfl <;> exact ⟨_, rfl, by omega, by omega⟩
    by_cases hb : b ≤ 1000000
    · by_cases hz : z + b ≤ 1000000
      · have hg : (xs.map (shP b)).all okP = true := by rw [good b hb]; exact decide_eq_true hz
        have A2 := A.sh b0 hb
        obtain ⟨e5, q5⟩ := later_ok A b0 hb hg M4
        obtain ⟨e6, q6⟩ := moved_ok hl A.pv b (M4 ++ e5)
        have q7 := like_same _ (M4 ++ e5 ++ e6) (act_repr A2 hg)
        obtain ⟨e8, q8⟩ := later_ok A b0 hb hg (M4 ++ e5 ++ e6)
        have q9 := A2.ho
        rw [hg] at q9
        have q9 : Ho f_is_act [.d (actD n (xs.map (shP b)))] true := q9
        simp only [cond_true] at q5 q8
        have n1 : ¬ 1000000 < z + b := by omega
        have n2 : ¬ 1000000 < b := by omega
        refine ⟨_, _, M4 ++ e5 ++ e6 ++ e8, rfl, ?_, ⟨some (.d (.int b)), rfl⟩, S.trans ((((Same.snoc S.hand e5).trans ((Same.snoc (Same.snoc S.hand e5).hand e6).less (by simp))).trans ((Same.snoc ((Same.snoc (Same.snoc S.hand e5).hand e6)).hand e8).less (by simp))).less S.len)⟩
        simp only [List.append_assoc] at q5 q6 q7 q8
        simp [p1, n1, n2, q5, q6, q7, q8, q9 _]
      · have hg : (xs.map (shP b)).all okP = false := by rw [good b hb]; exact decide_eq_false hz
        obtain ⟨e5, q5⟩ := later_ok A b0 hb hg M4
        simp only [cond_false] at q5
        have n1 : 1000000 < z + b := by omega
        refine ⟨_, _, M4 ++ e5, rfl, ?_, ⟨some (.d (.int b)), rfl⟩, S.trans ((Same.snoc S.hand e5).less S.len)⟩
        simp [p1, n1, q5, fa]
    · have q5 := later_day_no A (.int b) rfl (by simp [isWithin]; omega) M4
      have n1 : 1000000 < z + b := by omega
      refine ⟨_, _, M4, rfl, ?_, ⟨some (.d (.int b)), rfl⟩, S⟩
      simp [p1, n1, q5, fa])
  clear hq
  obtain ⟨x, M6, e6, hx, S6⟩ := some_ok (xs := [.int (-1), .int 1000001, .bool true, .none, .str "1", .tuple [.int 1]]) S.hand (by simp) (by simp)
  have S := S.trans (S6.less S.len)
  have q7 : f_later_by [.d (actD n xs), .d x] M6 = .ex "NoAct" M6 := by
    simp at hx
    rcases hx with rfl | rfl | rfl | rfl | rfl | rfl <;> exact later_day_no A _ rfl (by simp [isWithin]) M6
  refine ⟨M6, ?_, S⟩
  simp [p1, e6, q7, fa]
end K08
end
section
set_option linter.all false
set_option maxRecDepth 100000
set_option maxHeartbeats 4000000
/-! K08zz: what is no act is refused; the law answers True. -/
namespace K08
open PySem PySem.Spec Pu PuX L2
section
variable {x : PyData} (hx : Ho f_is_act [.d x] false) (M : Store)
include hx
theorem marks_no : f_marks_of_act [.d x] M = .ex "NoAct" M := by
  have hc := fun M => check_act_no _ hx M
  simp [f_marks_of_act, f_marks_of_act_s, startE, hc]
theorem events_no : f_events_in [.d x] M = .ex "NoAct" M := by
  have hc := fun M => check_act_no _ hx M
  simp [f_events_in, f_events_in_s, startE, hc]
theorem days_no : f_days_in [.d x] M = .ex "NoAct" M := by
  have hc := fun M => check_act_no _ hx M
  simp [f_days_in, f_days_in_s, startE, hc]
theorem changed_no : f_acts_changed [.d x] M = .ex "NoAct" M := by
  have hc := fun M => check_act_no _ hx M
  simp [f_acts_changed, f_acts_changed_s, startE, hc]
theorem on_texts_no : f_on_texts [.d x] M = .ex "NoAct" M := by
  have hc := fun M => check_act_no _ hx M
  simp [f_on_texts, f_on_texts_s, startE, hc]
theorem later_no (y : PyData) : f_later_by [.d x, .d y] M = .ex "NoAct" M := by
  have hc := fun M => check_act_no _ hx M
  simp [f_later_by, f_later_by_s, startE, hc]
end
theorem act_list (ys : List PyData) : Ho f_is_act [.d (.list ys)] false := by
  intro M
  simp [f_is_act, f_is_act_s, startE, t_ofL]
theorem act_one (x : PyData) : Ho f_is_act [.d (.tuple [x])] false := by
  intro M
  simp [f_is_act, f_is_act_s, startE, t_of]
theorem act_inner (n : Int) (h0 : 1 ≤ n) (h1 : n ≤ 999) (ys : List PyData) : Ho f_is_act [.d (.tuple [.int n, .list ys])] false := by
  intro M
  have hw : isWithin (.int n) 1 999 = true := by simp [isWithin, h0, h1]
  simp [f_is_act, f_is_act_s, startE, t_of, v_is_within (.int n) 1 999 _ rfl, hw, isT]
theorem act_void : Ho f_is_act [.d (.tuple [.int 1, .tuple [.tuple [.tuple [.str "void", .tuple [.int 1, .int 0]], .int 0, .none]]])] false := by
  have ho := own_mk (i := 1) (j := 0) (by omega) (by omega) (by omega) (by omega)
  have q := oo_void 1 1 0 ho
  have t0 := time_int 0
  have p := pv_ok (.int 0) .none (.tuple [.str "void", .tuple [.int 1, .int 0]]) 1 false _ t0 end_none (or_other _ "void" [] true ho (.inl rfl) (.inl rfl)) q
  have := act_of 1 [.tuple [.tuple [.str "void", .tuple [.int 1, .int 0]], .int 0, .none]] (fun _ => false) (by omega) (by omega) (by simp) (fun x hx => by
    rw [List.mem_singleton] at hx
    subst hx
    exact p)
  exact this
theorem o_mulT (x : PyData) (M : Store) : pMul false (.d (.tuple [x])) (.d (.int 21)) M = .ok (.d (.tuple (List.replicate 21 [x]).flatten)) M := by
  have e : pMul false (.d (.tuple [x])) (.d (.int 21)) M = if (2 : Int) ≤ 21 ∧ (21 : Int) ≤ 1000 ∧ [x].length ≤ 1000 ∧ [x].length ≠ 0 then R.ok (W.d (.tuple (List.replicate (21 : Int).toNat [x]).flatten)) M else .bad := rfl
  rw [e, if_pos (by simp)]
  rfl
theorem refused_ok {h : Nat} {M : Store} (H : HandAt h M) {n : Int} {xs : List PyData} (A : ActG n xs) : ∃ M', f_law_are_refused [.p h, .d (actD n xs)] M = .ok (.d (.bool true)) M' ∧ Same h M.length M M' := by
  have hl := A.l1
  have n0 := A.n0
  have n1 := A.n1
  obtain ⟨x0, xr, ex⟩ : ∃ x0 xr, xs = x0 :: xr := by
    have := A.l0
    cases xs with
    | nil => simp at this
    | cons a b => exact ⟨a, b, rfl⟩
  have tk : xs.take 1 = [x0] := by rw [ex]; rfl
  let l : List PyData := [.none, .list [.int n, .tuple xs], .tuple [.int n], .tuple [.int n, .tuple []], .tuple [.int n, .list xs], .tuple [.int 0, .tuple xs], .tuple [.int 1000, .tuple xs], .tuple [.int n, .tuple (List.replicate 21 [x0]).flatten], .tuple [.int n, .tuple (xs ++ [.none])], .tuple [.int 1, .tuple [.tuple [.tuple [.str "void", .tuple [.int 1, .int 0]], .int 0, .none]]]]
  obtain ⟨x, M1, e1, hx, S⟩ := some_ok (xs := l) H (by simp [l]) (by simp [l])
  have hb : Ho f_is_act [.d x] false := by
    simp only [l, List.mem_cons, List.not_mem_nil, or_false] at hx
    rcases hx with rfl | rfl | rfl | rfl | rfl | rfl | rfl | rfl | rfl | rfl
    · exact act_none
    · exact act_list _
    · exact act_one _
    · have := act_of n [] okP (by omega) n1 (by simp) (fun x hx => by cases hx)
      exact this
    · exact act_inner n (by omega) n1 _
    · exact act_num _ _ rfl (by simp [isWithin])
    · exact act_num _ _ rfl (by simp [isWithin])
    · have := act_of n (List.replicate 21 [x0]).flatten okP (by omega) n1 (by simp) (fun x hx => by
        have : x = x0 := by simpa [List.mem_flatten] using hx
        subst this
        exact (A.pv x (by rw [ex]; simp)).ho n1)
      simpa using this
    · refine act_bad n _ (by omega) n1 (by simp; omega) (fun x hx => ?_) ⟨.none, by simp, pv_none n⟩
      rcases List.mem_append.mp hx with hx | hx
      · exact ⟨_, (A.pv x hx).ho n1⟩
      · rw [List.mem_singleton] at hx
        subst hx
        exact ⟨_, pv_none n⟩
    · exact act_void
  have fa := fh_act
  simp only [clL] at fa
  have w1 := marks_no hb
  have w2 := events_no hb
  have w3 := days_no hb
  have w4 := changed_no hb
  have w5 := on_texts_no hb
  have w6 := later_no hb
  simp only [l] at e1
  have t1 := fun M => o_addL M [.none, .list [.int n, .tuple xs], .tuple [.int n], .tuple [.int n, .tuple []], .tuple [.int n, .list xs], .tuple [.int 0, .tuple xs], .tuple [.int 1000, .tuple xs]] [.tuple [.int n, .tuple (List.replicate 21 [x0]).flatten], .tuple [.int n, .tuple (xs ++ [.none])], .tuple [.int 1, .tuple [.tuple [.tuple [.str "void", .tuple [.int 1, .int 0]], .int 0, .none]]]] (by simp)
  have t2 := fun M => o_addT M false xs [.none] (by simp; omega)
  have a (k : Nat) (hk : k < 100) := app_snoc M1 (List.replicate k (.d (.str "act"))) (.d (.str "act")) (by simp; omega)
  have y := ty_snoc M1
  have mt := fun M => o_mulT x0 M
  generalize hR : (List.replicate 21 [x0]).flatten = R21 at *
  have a1 := a 1 (by omega)
  have a2 := a 2 (by omega)
  have a3 := a 3 (by omega)
  have a4 := a 4 (by omega)
  have a5 := a 5 (by omega)
  simp only [List.replicate, List.cons_append, List.nil_append] at a1 a2 a3 a4 a5 t1
  refine ⟨M1 ++ [.lst (List.replicate 6 (.d (.str "act")))], ?_, S.trans ((Same.snoc S.hand _).less S.len)⟩
  have ml : ∀ M, pMul false (.d (.list [.str "act"])) (.d (.int 6)) M = .ok (.d (.list [.str "act", .str "act", .str "act", .str "act", .str "act", .str "act"])) M := by
    intro M
    have hs := sizeLine_eq
    unfold pMul
    simp only [isLst]
    rw [if_pos (by simp)]
    exact e_newF [.str "act", .str "act", .str "act", .str "act", .str "act", .str "act"] M
  have eq6 := eq_p M1.length (M1 ++ [.lst (List.replicate 6 (.d (.str "act")))]) [.str "act", .str "act", .str "act", .str "act", .str "act", .str "act"] (by rw [get_snoc]; rfl) (by decide +kernel) (by decide +kernel)
  simp only [List.replicate] at eq6
  simp [f_law_are_refused, f_law_are_refused_s, startE, actD, o_listT, tk, mt, t2, t1, e1, w1, w2, w3, w4, w5, w6, fa, y, a1, a2, a3, a4, a5, ml, eq6, hb _, List.replicate]
theorem hand_ok (ns : List Int) (hn : ns.length ≤ 63) : ∃ h M, f_law_hand ns [.scr] [] = .ok (.p h) M ∧ HandAt h M := by
  simp [f_law_hand, f_law_hand_s, startE]
  generalize hr : kLc _ _ _ _ _ _ _ = r
  obtain ⟨t, tp, p1⟩ : ∃ t : Int, 0 < t ∧ ∀ M, pPow (.d (.int 10)) (.d (.int 60)) M = .ok (.d (.int t)) M := ⟨10 ^ (60 : Int).toNat, by decide, fun M => o_pow M 10 60 (okPow_10 60 (by omega) (by omega))⟩
  have er := kLc_mapH hr ((ns.take 63).map .int) (fun x => match x with | .int c => .int (Int.fmod (if c < 0 then -c else c) t) | x => x) (by simp [List.map_take]) (by simp; omega) (fun x hx => by
    obtain ⟨c, _, rfl⟩ := List.mem_map.mp hx
    have md := fun M => o_mod M (if c < 0 then -c else c) t (okMod_of _ tp)
    exact ⟨_, rfl, by simp [p1, md]⟩)
  rw [List.map_map] at er
  have e2 : ((ns.take 63).map ((fun x => match x with | .int c => PyData.int (Int.fmod (if c < 0 then -c else c) t) | x => x) ∘ PyData.int)) = ((ns.take 63).map fun c => Int.fmod (if c < 0 then -c else c) t).map .int := by
    rw [List.map_map]
    rfl
  rw [e2] at er
  generalize ((ns.take 63).map fun c => Int.fmod (if c < 0 then -c else c) t) = cs at er
  subst er
  clear hr
  have m1 := fun M => o_mul M 11 (cs.length : Int) (okMul_l _ (by omega) (by omega))
  simp [m1, e_mkLst]
  exact ⟨0, _, ⟨rfl, rfl⟩, cs, 0, 0, _, 0, rfl⟩
theorem math (ns : List Int) (hns : ns.length ≤ 63) : ∃ M, f_law ns [.scr] [] = .ok (.d (.bool true)) M := by
  obtain ⟨h, M0, e0, H⟩ := hand_ok ns hns
  simp [f_law, f_law_s, startE, e0, kR1_ok _ _ (small62_of (i := 4) (by omega) (by omega))]
  generalize hq : kFor _ _ _ _ = q
  rw [show (4 : Int) = ((4 : Nat) : Int) from rfl, rng_map] at hq
  obtain ⟨ρ', M', rfl, H', w2, w3, w4, rfl⟩ := kFor_invH hq (fun i ρ M' => HandAt h M' ∧ ∃ w2 w3 w4, ρ = [some .scr, some (.p h), w2, w3, w4, none]) ⟨H, none, none, none, rfl⟩ (by
    rintro i w hw ρ M1 ⟨H1, w2, w3, w4, rfl⟩
    obtain ⟨x, M2, e2, hx, S2⟩ := some_ok (xs := [.int 2, .int 10, .int 11, .int 100, .int 102, .int 999]) H1 (by simp) (by simp)
    obtain ⟨n, rfl, n0, n1⟩ : ∃ n : Int, x = .int n ∧ 2 ≤ n ∧ n ≤ 999 := by
      simp at hx
      rcases hx with rfl | rfl | rfl | rfl | rfl | rfl <;> exact ⟨_, rfl, by omega, by omega⟩
    obtain ⟨x, M3, e3, hx, S3⟩ := some_ok (xs := [.int 1, .int 2, .int 11, .int 19, .int 20, .int 20]) S2.hand (by simp) (by simp)
    obtain ⟨k, rfl, k0, k1⟩ : ∃ k : Nat, x = .int (k : Int) ∧ 1 ≤ k ∧ k ≤ 20 := by
      simp at hx
      rcases hx with rfl | rfl | rfl | rfl | rfl
      · exact ⟨1, rfl, by omega, by omega⟩
      · exact ⟨2, rfl, by omega, by omega⟩
      · exact ⟨11, rfl, by omega, by omega⟩
      · exact ⟨19, rfl, by omega, by omega⟩
      · exact ⟨20, rfl, by omega, by omega⟩
    have lc : ∃ ys M4, kLc false (gN 5) tYesX (xFn f_law_provided (aCons (xV 1) (aCons (xV 3) aNil))) [5] [some .scr, some (.p h), some w, some (.d (.int n)), w4, none] (.ok (soL (((List.range k).map fun (i : Nat) => PyData.int (i : Int)).map .d)) M3) = .ok (.d (.list ys)) M4 ∧ HandAt h M4 ∧ ActG n ys := by
      obtain ⟨ys, M4, e, H4, l4, p4⟩ := kLc_rel (t := gN 5) (f := xFn f_law_provided (aCons (xV 1) (aCons (xV 3) aNil))) (ρ := [some .scr, some (.p h), some w, some (.d (.int n)), w4, none]) (vs := [5]) (ws := (((List.range k).map fun (i : Nat) => PyData.int (i : Int)).map .d)) (M := M3) (fun M' => HandAt h M') (fun _ _ y => PvG n y) (by simp; omega) S3.hand (fun i w hw M' H' => by
        obtain ⟨x, M'', e, hx, S⟩ := provided_ok H' n0 n1
        exact ⟨_, x, M'', rfl, by simp [e], S.hand, hx⟩)
      have pg : ∀ y ∈ ys, PvG n y := by
        intro y hy
        obtain ⟨i, hi, rfl⟩ := List.getElem_of_mem hy
        exact p4 i _ _ (List.getElem?_eq_getElem (by omega)) (List.getElem?_eq_getElem hi)
      simp at l4
      exact ⟨ys, M4, e, H4, ⟨n0, n1, by omega, by omega, fun y hy => (pg y hy).1⟩, List.all_eq_true.mpr fun y hy => (pg y hy).2⟩
    obtain ⟨ys, M4, e4, H4, A⟩ := lc
    have ho := A.ho
    obtain ⟨e5, q5⟩ := told_ok A M4
    have S5 := Same.snoc H4 e5
    obtain ⟨M6, e6, S6⟩ := later_right_ok S5.hand A
    obtain ⟨M7, e7, S7⟩ := refused_ok S6.hand A
    have sm : small62 (k : Int) = true := small62_of (by omega) (by omega)
    refine ⟨_, [some .scr, some (.p h), some w, some (.d (.int n)), some (.d (actD n ys)), none], M7, rfl, ?_, S7.hand, _, _, _, rfl⟩
    simp only [actD] at ho q5 e6 e7 ⊢
    simp only [List.map_map] at e4
    simp [e2, e3, kR1_ok _ _ sm, rng_map, e4, ho _, q5, e6, e7])
  exact ⟨M', by simp⟩
end K08
end
section
set_option linter.all false
set_option maxRecDepth 100000
set_option maxHeartbeats 4000000
/-! K08p: the defs do so (printed by gen.py). -/
namespace K08
open PySem PySem.Spec PyProof.Rows L2 Pu
def top (i : Nat) : Stmt := PySem.Challenge.pw_lawasknown_k08_whole_acts_of_twenty_prov.main.body.getD i (.Pass ⟨0, 0, 0, 0⟩)
def fa : List He.Fa := [.glo "is_within", .glo "is_tuple_of", .glo "is_day", .glo "is_letters", .glo "is_name", .glo "number_in", .glo "is_mark", .glo "mark_in", .glo "is_word", .glo "are_words", .glo "is_after", .glo "is_own_mark", .glo "is_order", .glo "is_time", .glo "is_end", .glo "is_on_order", .glo "is_provision", .glo "is_act", .glo "check_act", .glo "raw_is_on_order", .glo "marks_of_act", .glo "events_in", .glo "raw_times", .glo "days_in", .glo "acts_changed", .glo "on_texts", .glo "later_by", .glo "shifted", .glo "_law_hand", .glo "_law_draw", .glo "_law_some", .glo "_law_like", .glo "_law_is_on_text", .glo "_law_provided", .glo "_law_when", .glo "_law_on_text", .glo "_law_times", .glo "_law_numbers", .glo "_law_is_told_right", .glo "_law_later", .glo "_law_moved", .glo "_law_word", .glo "_law_is_later_right", .glo "_law_are_refused", .glo "law", .free "isinstance", .free "int", .free "bool", .free "tuple", .free "len", .int "MOST_DAY" 1000000, .free "str", .str "LETTERS" "abcdefghijklmnopqrstuvwxyz", .free "all", .int "MOST_NAME" 8, .str "FIGURES" "0123456789", .int "MOST_ACT" 999, .int "MOST_ORDERS" 20, .int "MOST_WORD" 12, .int "MOST_WORDS" 12, .glo "ROOT", .str "PUT" "put", .str "DROP" "drop", .str "WORDS" "words", .str "SWAP" "swap", .str "NAME" "name", .str "MOVE" "move", .glo "ON_ORDERS", .str "VOID" "void", .str "START" "start", .str "END" "end", .glo "NoAct", .exc "NoAct", .free "range", .free "sorted", .free "enumerate", .free "abs", .free "repr", .free "sum", .free "set", .free "max", .free "list", .exm "NoAct" "NoAct" true, .glo "LawError"]
def fn : List He.DefD := [⟨("is_within", none), "is_within", "is_within", defArgs (top 13), defBody (top 13), defScope (top 13), [], []⟩, ⟨("is_tuple_of", none), "is_tuple_of", "is_tuple_of", defArgs (top 14), defBody (top 14), defScope (top 14), [], []⟩, ⟨("is_day", none), "is_day", "is_day", defArgs (top 15), defBody (top 15), defScope (top 15), [], []⟩, ⟨("is_letters", none), "is_letters", "is_letters", defArgs (top 16), defBody (top 16), defScope (top 16), [], []⟩, ⟨("is_name", none), "is_name", "is_name", defArgs (top 17), defBody (top 17), defScope (top 17), [], []⟩, ⟨("number_in", none), "number_in", "number_in", defArgs (top 18), defBody (top 18), defScope (top 18), [], []⟩, ⟨("is_mark", none), "is_mark", "is_mark", defArgs (top 19), defBody (top 19), defScope (top 19), [], []⟩, ⟨("mark_in", none), "mark_in", "mark_in", defArgs (top 20), defBody (top 20), defScope (top 20), [], []⟩, ⟨("is_word", none), "is_word", "is_word", defArgs (top 21), defBody (top 21), defScope (top 21), [], []⟩, ⟨("are_words", none), "are_words", "are_words", defArgs (top 22), defBody (top 22), defScope (top 22), [], []⟩, ⟨("is_after", none), "is_after", "is_after", defArgs (top 30), defBody (top 30), defScope (top 30), [], []⟩, ⟨("is_own_mark", none), "is_own_mark", "is_own_mark", defArgs (top 31), defBody (top 31), defScope (top 31), [], []⟩, ⟨("is_order", none), "is_order", "is_order", defArgs (top 32), defBody (top 32), defScope (top 32), [], []⟩, ⟨("is_time", none), "is_time", "is_time", defArgs (top 39), defBody (top 39), defScope (top 39), [], []⟩, ⟨("is_end", none), "is_end", "is_end", defArgs (top 40), defBody (top 40), defScope (top 40), [], []⟩, ⟨("is_on_order", none), "is_on_order", "is_on_order", defArgs (top 41), defBody (top 41), defScope (top 41), [], []⟩, ⟨("is_provision", none), "is_provision", "is_provision", defArgs (top 42), defBody (top 42), defScope (top 42), [], []⟩, ⟨("is_act", none), "is_act", "is_act", defArgs (top 43), defBody (top 43), defScope (top 43), [], []⟩, ⟨("check_act", none), "check_act", "check_act", defArgs (top 44), defBody (top 44), defScope (top 44), [], []⟩, ⟨("raw_is_on_order", none), "raw_is_on_order", "raw_is_on_order", defArgs (top 45), defBody (top 45), defScope (top 45), [], []⟩, ⟨("marks_of_act", none), "marks_of_act", "marks_of_act", defArgs (top 46), defBody (top 46), defScope (top 46), [], []⟩, ⟨("events_in", none), "events_in", "events_in", defArgs (top 47), defBody (top 47), defScope (top 47), [], []⟩, ⟨("raw_times", none), "raw_times", "raw_times", defArgs (top 48), defBody (top 48), defScope (top 48), [], []⟩, ⟨("days_in", none), "days_in", "days_in", defArgs (top 49), defBody (top 49), defScope (top 49), [], []⟩, ⟨("acts_changed", none), "acts_changed", "acts_changed", defArgs (top 50), defBody (top 50), defScope (top 50), [], []⟩, ⟨("on_texts", none), "on_texts", "on_texts", defArgs (top 51), defBody (top 51), defScope (top 51), [], []⟩, ⟨("later_by", none), "later_by", "later_by", defArgs (top 52), defBody (top 52), defScope (top 52), [], []⟩, ⟨("shifted", none), "shifted", "shifted", defArgs (top 53), defBody (top 53), defScope (top 53), [], []⟩, ⟨("_law_hand", none), "_law_hand", "_law_hand", defArgs (top 55), defBody (top 55), defScope (top 55), [], []⟩, ⟨("_law_draw", none), "_law_draw", "_law_draw", defArgs (top 56), defBody (top 56), defScope (top 56), [], []⟩, ⟨("_law_some", none), "_law_some", "_law_some", defArgs (top 57), defBody (top 57), defScope (top 57), [], []⟩, ⟨("_law_like", none), "_law_like", "_law_like", defArgs (top 58), defBody (top 58), defScope (top 58), [], []⟩, ⟨("_law_is_on_text", none), "_law_is_on_text", "_law_is_on_text", defArgs (top 59), defBody (top 59), defScope (top 59), [], []⟩, ⟨("_law_provided", none), "_law_provided", "_law_provided", defArgs (top 60), defBody (top 60), defScope (top 60), [], []⟩, ⟨("_law_when", none), "_law_when", "_law_when", defArgs (top 61), defBody (top 61), defScope (top 61), [], []⟩, ⟨("_law_on_text", none), "_law_on_text", "_law_on_text", defArgs (top 62), defBody (top 62), defScope (top 62), [], []⟩, ⟨("_law_times", none), "_law_times", "_law_times", defArgs (top 63), defBody (top 63), defScope (top 63), [], []⟩, ⟨("_law_numbers", none), "_law_numbers", "_law_numbers", defArgs (top 64), defBody (top 64), defScope (top 64), [], []⟩, ⟨("_law_is_told_right", none), "_law_is_told_right", "_law_is_told_right", defArgs (top 65), defBody (top 65), defScope (top 65), [], []⟩, ⟨("_law_later", none), "_law_later", "_law_later", defArgs (top 66), defBody (top 66), defScope (top 66), [], []⟩, ⟨("_law_moved", none), "_law_moved", "_law_moved", defArgs (top 67), defBody (top 67), defScope (top 67), [], []⟩, ⟨("_law_word", none), "_law_word", "_law_word", defArgs (top 68), defBody (top 68), defScope (top 68), [], []⟩, ⟨("_law_is_later_right", none), "_law_is_later_right", "_law_is_later_right", defArgs (top 69), defBody (top 69), defScope (top 69), [], []⟩, ⟨("_law_are_refused", none), "_law_are_refused", "_law_are_refused", defArgs (top 70), defBody (top 70), defScope (top 70), [], []⟩, ⟨("law", none), "law", "law", defArgs (top 71), defBody (top 71), defScope (top 71), [], []⟩]
structure CtxK (Y : Wd) (P : Program) (w : World) (mg : Str → Option Value) (base : Heap) : Prop where
  s : Said fa fn Y mg
  k_ROOT : KTup Y mg "ROOT" [.int 0, .int 0]
  k_ON_ORDERS : KTup Y mg "ON_ORDERS" [.str "void", .str "start", .str "end", .str "instead"]
  wrd : Wrd Y mg "_law_word" [("NoAct", "act"), ("LawError", "other")] "let"
  m_law_is_later_right : Mkr Y base mg (.ref (He.codeOf Y.K ("_law_is_later_right", none))) (PySem.Str.ofString "_law_is_later_right" ++ ".<locals>.")
  m_law_are_refused : Mkr Y base mg (.ref (He.codeOf Y.K ("_law_are_refused", none))) (PySem.Str.ofString "_law_are_refused" ++ ".<locals>.")
  subOk : ∀ c h b, sub c h = some b → PySem.W.exmOne Y.K (.ref (He.ga Y.K c)) (.ref (He.ga Y.K h)) = some b
theorem sub_ok {Y : Wd} {mg : Str → Option Value} (S : Said fa fn Y mg) : ∀ c h b, sub c h = some b → PySem.W.exmOne Y.K (.ref (He.ga Y.K c)) (.ref (He.ga Y.K h)) = some b := by
  intro c h b e
  obtain ⟨t, ht, rfl⟩ := Option.map_eq_some_iff.mp e
  have h1 := List.find?_some ht
  have h2 := List.mem_of_find?_eq_some ht
  obtain ⟨rfl, rfl⟩ := of_decide_eq_true h1
  simp only [subT, List.mem_cons, List.not_mem_nil, or_false] at h2
  rcases h2 with rfl
  · exact S.exm 82 rfl
end K08
end
section
set_option linter.all false
set_option maxRecDepth 1000000
set_option maxHeartbeats 0
/-! K08h: the head runs (printed by gen.py). -/
namespace K08
open PySem PySem.Spec PyProof.Rows L2 Pu
abbrev Rw : PySem.W.OpenRow := PySem.W.OpenLaw.row PySem.Challenge.rw_lawasknown_k08_whole_acts_of_twenty_prov
def qv : Program := PySem.W.view Rw.prog [71]
def names0 : List PySem.Str := ["__name__", "LawError", "NoAct", "LETTERS", "FIGURES", "MOST_DAY", "MOST_ACT", "MOST_ORDERS", "MOST_NAME", "MOST_WORD", "MOST_WORDS", "ROOT", "is_within", "is_tuple_of", "is_day", "is_letters", "is_name", "number_in", "is_mark", "mark_in", "is_word", "are_words", "PUT", "DROP", "WORDS", "SWAP", "NAME", "MOVE", "is_after", "is_own_mark"]
def names1 : List PySem.Str := ["is_order", "VOID", "START", "END", "INSTEAD", "ON_ORDERS", "is_time", "is_end", "is_on_order", "is_provision", "is_act", "check_act", "raw_is_on_order", "marks_of_act", "events_in", "raw_times", "days_in", "acts_changed", "on_texts", "later_by", "shifted", "_law_hand", "_law_draw", "_law_some", "_law_like", "_law_is_on_text", "_law_provided", "_law_when", "_law_on_text", "_law_times"]
def names2 : List PySem.Str := ["_law_numbers", "_law_is_told_right", "_law_later", "_law_moved", "_law_word", "_law_is_later_right", "_law_are_refused"]
def names : List PySem.Str := names0 ++ names1 ++ names2
def ex (K : PySem.W.Frag) : Bool := He.tupB K "ROOT" ([(.int 0), (.int 0)].map dvOf) && (He.tupB K "ON_ORDERS" ([.str "void", .str "start", .str "end", .str "instead"].map dvOf) && (!((He.cT K ("_law_is_later_right", none)).2 == (He.cT K ("_law_are_refused", none)).2)))
def tf : List He.Defn := [("_law_is_later_right", none), ("_law_are_refused", none)]
def hk : PySem.W.Hook := He.hookX 5 fa fn [] tf ex
def ob (s : PySem.W.SharedT) : He.AlX := He.obsX 5 fa fn [] tf ex (HandSHeadRun.getT s)
theorem ob_eq (s : PySem.W.SharedT) : ob s = hk.obs s.abs := He.obsX_eq (HandSHeadRun.getT_eq s)
theorem run (w : World) : HandSHeadRun.RunEq Rw qv hk ob 8000 names w := by
  intro os
  kernel_rfl
end K08
end
section
set_option linter.all false
set_option maxRecDepth 100000
set_option maxHeartbeats 4000000
/-! K08q00: the defs do so (printed by gen.py). -/
namespace K08
open PySem PySem.Spec PyProof.Rows L2 Pu
section
variable {Y : Wd} {P : Program} {w : World} {mg : Str → Option Value} {base : Heap}
theorem ok_is_within (S : CtxK Y P w mg base) : Okf Y P w mg base false 1 "is_within" 3 (f_is_within) := by
  obtain ⟨fd, D0⟩ := S.s.dfn 0 rfl
  have D : FunD Y.K "is_within" "is_within" (defArgs (top 13)) (defBody (top 13)) (defScope (top 13)) [] [] (He.fAd Y.K ("is_within", none)) fd := D0
  clear D0
  have SC : FnScope ["thing", "least", "most"] ["thing", "least", "most"] (defScope (top 13)) := ⟨rfl, rfl, rfl, by decide +kernel, rfl, by decide +kernel, by decide +kernel⟩
  refine okf_of D rfl (S.s.glo 0 rfl) SC rfl rfl (fun _ _ _ _ _ _ us hl => match us, hl with | [_, _, _], _ => rfl) fun cdv hcdv A outer s H E hr => ?_
  have tk : Takes (cxOf (L2.CX P w) P w Y.K mg base ["thing", "least", "most"] "is_within" (defScope (top 13)) (He.fAd Y.K ("is_within", none)) cdv A outer s H E) (fun c d _ H' => E c d H') := takes_of (E₁ := fun e' s'' => L2.CX P w outer H s E e' s'') rfl rfl rfl rfl
  exact (ss_one (ps_retS (px_and (px_isi (px_v 0) (by decide) rfl (S.s.free 45 rfl) rfl (S.s.free 46 rfl)) (px_and (px_not (px_isi (px_v 0) (by decide) rfl (S.s.free 45 rfl) rfl (S.s.free 47 rfl))) (px_one (px_chain s_cmpI s_cmpI op_le op_le (px_v 1) (px_v 0) (px_v 2)))))))
theorem ok_is_tuple_of (S : CtxK Y P w mg base) : Okf Y P w mg base false 1 "is_tuple_of" 2 (f_is_tuple_of) := by
  obtain ⟨fd, D0⟩ := S.s.dfn 1 rfl
  have D : FunD Y.K "is_tuple_of" "is_tuple_of" (defArgs (top 14)) (defBody (top 14)) (defScope (top 14)) [] [] (He.fAd Y.K ("is_tuple_of", none)) fd := D0
  clear D0
  have SC : FnScope ["thing", "many"] ["thing", "many"] (defScope (top 14)) := ⟨rfl, rfl, rfl, by decide +kernel, rfl, by decide +kernel, by decide +kernel⟩
  refine okf_of D rfl (S.s.glo 1 rfl) SC rfl rfl (fun _ _ _ _ _ _ us hl => match us, hl with | [_, _], _ => rfl) fun cdv hcdv A outer s H E hr => ?_
  have tk : Takes (cxOf (L2.CX P w) P w Y.K mg base ["thing", "many"] "is_tuple_of" (defScope (top 14)) (He.fAd Y.K ("is_tuple_of", none)) cdv A outer s H E) (fun c d _ H' => E c d H') := takes_of (E₁ := fun e' s'' => L2.CX P w outer H s E e' s'') rfl rfl rfl rfl
  exact (ss_one (ps_retS (px_and (px_isi (px_v 0) (by decide) rfl (S.s.free 45 rfl) rfl (S.s.free 48 rfl)) (px_one (px_cmp s_eq (or_eq hr.r.units) (px_callB s_len or_len rfl (S.s.free 49 rfl) boot_len (pa_c (px_v 0) pa_n)) (px_v 1))))))
theorem ok_is_day (S : CtxK Y P w mg base) : Okf Y P w mg base false 2 "is_day" 1 (f_is_day) := by
  obtain ⟨fd, D0⟩ := S.s.dfn 2 rfl
  have D : FunD Y.K "is_day" "is_day" (defArgs (top 15)) (defBody (top 15)) (defScope (top 15)) [] [] (He.fAd Y.K ("is_day", none)) fd := D0
  clear D0
  have SC : FnScope ["thing"] ["thing"] (defScope (top 15)) := ⟨rfl, rfl, rfl, by decide +kernel, rfl, by decide +kernel, by decide +kernel⟩
  refine okf_of D rfl (S.s.glo 2 rfl) SC rfl rfl (fun _ _ _ _ _ _ us hl => match us, hl with | [_], _ => rfl) fun cdv hcdv A outer s H E hr => ?_
  have tk : Takes (cxOf (L2.CX P w) P w Y.K mg base ["thing"] "is_day" (defScope (top 15)) (He.fAd Y.K ("is_day", none)) cdv A outer s H E) (fun c d _ H' => E c d H') := takes_of (E₁ := fun e' s'' => L2.CX P w outer H s E e' s'') rfl rfl rfl rfl
  exact (ss_one (ps_retS (px_fn (ok_is_within S) (by decide) rfl hr tk rfl rfl (pa_c (px_v 0) (pa_c px_int (pa_c (px_gi (S.s.int 50 rfl) rfl) pa_n))) (len_c (len_c (len_c (fun _ _ _ _ h => len_n h)))))))
theorem ok_is_letters (S : CtxK Y P w mg base) : Okf Y P w mg base false 1 "is_letters" 2 (f_is_letters) := by
  obtain ⟨fd, D0⟩ := S.s.dfn 3 rfl
  have D : FunD Y.K "is_letters" "is_letters" (defArgs (top 16)) (defBody (top 16)) (defScope (top 16)) [] [] (He.fAd Y.K ("is_letters", none)) fd := D0
  clear D0
  have SC : FnScope ["thing", "most", "sign"] ["thing", "most"] (defScope (top 16)) := ⟨rfl, rfl, rfl, by decide +kernel, rfl, by decide +kernel, by decide +kernel⟩
  refine okf_of D rfl (S.s.glo 3 rfl) SC rfl rfl (fun _ _ _ _ _ _ us hl => match us, hl with | [_, _], _ => rfl) fun cdv hcdv A outer s H E hr => ?_
  have tk : Takes (cxOf (L2.CX P w) P w Y.K mg base ["thing", "most", "sign"] "is_letters" (defScope (top 16)) (He.fAd Y.K ("is_letters", none)) cdv A outer s H E) (fun c d _ H' => E c d H') := takes_of (E₁ := fun e' s'' => L2.CX P w outer H s E e' s'') rfl rfl rfl rfl
  exact (ss_one (ps_retS (px_and (px_isi (px_v 0) (by decide) rfl (S.s.free 45 rfl) rfl (S.s.free 51 rfl)) (px_and (px_chain s_cmpI s_cmpI op_le op_le px_int (px_callB s_len or_len rfl (S.s.free 49 rfl) boot_len (pa_c (px_v 0) pa_n)) (px_v 1)) (px_one (px_callB s_all (cr_all rfl) rfl (S.s.free 53 rfl) boot_all (pa_c (px_lc false rfl SC.nd (own := [("sign", 2)]) (blkOk_by (by kernel_rfl)) (pi_w (px_v 0)) (fun s H C cl fp => (pg_n 2 SC.nd)) (fun s H C cl fp => pts_n) (fun s H C cl fp => (px_cmp s_in (or_in hr.u65) (px_v 2) (px_gs (S.s.str 52 rfl) rfl)))) pa_n)))))))
theorem ok_is_name (S : CtxK Y P w mg base) : Okf Y P w mg base false 2 "is_name" 1 (f_is_name) := by
  obtain ⟨fd, D0⟩ := S.s.dfn 4 rfl
  have D : FunD Y.K "is_name" "is_name" (defArgs (top 17)) (defBody (top 17)) (defScope (top 17)) [] [] (He.fAd Y.K ("is_name", none)) fd := D0
  clear D0
  have SC : FnScope ["thing"] ["thing"] (defScope (top 17)) := ⟨rfl, rfl, rfl, by decide +kernel, rfl, by decide +kernel, by decide +kernel⟩
  refine okf_of D rfl (S.s.glo 4 rfl) SC rfl rfl (fun _ _ _ _ _ _ us hl => match us, hl with | [_], _ => rfl) fun cdv hcdv A outer s H E hr => ?_
  have tk : Takes (cxOf (L2.CX P w) P w Y.K mg base ["thing"] "is_name" (defScope (top 17)) (He.fAd Y.K ("is_name", none)) cdv A outer s H E) (fun c d _ H' => E c d H') := takes_of (E₁ := fun e' s'' => L2.CX P w outer H s E e' s'') rfl rfl rfl rfl
  exact (ss_one (ps_retS (px_fn (ok_is_letters S) (by decide) rfl hr tk rfl rfl (pa_c (px_v 0) (pa_c (px_gi (S.s.int 54 rfl) rfl) pa_n)) (len_c (len_c (fun _ _ _ _ h => len_n h))))))
theorem ok_number_in (S : CtxK Y P w mg base) : Okf Y P w mg base false 1 "number_in" 2 (f_number_in) := by
  obtain ⟨fd, D0⟩ := S.s.dfn 5 rfl
  have D : FunD Y.K "number_in" "number_in" (defArgs (top 18)) (defBody (top 18)) (defScope (top 18)) [] [] (He.fAd Y.K ("number_in", none)) fd := D0
  clear D0
  have SC : FnScope ["word", "most", "sign"] ["word", "most"] (defScope (top 18)) := ⟨rfl, rfl, rfl, by decide +kernel, rfl, by decide +kernel, by decide +kernel⟩
  refine okf_of D rfl (S.s.glo 5 rfl) SC rfl rfl (fun _ _ _ _ _ _ us hl => match us, hl with | [_, _], _ => rfl) fun cdv hcdv A outer s H E hr => ?_
  have tk : Takes (cxOf (L2.CX P w) P w Y.K mg base ["word", "most", "sign"] "number_in" (defScope (top 18)) (He.fAd Y.K ("number_in", none)) cdv A outer s H E) (fun c d _ H' => E c d H') := takes_of (E₁ := fun e' s'' => L2.CX P w outer H s E e' s'') rfl rfl rfl rfl
  exact (ss_cons (ps_ifS (PW.pt (pw_or2 (pt_not2 (pt_chain2 s_cmpI s_cmpI op_le op_le px_int (px_callB s_len or_len rfl (S.s.free 49 rfl) boot_len (pa_c (px_v 0) pa_n)) px_int)) (pw_or1 (pt_not2 (pt_e (px_callB s_all (cr_all rfl) rfl (S.s.free 53 rfl) boot_all (pa_c (px_lc false rfl SC.nd (own := [("sign", 2)]) (blkOk_by (by kernel_rfl)) (pi_w (px_v 0)) (fun s H C cl fp => (pg_n 2 SC.nd)) (fun s H C cl fp => pts_n) (fun s H C cl fp => (px_cmp s_in (or_in hr.u65) (px_v 2) (px_gs (S.s.str 55 rfl) rfl)))) pa_n))))))) (ss_one (ps_retS px_non)) ss_nil)
  (ss_one (ps_retS (px_if (PW.pt (pw_and2 (pt_cmp2 s_eq (or_eq hr.r.units) (px_callT s_str or_str rfl (S.s.free 51 rfl) boot_str (pa_c (px_callT s_int or_int rfl (S.s.free 46 rfl) boot_int (pa_c (px_v 0) pa_n)) pa_n)) (px_v 0)) (pw_and1 (pt_cmp2 s_cmpI op_le (px_callT s_int or_int rfl (S.s.free 46 rfl) boot_int (pa_c (px_v 0) pa_n)) (px_v 1))))) (px_callT s_int or_int rfl (S.s.free 46 rfl) boot_int (pa_c (px_v 0) pa_n)) px_non))))
end
end K08
end
section
set_option linter.all false
set_option maxRecDepth 100000
set_option maxHeartbeats 4000000
/-! K08q01: the defs do so (printed by gen.py). -/
namespace K08
open PySem PySem.Spec PyProof.Rows L2 Pu
section
variable {Y : Wd} {P : Program} {w : World} {mg : Str → Option Value} {base : Heap}
theorem ok_is_mark (S : CtxK Y P w mg base) : Okf Y P w mg base false 2 "is_mark" 1 (f_is_mark) := by
  obtain ⟨fd, D0⟩ := S.s.dfn 6 rfl
  have D : FunD Y.K "is_mark" "is_mark" (defArgs (top 19)) (defBody (top 19)) (defScope (top 19)) [] [] (He.fAd Y.K ("is_mark", none)) fd := D0
  clear D0
  have SC : FnScope ["thing"] ["thing"] (defScope (top 19)) := ⟨rfl, rfl, rfl, by decide +kernel, rfl, by decide +kernel, by decide +kernel⟩
  refine okf_of D rfl (S.s.glo 6 rfl) SC rfl rfl (fun _ _ _ _ _ _ us hl => match us, hl with | [_], _ => rfl) fun cdv hcdv A outer s H E hr => ?_
  have tk : Takes (cxOf (L2.CX P w) P w Y.K mg base ["thing"] "is_mark" (defScope (top 19)) (He.fAd Y.K ("is_mark", none)) cdv A outer s H E) (fun c d _ H' => E c d H') := takes_of (E₁ := fun e' s'' => L2.CX P w outer H s E e' s'') rfl rfl rfl rfl
  exact (ss_cons (ps_ifS (PW.pt (pw_or2 (pt_not2 (pt_e (px_fn (ok_is_tuple_of S) (by decide) rfl hr tk rfl rfl (pa_c (px_v 0) (pa_c px_int pa_n)) (len_c (len_c (fun _ _ _ _ h => len_n h)))))) (pw_or1 (pt_not2 (pt_e (px_fn (ok_is_within S) (by decide) rfl hr tk rfl rfl (pa_c (px_ix s_ix (or_ix hr.u1) (px_v 0) px_int) (pa_c px_int (pa_c (px_gi (S.s.int 56 rfl) rfl) pa_n))) (len_c (len_c (len_c (fun _ _ _ _ h => len_n h)))))))))) (ss_one (ps_retS px_bl)) ss_nil)
  (ss_one (ps_retS (px_and (px_fn (ok_is_within S) (by decide) rfl hr tk rfl rfl (pa_c (px_ix s_ix (or_ix hr.u1) (px_v 0) px_int) (pa_c px_int (pa_c (px_op s_sub op_sub (px_gi (S.s.int 57 rfl) rfl) px_int) pa_n))) (len_c (len_c (len_c (fun _ _ _ _ h => len_n h))))) (px_one (px_or (px_cmp s_cmpI op_gt (px_ix s_ix (or_ix hr.u1) (px_v 0) px_int) px_int) (px_one (px_cmp s_eq (or_eq hr.r.units) (px_ix s_ix (or_ix hr.u1) (px_v 0) px_int) px_int))))))))
theorem ok_mark_in (S : CtxK Y P w mg base) : Okf Y P w mg base false 3 "mark_in" 1 (f_mark_in) := by
  obtain ⟨fd, D0⟩ := S.s.dfn 7 rfl
  have D : FunD Y.K "mark_in" "mark_in" (defArgs (top 20)) (defBody (top 20)) (defScope (top 20)) [] [] (He.fAd Y.K ("mark_in", none)) fd := D0
  clear D0
  have SC : FnScope ["word", "parts", "act", "order"] ["word"] (defScope (top 20)) := ⟨rfl, rfl, rfl, by decide +kernel, rfl, by decide +kernel, by decide +kernel⟩
  refine okf_of D rfl (S.s.glo 7 rfl) SC rfl rfl (fun _ _ _ _ _ _ us hl => match us, hl with | [_], _ => rfl) fun cdv hcdv A outer s H E hr => ?_
  have tk : Takes (cxOf (L2.CX P w) P w Y.K mg base ["word", "parts", "act", "order"] "mark_in" (defScope (top 20)) (He.fAd Y.K ("mark_in", none)) cdv A outer s H E) (fun c d _ H' => E c d H') := takes_of (E₁ := fun e' s'' => L2.CX P w outer H s E e' s'') rfl rfl rfl rfl
  exact (ss_cons (ps_setS 1 SC.nd (px_m s_split (.inr (.inl rfl)) F.plainAttrs_str F.slot_str_split F.type_str_split mt_split (px_sl false (px_v 0) (po_s px_int) po_n) (pa_c px_str pa_n)))
  (ss_cons (ps_ifS (PW.pt (pw_or2 (pt_cmp2 s_ne (or_ne hr.r.units) (px_sl false (px_v 0) po_n (po_s px_int)) px_str) (pw_or1 (pt_cmp2 s_ne (or_ne hr.r.units) (px_callB s_len or_len rfl (S.s.free 49 rfl) boot_len (pa_c (px_v 1) pa_n)) px_int)))) (ss_one (ps_retS px_non)) ss_nil)
  (ss_cons (ps_parS 2 3 rfl SC.nd (pa_c (px_fn (ok_number_in S) (by decide) rfl hr tk rfl rfl (pa_c (px_ix s_ix (or_ix hr.u1) (px_v 1) px_int) (pa_c (px_gi (S.s.int 56 rfl) rfl) pa_n)) (len_c (len_c (fun _ _ _ _ h => len_n h)))) (pa_c (px_fn (ok_number_in S) (by decide) rfl hr tk rfl rfl (pa_c (px_ix s_ix (or_ix hr.u1) (px_v 1) px_int) (pa_c (px_op s_sub op_sub (px_gi (S.s.int 57 rfl) rfl) px_int) pa_n)) (len_c (len_c (fun _ _ _ _ h => len_n h)))) pa_n)))
  (ss_one (ps_retS (px_if (PW.pt (pw_and2 (pt_cmp2 s_isNot or_isNot (px_v 2) px_non) (pw_and2 (pt_cmp2 s_isNot or_isNot (px_v 3) px_non) (pw_and1 (pt_e (px_fn (ok_is_mark S) (by decide) rfl hr tk rfl rfl (pa_c (px_tup (pa_c (px_v 2) (pa_c (px_v 3) pa_n))) pa_n) (len_c (fun _ _ _ _ h => len_n h)))))))) (px_tup (pa_c (px_v 2) (pa_c (px_v 3) pa_n))) px_non))))))
theorem ok_is_word (S : CtxK Y P w mg base) : Okf Y P w mg base false 4 "is_word" 1 (f_is_word) := by
  obtain ⟨fd, D0⟩ := S.s.dfn 8 rfl
  have D : FunD Y.K "is_word" "is_word" (defArgs (top 21)) (defBody (top 21)) (defScope (top 21)) [] [] (He.fAd Y.K ("is_word", none)) fd := D0
  clear D0
  have SC : FnScope ["thing"] ["thing"] (defScope (top 21)) := ⟨rfl, rfl, rfl, by decide +kernel, rfl, by decide +kernel, by decide +kernel⟩
  refine okf_of D rfl (S.s.glo 8 rfl) SC rfl rfl (fun _ _ _ _ _ _ us hl => match us, hl with | [_], _ => rfl) fun cdv hcdv A outer s H E hr => ?_
  have tk : Takes (cxOf (L2.CX P w) P w Y.K mg base ["thing"] "is_word" (defScope (top 21)) (He.fAd Y.K ("is_word", none)) cdv A outer s H E) (fun c d _ H' => E c d H') := takes_of (E₁ := fun e' s'' => L2.CX P w outer H s E e' s'') rfl rfl rfl rfl
  exact (ss_cons (ps_ifS (pt_e (px_fn (ok_is_letters S) (by decide) rfl hr tk rfl rfl (pa_c (px_v 0) (pa_c (px_gi (S.s.int 58 rfl) rfl) pa_n)) (len_c (len_c (fun _ _ _ _ h => len_n h))))) (ss_one (ps_retS px_bl)) ss_nil)
  (ss_one (ps_retS (px_and (px_isi (px_v 0) (by decide) rfl (S.s.free 45 rfl) rfl (S.s.free 51 rfl)) (px_and (px_cmp s_cmpI op_le (px_callB s_len or_len rfl (S.s.free 49 rfl) boot_len (pa_c (px_v 0) pa_n)) (px_gi (S.s.int 58 rfl) rfl)) (px_one (px_cmp s_isNot or_isNot (px_fn (ok_mark_in S) (by decide) rfl hr tk rfl rfl (pa_c (px_v 0) pa_n) (len_c (fun _ _ _ _ h => len_n h))) px_non)))))))
theorem ok_are_words (S : CtxK Y P w mg base) : Okf Y P w mg base false 5 "are_words" 1 (f_are_words) := by
  obtain ⟨fd, D0⟩ := S.s.dfn 9 rfl
  have D : FunD Y.K "are_words" "are_words" (defArgs (top 22)) (defBody (top 22)) (defScope (top 22)) [] [] (He.fAd Y.K ("are_words", none)) fd := D0
  clear D0
  have SC : FnScope ["thing", "word"] ["thing"] (defScope (top 22)) := ⟨rfl, rfl, rfl, by decide +kernel, rfl, by decide +kernel, by decide +kernel⟩
  refine okf_of D rfl (S.s.glo 9 rfl) SC rfl rfl (fun _ _ _ _ _ _ us hl => match us, hl with | [_], _ => rfl) fun cdv hcdv A outer s H E hr => ?_
  have tk : Takes (cxOf (L2.CX P w) P w Y.K mg base ["thing", "word"] "are_words" (defScope (top 22)) (He.fAd Y.K ("are_words", none)) cdv A outer s H E) (fun c d _ H' => E c d H') := takes_of (E₁ := fun e' s'' => L2.CX P w outer H s E e' s'') rfl rfl rfl rfl
  exact (ss_one (ps_retS (px_and (px_isi (px_v 0) (by decide) rfl (S.s.free 45 rfl) rfl (S.s.free 48 rfl)) (px_and (px_cmp s_cmpI op_le (px_callB s_len or_len rfl (S.s.free 49 rfl) boot_len (pa_c (px_v 0) pa_n)) (px_gi (S.s.int 59 rfl) rfl)) (px_one (px_callB s_all (cr_all rfl) rfl (S.s.free 53 rfl) boot_all (pa_c (px_lc false rfl SC.nd (own := [("word", 1)]) (blkOk_by (by kernel_rfl)) (pi_w (px_v 0)) (fun s H C cl fp => (pg_n 1 SC.nd)) (fun s H C cl fp => pts_n) (fun s H C cl fp => (px_fn (ok_is_word S) (by decide) rfl hr takes0 rfl rfl (pa_c (px_v 1) pa_n) (len_c (fun _ _ _ _ h => len_n h))))) pa_n)))))))
theorem ok_is_after (S : CtxK Y P w mg base) : Okf Y P w mg base false 3 "is_after" 1 (f_is_after) := by
  obtain ⟨fd, D0⟩ := S.s.dfn 10 rfl
  have D : FunD Y.K "is_after" "is_after" (defArgs (top 30)) (defBody (top 30)) (defScope (top 30)) [] [] (He.fAd Y.K ("is_after", none)) fd := D0
  clear D0
  have SC : FnScope ["thing"] ["thing"] (defScope (top 30)) := ⟨rfl, rfl, rfl, by decide +kernel, rfl, by decide +kernel, by decide +kernel⟩
  refine okf_of D rfl (S.s.glo 10 rfl) SC rfl rfl (fun _ _ _ _ _ _ us hl => match us, hl with | [_], _ => rfl) fun cdv hcdv A outer s H E hr => ?_
  have tk : Takes (cxOf (L2.CX P w) P w Y.K mg base ["thing"] "is_after" (defScope (top 30)) (He.fAd Y.K ("is_after", none)) cdv A outer s H E) (fun c d _ H' => E c d H') := takes_of (E₁ := fun e' s'' => L2.CX P w outer H s E e' s'') rfl rfl rfl rfl
  exact (ss_one (ps_retS (px_or (px_cmp s_is or_is (px_v 0) px_non) (px_one (px_and (px_fn (ok_is_mark S) (by decide) rfl hr tk rfl rfl (pa_c (px_v 0) pa_n) (len_c (fun _ _ _ _ h => len_n h))) (px_one (px_cmpK S.k_ROOT s_neK (or_ne hr.r.units) (px_v 0) rfl)))))))
theorem ok_is_own_mark (S : CtxK Y P w mg base) : Okf Y P w mg base false 3 "is_own_mark" 1 (f_is_own_mark) := by
  obtain ⟨fd, D0⟩ := S.s.dfn 11 rfl
  have D : FunD Y.K "is_own_mark" "is_own_mark" (defArgs (top 31)) (defBody (top 31)) (defScope (top 31)) [] [] (He.fAd Y.K ("is_own_mark", none)) fd := D0
  clear D0
  have SC : FnScope ["thing"] ["thing"] (defScope (top 31)) := ⟨rfl, rfl, rfl, by decide +kernel, rfl, by decide +kernel, by decide +kernel⟩
  refine okf_of D rfl (S.s.glo 11 rfl) SC rfl rfl (fun _ _ _ _ _ _ us hl => match us, hl with | [_], _ => rfl) fun cdv hcdv A outer s H E hr => ?_
  have tk : Takes (cxOf (L2.CX P w) P w Y.K mg base ["thing"] "is_own_mark" (defScope (top 31)) (He.fAd Y.K ("is_own_mark", none)) cdv A outer s H E) (fun c d _ H' => E c d H') := takes_of (E₁ := fun e' s'' => L2.CX P w outer H s E e' s'') rfl rfl rfl rfl
  exact (ss_one (ps_retS (px_and (px_fn (ok_is_mark S) (by decide) rfl hr tk rfl rfl (pa_c (px_v 0) pa_n) (len_c (fun _ _ _ _ h => len_n h))) (px_one (px_cmpK S.k_ROOT s_neK (or_ne hr.r.units) (px_v 0) rfl)))))
end
end K08
end
section
set_option linter.all false
set_option maxRecDepth 100000
set_option maxHeartbeats 4000000
/-! K08q02: the defs do so (printed by gen.py). -/
namespace K08
open PySem PySem.Spec PyProof.Rows L2 Pu
section
variable {Y : Wd} {P : Program} {w : World} {mg : Str → Option Value} {base : Heap}
theorem ok_is_order (S : CtxK Y P w mg base) : Okf Y P w mg base false 6 "is_order" 1 (f_is_order) := by
  obtain ⟨fd, D0⟩ := S.s.dfn 12 rfl
  have D : FunD Y.K "is_order" "is_order" (defArgs (top 32)) (defBody (top 32)) (defScope (top 32)) [] [] (He.fAd Y.K ("is_order", none)) fd := D0
  clear D0
  have SC : FnScope ["thing", "kind"] ["thing"] (defScope (top 32)) := ⟨rfl, rfl, rfl, by decide +kernel, rfl, by decide +kernel, by decide +kernel⟩
  refine okf_of D rfl (S.s.glo 12 rfl) SC rfl rfl (fun _ _ _ _ _ _ us hl => match us, hl with | [_], _ => rfl) fun cdv hcdv A outer s H E hr => ?_
  have tk : Takes (cxOf (L2.CX P w) P w Y.K mg base ["thing", "kind"] "is_order" (defScope (top 32)) (He.fAd Y.K ("is_order", none)) cdv A outer s H E) (fun c d _ H' => E c d H') := takes_of (E₁ := fun e' s'' => L2.CX P w outer H s E e' s'') rfl rfl rfl rfl
  exact (ss_cons (ps_ifS (PW.pt (pw_or2 (pt_not2 (pt_e (px_isi (px_v 0) (by decide) rfl (S.s.free 45 rfl) rfl (S.s.free 48 rfl)))) (pw_or2 (pt_cmp2 s_cmpI op_lt (px_callB s_len or_len rfl (S.s.free 49 rfl) boot_len (pa_c (px_v 0) pa_n)) px_int) (pw_or1 (pt_not2 (pt_e (px_isi (px_ix s_ix (or_ix hr.u1) (px_v 0) px_int) (by decide) rfl (S.s.free 45 rfl) rfl (S.s.free 51 rfl)))))))) (ss_one (ps_retS px_bl)) ss_nil)
  (ss_cons (ps_setS 1 SC.nd (px_ix s_ix (or_ix hr.u1) (px_v 0) px_int))
  (ss_cons (ps_ifS (pt_cmp2 s_eq (or_eq hr.r.units) (px_v 1) (px_gs (S.s.str 61 rfl) rfl)) (ss_cons (ps_ifS (PW.pt (pw_or2 (pt_cmp2 s_ne (or_ne hr.r.units) (px_callB s_len or_len rfl (S.s.free 49 rfl) boot_len (pa_c (px_v 0) pa_n)) px_int) (pw_or2 (pt_not2 (pt_e (px_fn (ok_is_mark S) (by decide) rfl hr tk rfl rfl (pa_c (px_ix s_ix (or_ix hr.u1) (px_v 0) px_int) pa_n) (len_c (fun _ _ _ _ h => len_n h))))) (pw_or1 (pt_not2 (pt_e (px_fn (ok_is_name S) (by decide) rfl hr tk rfl rfl (pa_c (px_ix s_ix (or_ix hr.u1) (px_v 0) px_int) pa_n) (len_c (fun _ _ _ _ h => len_n h))))))))) (ss_one (ps_retS px_bl)) ss_nil)
  (ss_one (ps_retS (px_and (px_fn (ok_are_words S) (by decide) rfl hr tk rfl rfl (pa_c (px_ix s_ix (or_ix hr.u1) (px_v 0) px_int) pa_n) (len_c (fun _ _ _ _ h => len_n h))) (px_one (px_fn (ok_is_after S) (by decide) rfl hr tk rfl rfl (pa_c (px_ix s_ix (or_ix hr.u1) (px_v 0) px_int) pa_n) (len_c (fun _ _ _ _ h => len_n h)))))))) ss_nil)
  (ss_cons (ps_ifS (pt_not2 (pt_e (px_fn (ok_is_own_mark S) (by decide) rfl hr tk rfl rfl (pa_c (px_ix s_ix (or_ix hr.u1) (px_v 0) px_int) pa_n) (len_c (fun _ _ _ _ h => len_n h))))) (ss_one (ps_retS px_bl)) ss_nil)
  (ss_cons (ps_ifS (pt_cmp2 s_eq (or_eq hr.r.units) (px_v 1) (px_gs (S.s.str 62 rfl) rfl)) (ss_one (ps_retS (px_cmp s_eq (or_eq hr.r.units) (px_callB s_len or_len rfl (S.s.free 49 rfl) boot_len (pa_c (px_v 0) pa_n)) px_int))) ss_nil)
  (ss_cons (ps_ifS (pt_cmp2 s_eq (or_eq hr.r.units) (px_v 1) (px_gs (S.s.str 63 rfl) rfl)) (ss_one (ps_retS (px_and (px_cmp s_eq (or_eq hr.r.units) (px_callB s_len or_len rfl (S.s.free 49 rfl) boot_len (pa_c (px_v 0) pa_n)) px_int) (px_one (px_fn (ok_are_words S) (by decide) rfl hr tk rfl rfl (pa_c (px_ix s_ix (or_ix hr.u1) (px_v 0) px_int) pa_n) (len_c (fun _ _ _ _ h => len_n h))))))) ss_nil)
  (ss_cons (ps_ifS (pt_cmp2 s_eq (or_eq hr.r.units) (px_v 1) (px_gs (S.s.str 64 rfl) rfl)) (ss_one (ps_retS (px_and (px_cmp s_eq (or_eq hr.r.units) (px_callB s_len or_len rfl (S.s.free 49 rfl) boot_len (pa_c (px_v 0) pa_n)) px_int) (px_and (px_fn (ok_is_word S) (by decide) rfl hr tk rfl rfl (pa_c (px_ix s_ix (or_ix hr.u1) (px_v 0) px_int) pa_n) (len_c (fun _ _ _ _ h => len_n h))) (px_one (px_fn (ok_is_word S) (by decide) rfl hr tk rfl rfl (pa_c (px_ix s_ix (or_ix hr.u1) (px_v 0) px_int) pa_n) (len_c (fun _ _ _ _ h => len_n h)))))))) ss_nil)
  (ss_cons (ps_ifS (pt_cmp2 s_eq (or_eq hr.r.units) (px_v 1) (px_gs (S.s.str 65 rfl) rfl)) (ss_one (ps_retS (px_and (px_cmp s_eq (or_eq hr.r.units) (px_callB s_len or_len rfl (S.s.free 49 rfl) boot_len (pa_c (px_v 0) pa_n)) px_int) (px_one (px_fn (ok_is_name S) (by decide) rfl hr tk rfl rfl (pa_c (px_ix s_ix (or_ix hr.u1) (px_v 0) px_int) pa_n) (len_c (fun _ _ _ _ h => len_n h))))))) ss_nil)
  (ss_one (ps_retS (px_and (px_cmp s_eq (or_eq hr.r.units) (px_v 1) (px_gs (S.s.str 66 rfl) rfl)) (px_and (px_cmp s_eq (or_eq hr.r.units) (px_callB s_len or_len rfl (S.s.free 49 rfl) boot_len (pa_c (px_v 0) pa_n)) px_int) (px_and (px_fn (ok_is_mark S) (by decide) rfl hr tk rfl rfl (pa_c (px_ix s_ix (or_ix hr.u1) (px_v 0) px_int) pa_n) (len_c (fun _ _ _ _ h => len_n h))) (px_one (px_fn (ok_is_after S) (by decide) rfl hr tk rfl rfl (pa_c (px_ix s_ix (or_ix hr.u1) (px_v 0) px_int) pa_n) (len_c (fun _ _ _ _ h => len_n h)))))))))))))))))
theorem ok_is_time (S : CtxK Y P w mg base) : Okf Y P w mg base false 3 "is_time" 1 (f_is_time) := by
  obtain ⟨fd, D0⟩ := S.s.dfn 13 rfl
  have D : FunD Y.K "is_time" "is_time" (defArgs (top 39)) (defBody (top 39)) (defScope (top 39)) [] [] (He.fAd Y.K ("is_time", none)) fd := D0
  clear D0
  have SC : FnScope ["thing"] ["thing"] (defScope (top 39)) := ⟨rfl, rfl, rfl, by decide +kernel, rfl, by decide +kernel, by decide +kernel⟩
  refine okf_of D rfl (S.s.glo 13 rfl) SC rfl rfl (fun _ _ _ _ _ _ us hl => match us, hl with | [_], _ => rfl) fun cdv hcdv A outer s H E hr => ?_
  have tk : Takes (cxOf (L2.CX P w) P w Y.K mg base ["thing"] "is_time" (defScope (top 39)) (He.fAd Y.K ("is_time", none)) cdv A outer s H E) (fun c d _ H' => E c d H') := takes_of (E₁ := fun e' s'' => L2.CX P w outer H s E e' s'') rfl rfl rfl rfl
  exact (ss_one (ps_retS (px_or (px_fn (ok_is_day S) (by decide) rfl hr tk rfl rfl (pa_c (px_v 0) pa_n) (len_c (fun _ _ _ _ h => len_n h))) (px_one (px_fn (ok_is_name S) (by decide) rfl hr tk rfl rfl (pa_c (px_v 0) pa_n) (len_c (fun _ _ _ _ h => len_n h)))))))
theorem ok_is_end (S : CtxK Y P w mg base) : Okf Y P w mg base false 4 "is_end" 1 (f_is_end) := by
  obtain ⟨fd, D0⟩ := S.s.dfn 14 rfl
  have D : FunD Y.K "is_end" "is_end" (defArgs (top 40)) (defBody (top 40)) (defScope (top 40)) [] [] (He.fAd Y.K ("is_end", none)) fd := D0
  clear D0
  have SC : FnScope ["thing"] ["thing"] (defScope (top 40)) := ⟨rfl, rfl, rfl, by decide +kernel, rfl, by decide +kernel, by decide +kernel⟩
  refine okf_of D rfl (S.s.glo 14 rfl) SC rfl rfl (fun _ _ _ _ _ _ us hl => match us, hl with | [_], _ => rfl) fun cdv hcdv A outer s H E hr => ?_
  have tk : Takes (cxOf (L2.CX P w) P w Y.K mg base ["thing"] "is_end" (defScope (top 40)) (He.fAd Y.K ("is_end", none)) cdv A outer s H E) (fun c d _ H' => E c d H') := takes_of (E₁ := fun e' s'' => L2.CX P w outer H s E e' s'') rfl rfl rfl rfl
  exact (ss_one (ps_retS (px_or (px_cmp s_is or_is (px_v 0) px_non) (px_one (px_fn (ok_is_time S) (by decide) rfl hr tk rfl rfl (pa_c (px_v 0) pa_n) (len_c (fun _ _ _ _ h => len_n h)))))))
theorem ok_is_on_order (S : CtxK Y P w mg base) : Okf Y P w mg base false 7 "is_on_order" 2 (f_is_on_order) := by
  obtain ⟨fd, D0⟩ := S.s.dfn 15 rfl
  have D : FunD Y.K "is_on_order" "is_on_order" (defArgs (top 41)) (defBody (top 41)) (defScope (top 41)) [] [] (He.fAd Y.K ("is_on_order", none)) fd := D0
  clear D0
  have SC : FnScope ["thing", "number"] ["thing", "number"] (defScope (top 41)) := ⟨rfl, rfl, rfl, by decide +kernel, rfl, by decide +kernel, by decide +kernel⟩
  refine okf_of D rfl (S.s.glo 15 rfl) SC rfl rfl (fun _ _ _ _ _ _ us hl => match us, hl with | [_, _], _ => rfl) fun cdv hcdv A outer s H E hr => ?_
  have tk : Takes (cxOf (L2.CX P w) P w Y.K mg base ["thing", "number"] "is_on_order" (defScope (top 41)) (He.fAd Y.K ("is_on_order", none)) cdv A outer s H E) (fun c d _ H' => E c d H') := takes_of (E₁ := fun e' s'' => L2.CX P w outer H s E e' s'') rfl rfl rfl rfl
  exact (ss_cons (ps_ifS (PW.pt (pw_or2 (pt_not2 (pt_e (px_isi (px_v 0) (by decide) rfl (S.s.free 45 rfl) rfl (S.s.free 48 rfl)))) (pw_or2 (pt_cmp2 s_cmpI op_lt (px_callB s_len or_len rfl (S.s.free 49 rfl) boot_len (pa_c (px_v 0) pa_n)) px_int) (pw_or2 (pt_not2 (pt_e (px_isi (px_ix s_ix (or_ix hr.u1) (px_v 0) px_int) (by decide) rfl (S.s.free 45 rfl) rfl (S.s.free 51 rfl)))) (pw_or1 (pt_cmpK S.k_ON_ORDERS s_notInK (or_notIn hr.u65) (px_ix s_ix (or_ix hr.u1) (px_v 0) px_int) rfl)))))) (ss_one (ps_retS px_bl)) ss_nil)
  (ss_cons (ps_ifS (PW.pt (pw_or2 (pt_not2 (pt_e (px_fn (ok_is_own_mark S) (by decide) rfl hr tk rfl rfl (pa_c (px_ix s_ix (or_ix hr.u1) (px_v 0) px_int) pa_n) (len_c (fun _ _ _ _ h => len_n h))))) (pw_or1 (pt_cmp2 s_cmpI op_ge (px_ix s_ix (or_ix hr.u1) (px_ix s_ix (or_ix hr.u1) (px_v 0) px_int) px_int) (px_v 1))))) (ss_one (ps_retS px_bl)) ss_nil)
  (ss_cons (ps_ifS (pt_cmp2 s_eq (or_eq hr.r.units) (px_ix s_ix (or_ix hr.u1) (px_v 0) px_int) (px_gs (S.s.str 68 rfl) rfl)) (ss_one (ps_retS (px_cmp s_eq (or_eq hr.r.units) (px_callB s_len or_len rfl (S.s.free 49 rfl) boot_len (pa_c (px_v 0) pa_n)) px_int))) ss_nil)
  (ss_cons (ps_ifS (pt_cmp2 s_ne (or_ne hr.r.units) (px_callB s_len or_len rfl (S.s.free 49 rfl) boot_len (pa_c (px_v 0) pa_n)) px_int) (ss_one (ps_retS px_bl)) ss_nil)
  (ss_cons (ps_ifS (pt_cmp2 s_eq (or_eq hr.r.units) (px_ix s_ix (or_ix hr.u1) (px_v 0) px_int) (px_gs (S.s.str 69 rfl) rfl)) (ss_one (ps_retS (px_fn (ok_is_time S) (by decide) rfl hr tk rfl rfl (pa_c (px_ix s_ix (or_ix hr.u1) (px_v 0) px_int) pa_n) (len_c (fun _ _ _ _ h => len_n h))))) ss_nil)
  (ss_one (ps_retS (px_if (pt_cmp2 s_eq (or_eq hr.r.units) (px_ix s_ix (or_ix hr.u1) (px_v 0) px_int) (px_gs (S.s.str 70 rfl) rfl)) (px_fn (ok_is_end S) (by decide) rfl hr tk rfl rfl (pa_c (px_ix s_ix (or_ix hr.u1) (px_v 0) px_int) pa_n) (len_c (fun _ _ _ _ h => len_n h))) (px_fn (ok_is_order S) (by decide) rfl hr tk rfl rfl (pa_c (px_ix s_ix (or_ix hr.u1) (px_v 0) px_int) pa_n) (len_c (fun _ _ _ _ h => len_n h)))))))))))
theorem ok_is_provision (S : CtxK Y P w mg base) : Okf Y P w mg base false 8 "is_provision" 2 (f_is_provision) := by
  obtain ⟨fd, D0⟩ := S.s.dfn 16 rfl
  have D : FunD Y.K "is_provision" "is_provision" (defArgs (top 42)) (defBody (top 42)) (defScope (top 42)) [] [] (He.fAd Y.K ("is_provision", none)) fd := D0
  clear D0
  have SC : FnScope ["thing", "number"] ["thing", "number"] (defScope (top 42)) := ⟨rfl, rfl, rfl, by decide +kernel, rfl, by decide +kernel, by decide +kernel⟩
  refine okf_of D rfl (S.s.glo 16 rfl) SC rfl rfl (fun _ _ _ _ _ _ us hl => match us, hl with | [_, _], _ => rfl) fun cdv hcdv A outer s H E hr => ?_
  have tk : Takes (cxOf (L2.CX P w) P w Y.K mg base ["thing", "number"] "is_provision" (defScope (top 42)) (He.fAd Y.K ("is_provision", none)) cdv A outer s H E) (fun c d _ H' => E c d H') := takes_of (E₁ := fun e' s'' => L2.CX P w outer H s E e' s'') rfl rfl rfl rfl
  exact (ss_cons (ps_ifS (PW.pt (pw_or2 (pt_not2 (pt_e (px_fn (ok_is_tuple_of S) (by decide) rfl hr tk rfl rfl (pa_c (px_v 0) (pa_c px_int pa_n)) (len_c (len_c (fun _ _ _ _ h => len_n h)))))) (pw_or2 (pt_not2 (pt_e (px_fn (ok_is_time S) (by decide) rfl hr tk rfl rfl (pa_c (px_ix s_ix (or_ix hr.u1) (px_v 0) px_int) pa_n) (len_c (fun _ _ _ _ h => len_n h))))) (pw_or1 (pt_not2 (pt_e (px_fn (ok_is_end S) (by decide) rfl hr tk rfl rfl (pa_c (px_ix s_ix (or_ix hr.u1) (px_v 0) px_int) pa_n) (len_c (fun _ _ _ _ h => len_n h))))))))) (ss_one (ps_retS px_bl)) ss_nil)
  (ss_one (ps_retS (px_or (px_fn (ok_is_order S) (by decide) rfl hr tk rfl rfl (pa_c (px_ix s_ix (or_ix hr.u1) (px_v 0) px_int) pa_n) (len_c (fun _ _ _ _ h => len_n h))) (px_one (px_fn (ok_is_on_order S) (by decide) rfl hr tk rfl rfl (pa_c (px_ix s_ix (or_ix hr.u1) (px_v 0) px_int) (pa_c (px_v 1) pa_n)) (len_c (len_c (fun _ _ _ _ h => len_n h)))))))))
theorem ok_is_act (S : CtxK Y P w mg base) : Okf Y P w mg base false 9 "is_act" 1 (f_is_act) := by
  obtain ⟨fd, D0⟩ := S.s.dfn 17 rfl
  have D : FunD Y.K "is_act" "is_act" (defArgs (top 43)) (defBody (top 43)) (defScope (top 43)) [] [] (He.fAd Y.K ("is_act", none)) fd := D0
  clear D0
  have SC : FnScope ["thing", "one"] ["thing"] (defScope (top 43)) := ⟨rfl, rfl, rfl, by decide +kernel, rfl, by decide +kernel, by decide +kernel⟩
  refine okf_of D rfl (S.s.glo 17 rfl) SC rfl rfl (fun _ _ _ _ _ _ us hl => match us, hl with | [_], _ => rfl) fun cdv hcdv A outer s H E hr => ?_
  have tk : Takes (cxOf (L2.CX P w) P w Y.K mg base ["thing", "one"] "is_act" (defScope (top 43)) (He.fAd Y.K ("is_act", none)) cdv A outer s H E) (fun c d _ H' => E c d H') := takes_of (E₁ := fun e' s'' => L2.CX P w outer H s E e' s'') rfl rfl rfl rfl
  exact (ss_cons (ps_ifS (PW.pt (pw_or2 (pt_not2 (pt_e (px_fn (ok_is_tuple_of S) (by decide) rfl hr tk rfl rfl (pa_c (px_v 0) (pa_c px_int pa_n)) (len_c (len_c (fun _ _ _ _ h => len_n h)))))) (pw_or2 (pt_not2 (pt_e (px_fn (ok_is_within S) (by decide) rfl hr tk rfl rfl (pa_c (px_ix s_ix (or_ix hr.u1) (px_v 0) px_int) (pa_c px_int (pa_c (px_gi (S.s.int 56 rfl) rfl) pa_n))) (len_c (len_c (len_c (fun _ _ _ _ h => len_n h))))))) (pw_or1 (pt_not2 (pt_e (px_isi (px_ix s_ix (or_ix hr.u1) (px_v 0) px_int) (by decide) rfl (S.s.free 45 rfl) rfl (S.s.free 48 rfl)))))))) (ss_one (ps_retS px_bl)) ss_nil)
  (ss_one (ps_retS (px_and (px_chain s_cmpI s_cmpI op_le op_le px_int (px_callB s_len or_len rfl (S.s.free 49 rfl) boot_len (pa_c (px_ix s_ix (or_ix hr.u1) (px_v 0) px_int) pa_n)) (px_gi (S.s.int 57 rfl) rfl)) (px_one (px_callB s_all (cr_all rfl) rfl (S.s.free 53 rfl) boot_all (pa_c (px_lc false rfl SC.nd (own := [("one", 1)]) (blkOk_by (by kernel_rfl)) (pi_w (px_ix s_ix (or_ix hr.u1) (px_v 0) px_int)) (fun s H C cl fp => (pg_n 1 SC.nd)) (fun s H C cl fp => pts_n) (fun s H C cl fp => (px_fn (ok_is_provision S) (by decide) rfl hr takes0 rfl rfl (pa_c (px_v 1) (pa_c (px_ix s_ix (or_ix hr.u1) (px_v 0) px_int) pa_n)) (len_c (len_c (fun _ _ _ _ h => len_n h)))))) pa_n)))))))
end
end K08
end
section
set_option linter.all false
set_option maxRecDepth 100000
set_option maxHeartbeats 4000000
/-! K08q03: the defs do so (printed by gen.py). -/
namespace K08
open PySem PySem.Spec PyProof.Rows L2 Pu
section
variable {Y : Wd} {P : Program} {w : World} {mg : Str → Option Value} {base : Heap}
theorem ok_check_act (S : CtxK Y P w mg base) : Okf Y P w mg base false 10 "check_act" 1 (f_check_act) := by
  obtain ⟨fd, D0⟩ := S.s.dfn 18 rfl
  have D : FunD Y.K "check_act" "check_act" (defArgs (top 44)) (defBody (top 44)) (defScope (top 44)) [] [] (He.fAd Y.K ("check_act", none)) fd := D0
  clear D0
  have SC : FnScope ["act"] ["act"] (defScope (top 44)) := ⟨rfl, rfl, rfl, by decide +kernel, rfl, by decide +kernel, by decide +kernel⟩
  refine okf_of D rfl (S.s.glo 18 rfl) SC rfl rfl (fun _ _ _ _ _ _ us hl => match us, hl with | [_], _ => rfl) fun cdv hcdv A outer s H E hr => ?_
  have tk : Takes (cxOf (L2.CX P w) P w Y.K mg base ["act"] "check_act" (defScope (top 44)) (He.fAd Y.K ("check_act", none)) cdv A outer s H E) (fun c d _ H' => E c d H') := takes_of (E₁ := fun e' s'' => L2.CX P w outer H s E e' s'') rfl rfl rfl rfl
  exact (ss_one (ps_ifS (pt_not2 (pt_e (px_fn (ok_is_act S) (by decide) rfl hr tk rfl rfl (pa_c (px_v 0) pa_n) (len_c (fun _ _ _ _ h => len_n h))))) (ss_one (ps_raiseS (S.s.exc 71 72 rfl rfl) rfl tk rfl)) ss_nil))
theorem ok_raw_is_on_order (S : CtxK Y P w mg base) : Okf Y P w mg base false 1 "raw_is_on_order" 1 (f_raw_is_on_order) := by
  obtain ⟨fd, D0⟩ := S.s.dfn 19 rfl
  have D : FunD Y.K "raw_is_on_order" "raw_is_on_order" (defArgs (top 45)) (defBody (top 45)) (defScope (top 45)) [] [] (He.fAd Y.K ("raw_is_on_order", none)) fd := D0
  clear D0
  have SC : FnScope ["provision"] ["provision"] (defScope (top 45)) := ⟨rfl, rfl, rfl, by decide +kernel, rfl, by decide +kernel, by decide +kernel⟩
  refine okf_of D rfl (S.s.glo 19 rfl) SC rfl rfl (fun _ _ _ _ _ _ us hl => match us, hl with | [_], _ => rfl) fun cdv hcdv A outer s H E hr => ?_
  have tk : Takes (cxOf (L2.CX P w) P w Y.K mg base ["provision"] "raw_is_on_order" (defScope (top 45)) (He.fAd Y.K ("raw_is_on_order", none)) cdv A outer s H E) (fun c d _ H' => E c d H') := takes_of (E₁ := fun e' s'' => L2.CX P w outer H s E e' s'') rfl rfl rfl rfl
  exact (ss_one (ps_retS (px_cmpK S.k_ON_ORDERS s_inK (or_in hr.u65) (px_ix s_ix (or_ix hr.u1) (px_ix s_ix (or_ix hr.u1) (px_v 0) px_int) px_int) rfl)))
theorem ok_marks_of_act (S : CtxK Y P w mg base) : Okf Y P w mg base false 11 "marks_of_act" 1 (f_marks_of_act) := by
  obtain ⟨fd, D0⟩ := S.s.dfn 20 rfl
  have D : FunD Y.K "marks_of_act" "marks_of_act" (defArgs (top 46)) (defBody (top 46)) (defScope (top 46)) [] [] (He.fAd Y.K ("marks_of_act", none)) fd := D0
  clear D0
  have SC : FnScope ["act", "at"] ["act"] (defScope (top 46)) := ⟨rfl, rfl, rfl, by decide +kernel, rfl, by decide +kernel, by decide +kernel⟩
  refine okf_of D rfl (S.s.glo 20 rfl) SC rfl rfl (fun _ _ _ _ _ _ us hl => match us, hl with | [_], _ => rfl) fun cdv hcdv A outer s H E hr => ?_
  have tk : Takes (cxOf (L2.CX P w) P w Y.K mg base ["act", "at"] "marks_of_act" (defScope (top 46)) (He.fAd Y.K ("marks_of_act", none)) cdv A outer s H E) (fun c d _ H' => E c d H') := takes_of (E₁ := fun e' s'' => L2.CX P w outer H s E e' s'') rfl rfl rfl rfl
  exact (ss_cons (ps_exprS (px_fn (ok_check_act S) (by decide) rfl hr tk rfl rfl (pa_c (px_v 0) pa_n) (len_c (fun _ _ _ _ h => len_n h))))
  (ss_one (ps_retS (px_callT s_tuple (call_tuple_of) rfl (S.s.free 48 rfl) boot_tuple (pa_c (px_lc false rfl SC.nd (own := [("at", 1)]) (blkOk_by (by kernel_rfl)) (pi_r1 rfl (S.s.free 73 rfl) (pa_c (px_callB s_len or_len rfl (S.s.free 49 rfl) boot_len (pa_c (px_ix s_ix (or_ix hr.u1) (px_v 0) px_int) pa_n)) pa_n)) (fun s H C cl fp => (pg_n 1 SC.nd)) (fun s H C cl fp => pts_n) (fun s H C cl fp => (px_tup (pa_c (px_ix s_ix (or_ix hr.u1) (px_v 0) px_int) (pa_c (px_v 1) pa_n))))) pa_n)))))
theorem ok_raw_times (S : CtxK Y P w mg base) : Okf Y P w mg base false 1 "raw_times" 1 (f_raw_times) := by
  obtain ⟨fd, D0⟩ := S.s.dfn 22 rfl
  have D : FunD Y.K "raw_times" "raw_times" (defArgs (top 48)) (defBody (top 48)) (defScope (top 48)) [] [] (He.fAd Y.K ("raw_times", none)) fd := D0
  clear D0
  have SC : FnScope ["act", "found", "order", "start", "end", "time"] ["act"] (defScope (top 48)) := ⟨rfl, rfl, rfl, by decide +kernel, rfl, by decide +kernel, by decide +kernel⟩
  refine okf_of D rfl (S.s.glo 22 rfl) SC rfl rfl (fun _ _ _ _ _ _ us hl => match us, hl with | [_], _ => rfl) fun cdv hcdv A outer s H E hr => ?_
  have tk : Takes (cxOf (L2.CX P w) P w Y.K mg base ["act", "found", "order", "start", "end", "time"] "raw_times" (defScope (top 48)) (He.fAd Y.K ("raw_times", none)) cdv A outer s H E) (fun c d _ H' => E c d H') := takes_of (E₁ := fun e' s'' => L2.CX P w outer H s E e' s'') rfl rfl rfl rfl
  have pown : PassesOwn (model (cxOf (L2.CX P w) P w Y.K mg base ["act", "found", "order", "start", "end", "time"] "raw_times" (defScope (top 48)) (He.fAd Y.K ("raw_times", none)) cdv A outer s H E).prog (cxOf (L2.CX P w) P w Y.K mg base ["act", "found", "order", "start", "end", "time"] "raw_times" (defScope (top 48)) (He.fAd Y.K ("raw_times", none)) cdv A outer s H E).w) (cxOf (L2.CX P w) P w Y.K mg base ["act", "found", "order", "start", "end", "time"] "raw_times" (defScope (top 48)) (He.fAd Y.K ("raw_times", none)) cdv A outer s H E).A (cxOf (L2.CX P w) P w Y.K mg base ["act", "found", "order", "start", "end", "time"] "raw_times" (defScope (top 48)) (He.fAd Y.K ("raw_times", none)) cdv A outer s H E).env (cxOf (L2.CX P w) P w Y.K mg base ["act", "found", "order", "start", "end", "time"] "raw_times" (defScope (top 48)) (He.fAd Y.K ("raw_times", none)) cdv A outer s H E).xe := passes_of (X := cxOf (L2.CX P w) P w Y.K mg base ["act", "found", "order", "start", "end", "time"] "raw_times" (defScope (top 48)) (He.fAd Y.K ("raw_times", none)) cdv A outer s H E) (K := fun e' s'' => L2.CX P w outer H s E e' s'') (E₁ := fun e' s'' => L2.CX P w outer H s E e' s'') rfl
  exact (ss_cons (ps_setS 1 SC.nd (px_lst true pa_n))
  (ss_cons (ps_forS pown rfl (pi_w (px_ix s_ix (or_ix hr.u1) (px_v 0) px_int)) (pg_tu rfl (pgs_c (pg_n 2 SC.nd) (pgs_c (pg_n 3 SC.nd) (pgs_c (pg_n 4 SC.nd) pgs_n)))) (ss_cons (ps_exprS (px_m s_extend (.inl rfl) F.plainAttrs_list F.slot_list_extend F.type_list_extend mt_extend (px_v 1) (pa_c (px_lst false (pa_c (px_v 3) (pa_c (px_v 4) pa_n))) pa_n)))
  (ss_one (ps_ifS (pt_cmp2 s_in (or_in hr.u65) (px_ix s_ix (or_ix hr.u1) (px_v 2) px_int) (px_tup (pa_c (px_gs (S.s.str 69 rfl) rfl) (pa_c (px_gs (S.s.str 70 rfl) rfl) pa_n)))) (ss_one (ps_exprS (px_m s_append (.inl rfl) F.plainAttrs_list F.slot_list_append F.type_list_append mt_append (px_v 1) (pa_c (px_ix s_ix (or_ix hr.u1) (px_v 2) px_int) pa_n)))) ss_nil))))
  (ss_one (ps_retS (px_lc false rfl SC.nd (own := [("time", 5)]) (blkOk_by (by kernel_rfl)) (pi_w (px_v 1)) (fun s H C cl fp => (pg_n 5 SC.nd)) (fun s H C cl fp => (pts_o (pt_cmp2 s_isNot or_isNot (px_v 5) px_non))) (fun s H C cl fp => (px_v 5)))))))
theorem ok_events_in (S : CtxK Y P w mg base) : Okf Y P w mg base false 11 "events_in" 1 (f_events_in) := by
  obtain ⟨fd, D0⟩ := S.s.dfn 21 rfl
  have D : FunD Y.K "events_in" "events_in" (defArgs (top 47)) (defBody (top 47)) (defScope (top 47)) [] [] (He.fAd Y.K ("events_in", none)) fd := D0
  clear D0
  have SC : FnScope ["act", "name"] ["act"] (defScope (top 47)) := ⟨rfl, rfl, rfl, by decide +kernel, rfl, by decide +kernel, by decide +kernel⟩
  refine okf_of D rfl (S.s.glo 21 rfl) SC rfl rfl (fun _ _ _ _ _ _ us hl => match us, hl with | [_], _ => rfl) fun cdv hcdv A outer s H E hr => ?_
  have tk : Takes (cxOf (L2.CX P w) P w Y.K mg base ["act", "name"] "events_in" (defScope (top 47)) (He.fAd Y.K ("events_in", none)) cdv A outer s H E) (fun c d _ H' => E c d H') := takes_of (E₁ := fun e' s'' => L2.CX P w outer H s E e' s'') rfl rfl rfl rfl
  exact (ss_cons (ps_exprS (px_fn (ok_check_act S) (by decide) rfl hr tk rfl rfl (pa_c (px_v 0) pa_n) (len_c (fun _ _ _ _ h => len_n h))))
  (ss_one (ps_retS (px_callT s_tuple (call_tuple_of) rfl (S.s.free 48 rfl) boot_tuple (pa_c (px_callB s_sorted (or_sorted rfl) rfl (S.s.free 74 rfl) boot_sorted (pa_c (px_dg dformK hr.u1 rfl SC.nd (own := [("name", 1)]) (blkOk_by (by kernel_rfl)) (pi_w (px_fn (ok_raw_times S) (by decide) rfl hr tk rfl rfl (pa_c (px_v 0) pa_n) (len_c (fun _ _ _ _ h => len_n h)))) (fun s H C cl fp => (pg_n 1 SC.nd)) (fun s H C cl fp => (pts_o (pt_e (px_isi (px_v 1) (by decide) rfl (S.s.free 45 rfl) rfl (S.s.free 51 rfl))))) (fun s H C cl fp => (px_v 1)) (fun s H C cl fp => px_bl)) pa_n)) pa_n)))))
theorem ok_days_in (S : CtxK Y P w mg base) : Okf Y P w mg base false 11 "days_in" 1 (f_days_in) := by
  obtain ⟨fd, D0⟩ := S.s.dfn 23 rfl
  have D : FunD Y.K "days_in" "days_in" (defArgs (top 49)) (defBody (top 49)) (defScope (top 49)) [] [] (He.fAd Y.K ("days_in", none)) fd := D0
  clear D0
  have SC : FnScope ["act", "day"] ["act"] (defScope (top 49)) := ⟨rfl, rfl, rfl, by decide +kernel, rfl, by decide +kernel, by decide +kernel⟩
  refine okf_of D rfl (S.s.glo 23 rfl) SC rfl rfl (fun _ _ _ _ _ _ us hl => match us, hl with | [_], _ => rfl) fun cdv hcdv A outer s H E hr => ?_
  have tk : Takes (cxOf (L2.CX P w) P w Y.K mg base ["act", "day"] "days_in" (defScope (top 49)) (He.fAd Y.K ("days_in", none)) cdv A outer s H E) (fun c d _ H' => E c d H') := takes_of (E₁ := fun e' s'' => L2.CX P w outer H s E e' s'') rfl rfl rfl rfl
  exact (ss_cons (ps_exprS (px_fn (ok_check_act S) (by decide) rfl hr tk rfl rfl (pa_c (px_v 0) pa_n) (len_c (fun _ _ _ _ h => len_n h))))
  (ss_one (ps_retS (px_callT s_tuple (call_tuple_of) rfl (S.s.free 48 rfl) boot_tuple (pa_c (px_callB s_sorted (or_sorted rfl) rfl (S.s.free 74 rfl) boot_sorted (pa_c (px_dg dformK hr.u1 rfl SC.nd (own := [("day", 1)]) (blkOk_by (by kernel_rfl)) (pi_w (px_fn (ok_raw_times S) (by decide) rfl hr tk rfl rfl (pa_c (px_v 0) pa_n) (len_c (fun _ _ _ _ h => len_n h)))) (fun s H C cl fp => (pg_n 1 SC.nd)) (fun s H C cl fp => (pts_o (pt_not2 (pt_e (px_isi (px_v 1) (by decide) rfl (S.s.free 45 rfl) rfl (S.s.free 51 rfl)))))) (fun s H C cl fp => (px_v 1)) (fun s H C cl fp => px_bl)) pa_n)) pa_n)))))
end
end K08
end
section
set_option linter.all false
set_option maxRecDepth 100000
set_option maxHeartbeats 4000000
/-! K08q04: the defs do so (printed by gen.py). -/
namespace K08
open PySem PySem.Spec PyProof.Rows L2 Pu
section
variable {Y : Wd} {P : Program} {w : World} {mg : Str → Option Value} {base : Heap}
theorem ok_acts_changed (S : CtxK Y P w mg base) : Okf Y P w mg base false 11 "acts_changed" 1 (f_acts_changed) := by
  obtain ⟨fd, D0⟩ := S.s.dfn 24 rfl
  have D : FunD Y.K "acts_changed" "acts_changed" (defArgs (top 50)) (defBody (top 50)) (defScope (top 50)) [] [] (He.fAd Y.K ("acts_changed", none)) fd := D0
  clear D0
  have SC : FnScope ["act", "one"] ["act"] (defScope (top 50)) := ⟨rfl, rfl, rfl, by decide +kernel, rfl, by decide +kernel, by decide +kernel⟩
  refine okf_of D rfl (S.s.glo 24 rfl) SC rfl rfl (fun _ _ _ _ _ _ us hl => match us, hl with | [_], _ => rfl) fun cdv hcdv A outer s H E hr => ?_
  have tk : Takes (cxOf (L2.CX P w) P w Y.K mg base ["act", "one"] "acts_changed" (defScope (top 50)) (He.fAd Y.K ("acts_changed", none)) cdv A outer s H E) (fun c d _ H' => E c d H') := takes_of (E₁ := fun e' s'' => L2.CX P w outer H s E e' s'') rfl rfl rfl rfl
  exact (ss_cons (ps_exprS (px_fn (ok_check_act S) (by decide) rfl hr tk rfl rfl (pa_c (px_v 0) pa_n) (len_c (fun _ _ _ _ h => len_n h))))
  (ss_one (ps_retS (px_callT s_tuple (call_tuple_of) rfl (S.s.free 48 rfl) boot_tuple (pa_c (px_callB s_sorted (or_sorted rfl) rfl (S.s.free 74 rfl) boot_sorted (pa_c (px_dg dformK hr.u1 rfl SC.nd (own := [("one", 1)]) (blkOk_by (by kernel_rfl)) (pi_w (px_ix s_ix (or_ix hr.u1) (px_v 0) px_int)) (fun s H C cl fp => (pg_n 1 SC.nd)) (fun s H C cl fp => (pts_o (pt_e (px_fn (ok_raw_is_on_order S) (by decide) rfl hr takes0 rfl rfl (pa_c (px_v 1) pa_n) (len_c (fun _ _ _ _ h => len_n h)))))) (fun s H C cl fp => (px_ix s_ix (or_ix hr.u1) (px_ix s_ix (or_ix hr.u1) (px_ix s_ix (or_ix hr.u1) (px_v 1) px_int) px_int) px_int)) (fun s H C cl fp => px_bl)) pa_n)) pa_n)))))
theorem ok_on_texts (S : CtxK Y P w mg base) : Okf Y P w mg base false 11 "on_texts" 1 (f_on_texts) := by
  obtain ⟨fd, D0⟩ := S.s.dfn 25 rfl
  have D : FunD Y.K "on_texts" "on_texts" (defArgs (top 51)) (defBody (top 51)) (defScope (top 51)) [] [] (He.fAd Y.K ("on_texts", none)) fd := D0
  clear D0
  have SC : FnScope ["act", "at", "one"] ["act"] (defScope (top 51)) := ⟨rfl, rfl, rfl, by decide +kernel, rfl, by decide +kernel, by decide +kernel⟩
  refine okf_of D rfl (S.s.glo 25 rfl) SC rfl rfl (fun _ _ _ _ _ _ us hl => match us, hl with | [_], _ => rfl) fun cdv hcdv A outer s H E hr => ?_
  have tk : Takes (cxOf (L2.CX P w) P w Y.K mg base ["act", "at", "one"] "on_texts" (defScope (top 51)) (He.fAd Y.K ("on_texts", none)) cdv A outer s H E) (fun c d _ H' => E c d H') := takes_of (E₁ := fun e' s'' => L2.CX P w outer H s E e' s'') rfl rfl rfl rfl
  exact (ss_cons (ps_exprS (px_fn (ok_check_act S) (by decide) rfl hr tk rfl rfl (pa_c (px_v 0) pa_n) (len_c (fun _ _ _ _ h => len_n h))))
  (ss_one (ps_retS (px_callT s_tuple (call_tuple_of) rfl (S.s.free 48 rfl) boot_tuple (pa_c (px_lc false rfl SC.nd (own := [("at", 1), ("one", 2)]) (blkOk_by (by kernel_rfl)) (pi_en rfl (S.s.free 75 rfl) (px_ix s_ix (or_ix hr.u1) (px_v 0) px_int)) (fun s H C cl fp => (pg_tu rfl (pgs_c (pg_n 1 SC.nd) (pgs_c (pg_n 2 SC.nd) pgs_n)))) (fun s H C cl fp => (pts_o (pt_not2 (pt_e (px_fn (ok_raw_is_on_order S) (by decide) rfl hr takes0 rfl rfl (pa_c (px_v 2) pa_n) (len_c (fun _ _ _ _ h => len_n h))))))) (fun s H C cl fp => (px_v 1))) pa_n)))))
theorem ok_shifted (S : CtxK Y P w mg base) : Okf Y P w mg base false 1 "shifted" 2 (f_shifted) := by
  obtain ⟨fd, D0⟩ := S.s.dfn 27 rfl
  have D : FunD Y.K "shifted" "shifted" (defArgs (top 53)) (defBody (top 53)) (defScope (top 53)) [] [] (He.fAd Y.K ("shifted", none)) fd := D0
  clear D0
  have SC : FnScope ["time", "days"] ["time", "days"] (defScope (top 53)) := ⟨rfl, rfl, rfl, by decide +kernel, rfl, by decide +kernel, by decide +kernel⟩
  refine okf_of D rfl (S.s.glo 27 rfl) SC rfl rfl (fun _ _ _ _ _ _ us hl => match us, hl with | [_, _], _ => rfl) fun cdv hcdv A outer s H E hr => ?_
  have tk : Takes (cxOf (L2.CX P w) P w Y.K mg base ["time", "days"] "shifted" (defScope (top 53)) (He.fAd Y.K ("shifted", none)) cdv A outer s H E) (fun c d _ H' => E c d H') := takes_of (E₁ := fun e' s'' => L2.CX P w outer H s E e' s'') rfl rfl rfl rfl
  exact (ss_one (ps_retS (px_if (PW.pt (pw_or2 (pt_cmp2 s_is or_is (px_v 0) px_non) (pw_or1 (pt_e (px_isi (px_v 0) (by decide) rfl (S.s.free 45 rfl) rfl (S.s.free 51 rfl)))))) (px_v 0) (px_op (s_add false) or_add (px_v 0) (px_v 1)))))
theorem ok_later_by (S : CtxK Y P w mg base) : Okf Y P w mg base false 11 "later_by" 2 (f_later_by) := by
  obtain ⟨fd, D0⟩ := S.s.dfn 26 rfl
  have D : FunD Y.K "later_by" "later_by" (defArgs (top 52)) (defBody (top 52)) (defScope (top 52)) [] [] (He.fAd Y.K ("later_by", none)) fd := D0
  clear D0
  have SC : FnScope ["act", "days", "found", "later", "order", "start", "end"] ["act", "days"] (defScope (top 52)) := ⟨rfl, rfl, rfl, by decide +kernel, rfl, by decide +kernel, by decide +kernel⟩
  refine okf_of D rfl (S.s.glo 26 rfl) SC rfl rfl (fun _ _ _ _ _ _ us hl => match us, hl with | [_, _], _ => rfl) fun cdv hcdv A outer s H E hr => ?_
  have tk : Takes (cxOf (L2.CX P w) P w Y.K mg base ["act", "days", "found", "later", "order", "start", "end"] "later_by" (defScope (top 52)) (He.fAd Y.K ("later_by", none)) cdv A outer s H E) (fun c d _ H' => E c d H') := takes_of (E₁ := fun e' s'' => L2.CX P w outer H s E e' s'') rfl rfl rfl rfl
  have pown : PassesOwn (model (cxOf (L2.CX P w) P w Y.K mg base ["act", "days", "found", "later", "order", "start", "end"] "later_by" (defScope (top 52)) (He.fAd Y.K ("later_by", none)) cdv A outer s H E).prog (cxOf (L2.CX P w) P w Y.K mg base ["act", "days", "found", "later", "order", "start", "end"] "later_by" (defScope (top 52)) (He.fAd Y.K ("later_by", none)) cdv A outer s H E).w) (cxOf (L2.CX P w) P w Y.K mg base ["act", "days", "found", "later", "order", "start", "end"] "later_by" (defScope (top 52)) (He.fAd Y.K ("later_by", none)) cdv A outer s H E).A (cxOf (L2.CX P w) P w Y.K mg base ["act", "days", "found", "later", "order", "start", "end"] "later_by" (defScope (top 52)) (He.fAd Y.K ("later_by", none)) cdv A outer s H E).env (cxOf (L2.CX P w) P w Y.K mg base ["act", "days", "found", "later", "order", "start", "end"] "later_by" (defScope (top 52)) (He.fAd Y.K ("later_by", none)) cdv A outer s H E).xe := passes_of (X := cxOf (L2.CX P w) P w Y.K mg base ["act", "days", "found", "later", "order", "start", "end"] "later_by" (defScope (top 52)) (He.fAd Y.K ("later_by", none)) cdv A outer s H E) (K := fun e' s'' => L2.CX P w outer H s E e' s'') (E₁ := fun e' s'' => L2.CX P w outer H s E e' s'') rfl
  exact (ss_cons (ps_exprS (px_fn (ok_check_act S) (by decide) rfl hr tk rfl rfl (pa_c (px_v 0) pa_n) (len_c (fun _ _ _ _ h => len_n h))))
  (ss_cons (ps_ifS (pt_not2 (pt_e (px_fn (ok_is_day S) (by decide) rfl hr tk rfl rfl (pa_c (px_v 1) pa_n) (len_c (fun _ _ _ _ h => len_n h))))) (ss_one (ps_raiseS (S.s.exc 71 72 rfl rfl) rfl tk rfl)) ss_nil)
  (ss_cons (ps_setS 2 SC.nd (px_lst true pa_n))
  (ss_cons (ps_forS pown rfl (pi_w (px_ix s_ix (or_ix hr.u1) (px_v 0) px_int)) (pg_tu rfl (pgs_c (pg_n 4 SC.nd) (pgs_c (pg_n 5 SC.nd) (pgs_c (pg_n 6 SC.nd) pgs_n)))) (ss_cons (ps_ifS (pt_cmp2 s_in (or_in hr.u65) (px_ix s_ix (or_ix hr.u1) (px_v 4) px_int) (px_tup (pa_c (px_gs (S.s.str 69 rfl) rfl) (pa_c (px_gs (S.s.str 70 rfl) rfl) pa_n)))) (ss_one (ps_setS 4 SC.nd (px_op (s_add false) or_add (px_sl false (px_v 4) po_n (po_s px_int)) (px_tup (pa_c (px_fn (ok_shifted S) (by decide) rfl hr tk rfl rfl (pa_c (px_ix s_ix (or_ix hr.u1) (px_v 4) px_int) (pa_c (px_v 1) pa_n)) (len_c (len_c (fun _ _ _ _ h => len_n h)))) pa_n))))) ss_nil)
  (ss_one (ps_exprS (px_m s_append (.inl rfl) F.plainAttrs_list F.slot_list_append F.type_list_append mt_append (px_v 2) (pa_c (px_tup (pa_c (px_v 4) (pa_c (px_fn (ok_shifted S) (by decide) rfl hr tk rfl rfl (pa_c (px_v 5) (pa_c (px_v 1) pa_n)) (len_c (len_c (fun _ _ _ _ h => len_n h)))) (pa_c (px_fn (ok_shifted S) (by decide) rfl hr tk rfl rfl (pa_c (px_v 6) (pa_c (px_v 1) pa_n)) (len_c (len_c (fun _ _ _ _ h => len_n h)))) pa_n)))) pa_n))))))
  (ss_cons (ps_setS 3 SC.nd (px_tup (pa_c (px_ix s_ix (or_ix hr.u1) (px_v 0) px_int) (pa_c (px_callT s_tuple (call_tuple_of) rfl (S.s.free 48 rfl) boot_tuple (pa_c (px_v 2) pa_n)) pa_n))))
  (ss_cons (ps_exprS (px_fn (ok_check_act S) (by decide) rfl hr tk rfl rfl (pa_c (px_v 3) pa_n) (len_c (fun _ _ _ _ h => len_n h))))
  (ss_one (ps_retS (px_v 3)))))))))
theorem ok_law_hand {ns : List Int} (S : CtxK Y P w mg base) (hns : Y.ns = ns) : Okf Y P w mg base false 1 "_law_hand" 1 (f_law_hand ns) := by
  obtain ⟨fd, D0⟩ := S.s.dfn 28 rfl
  have D : FunD Y.K "_law_hand" "_law_hand" (defArgs (top 55)) (defBody (top 55)) (defScope (top 55)) [] [] (He.fAd Y.K ("_law_hand", none)) fd := D0
  clear D0
  have SC : FnScope ["script", "cells", "cell"] ["script"] (defScope (top 55)) := ⟨rfl, rfl, rfl, by decide +kernel, rfl, by decide +kernel, by decide +kernel⟩
  refine okf_of D rfl (S.s.glo 28 rfl) SC rfl rfl (fun _ _ _ _ _ _ us hl => match us, hl with | [_], _ => rfl) fun cdv hcdv A outer s H E hr => ?_
  have tk : Takes (cxOf (L2.CX P w) P w Y.K mg base ["script", "cells", "cell"] "_law_hand" (defScope (top 55)) (He.fAd Y.K ("_law_hand", none)) cdv A outer s H E) (fun c d _ H' => E c d H') := takes_of (E₁ := fun e' s'' => L2.CX P w outer H s E e' s'') rfl rfl rfl rfl
  exact (ss_cons (ps_lcS false 1 rfl SC.nd (own := [("cell", 2)]) (blkOk_by (by kernel_rfl)) (pi_w (px_scr (k := 63) hns (px_v 0))) (fun s H C cl fp => (pg_n 2 SC.nd)) (fun s H C cl fp => pts_n) (fun s H C cl fp => (px_op s_mod op_modN (px_callT s_int or_int rfl (S.s.free 46 rfl) boot_int (pa_c (px_callB s_abs call_abs rfl (S.s.free 76 rfl) boot_abs (pa_c (px_callT s_int or_int rfl (S.s.free 46 rfl) boot_int (pa_c (px_v 2) pa_n)) pa_n)) pa_n)) (px_op s_pow op_pow px_int px_int))) (sw_true rfl rfl rfl (by kernel_rfl)))
  (ss_one (ps_retS (px_lst true (pa_c (px_v 1) (pa_c px_int (pa_c px_int (pa_c (px_op (s_add false) or_add px_int (px_op (s_mul false) or_mul px_int (px_callB s_len or_len rfl (S.s.free 49 rfl) boot_len (pa_c (px_v 1) pa_n)))) (pa_c px_int pa_n)))))))))
theorem ok_law_draw (S : CtxK Y P w mg base) : Okf Y P w mg base false 1 "_law_draw" 2 (f_law_draw) := by
  obtain ⟨fd, D0⟩ := S.s.dfn 29 rfl
  have D : FunD Y.K "_law_draw" "_law_draw" (defArgs (top 56)) (defBody (top 56)) (defScope (top 56)) [] [] (He.fAd Y.K ("_law_draw", none)) fd := D0
  clear D0
  have SC : FnScope ["hand", "many", "number", "cell", "digit"] ["hand", "many"] (defScope (top 56)) := ⟨rfl, rfl, rfl, by decide +kernel, rfl, by decide +kernel, by decide +kernel⟩
  refine okf_of D rfl (S.s.glo 29 rfl) SC rfl rfl (fun _ _ _ _ _ _ us hl => match us, hl with | [_, _], _ => rfl) fun cdv hcdv A outer s H E hr => ?_
  have tk : Takes (cxOf (L2.CX P w) P w Y.K mg base ["hand", "many", "number", "cell", "digit"] "_law_draw" (defScope (top 56)) (He.fAd Y.K ("_law_draw", none)) cdv A outer s H E) (fun c d _ H' => E c d H') := takes_of (E₁ := fun e' s'' => L2.CX P w outer H s E e' s'') rfl rfl rfl rfl
  exact (ss_cons (ps_ifS (PW.pt (pw_and2 (pt_cmp2 s_eq (or_eq hr.r.units) (px_ix s_ix (or_ix hr.u1) (px_v 0) px_int) px_int) (pw_and1 (pt_cmp2 s_cmpI op_lt (px_ix s_ix (or_ix hr.u1) (px_v 0) px_int) (px_callB s_len or_len rfl (S.s.free 49 rfl) boot_len (pa_c (px_ix s_ix (or_ix hr.u1) (px_v 0) px_int) pa_n)))))) (ss_cons (ps_setS 3 SC.nd (px_ix s_ix (or_ix hr.u1) (px_ix s_ix (or_ix hr.u1) (px_v 0) px_int) (px_ix s_ix (or_ix hr.u1) (px_v 0) px_int)))
  (ss_cons (ps_asgS (px_op (s_add false) or_add (px_ix s_ix (or_ix hr.u1) (px_v 0) px_int) px_int) (pg_sb hr.u1 (px_v 0) px_int))
  (ss_cons (ps_asgS (px_op s_mod op_modN (px_callT s_int or_int rfl (S.s.free 46 rfl) boot_int (pa_c (px_op (s_add false) or_add (px_op (s_add false) or_add (px_op (s_mul false) or_mul (px_ix s_ix (or_ix hr.u1) (px_v 0) px_int) px_int) (px_op (s_mul false) or_mul (px_v 3) px_int)) px_int) pa_n)) px_int) (pg_sb hr.u1 (px_v 0) px_int))
  (ss_one (ps_ifS (pt_cmp2 s_cmpI op_ge (px_v 3) (px_op s_pow op_pow px_int px_int)) (ss_one (ps_asgS (px_v 3) (pg_sb hr.u1 (px_v 0) px_int))) ss_nil))))) ss_nil)
  (ss_cons (ps_ifS (pt_cmp2 s_cmpI op_gt (px_ix s_ix (or_ix hr.u1) (px_v 0) px_int) px_int) (ss_cons (ps_setS 4 SC.nd (px_op s_mod op_modN (px_callT s_int or_int rfl (S.s.free 46 rfl) boot_int (pa_c (px_ix s_ix (or_ix hr.u1) (px_v 0) px_int) pa_n)) (px_v 1)))
  (ss_cons (ps_asgS (px_op s_div op_fdivN (px_ix s_ix (or_ix hr.u1) (px_v 0) px_int) (px_v 1)) (pg_sb hr.u1 (px_v 0) px_int))
  (ss_one (ps_retS (px_v 4))))) ss_nil)
  (ss_cons (ps_asgS (px_op (s_add false) or_add (px_ix s_ix (or_ix hr.u1) (px_v 0) px_int) px_int) (pg_sb hr.u1 (px_v 0) px_int))
  (ss_cons (ps_setS 2 SC.nd (px_op s_mod op_modN (px_callT s_int or_int rfl (S.s.free 46 rfl) boot_int (pa_c (px_op (s_mul false) or_mul (px_callT s_int or_int rfl (S.s.free 46 rfl) boot_int (pa_c (px_op (s_add false) or_add (px_ix s_ix (or_ix hr.u1) (px_v 0) px_int) (px_op (s_mul false) or_mul px_int (px_ix s_ix (or_ix hr.u1) (px_v 0) px_int))) pa_n)) px_int) pa_n)) px_int))
  (ss_cons (ps_setS 2 SC.nd (px_op s_mod op_modN (px_callT s_int or_int rfl (S.s.free 46 rfl) boot_int (pa_c (px_op (s_mul false) or_mul (px_v 2) (px_op (s_add false) or_add (px_op s_div op_fdivN (px_v 2) px_int) px_int)) pa_n)) px_int))
  (ss_cons (ps_setS 2 SC.nd (px_op s_mod op_modN (px_callT s_int or_int rfl (S.s.free 46 rfl) boot_int (pa_c (px_op (s_mul false) or_mul (px_v 2) (px_op (s_add false) or_add (px_op s_div op_fdivN (px_v 2) px_int) px_int)) pa_n)) px_int))
  (ss_one (ps_retS (px_op s_mod op_modN (px_callT s_int or_int rfl (S.s.free 46 rfl) boot_int (pa_c (px_op s_div op_fdivN (px_v 2) px_int) pa_n)) (px_v 1))))))))))
end
end K08
end
section
set_option linter.all false
set_option maxRecDepth 100000
set_option maxHeartbeats 4000000
/-! K08q05: the defs do so (printed by gen.py). -/
namespace K08
open PySem PySem.Spec PyProof.Rows L2 Pu
section
variable {Y : Wd} {P : Program} {w : World} {mg : Str → Option Value} {base : Heap}
theorem ok_law_some (S : CtxK Y P w mg base) : Okf Y P w mg base false 2 "_law_some" 2 (f_law_some) := by
  obtain ⟨fd, D0⟩ := S.s.dfn 30 rfl
  have D : FunD Y.K "_law_some" "_law_some" (defArgs (top 57)) (defBody (top 57)) (defScope (top 57)) [] [] (He.fAd Y.K ("_law_some", none)) fd := D0
  clear D0
  have SC : FnScope ["hand", "things"] ["hand", "things"] (defScope (top 57)) := ⟨rfl, rfl, rfl, by decide +kernel, rfl, by decide +kernel, by decide +kernel⟩
  refine okf_of D rfl (S.s.glo 30 rfl) SC rfl rfl (fun _ _ _ _ _ _ us hl => match us, hl with | [_, _], _ => rfl) fun cdv hcdv A outer s H E hr => ?_
  have tk : Takes (cxOf (L2.CX P w) P w Y.K mg base ["hand", "things"] "_law_some" (defScope (top 57)) (He.fAd Y.K ("_law_some", none)) cdv A outer s H E) (fun c d _ H' => E c d H') := takes_of (E₁ := fun e' s'' => L2.CX P w outer H s E e' s'') rfl rfl rfl rfl
  exact (ss_one (ps_retS (px_ix s_ix (or_ix hr.u1) (px_v 1) (px_fn (ok_law_draw S) (by decide) rfl hr tk rfl rfl (pa_c (px_v 0) (pa_c (px_callB s_len or_len rfl (S.s.free 49 rfl) boot_len (pa_c (px_v 1) pa_n)) pa_n)) (len_c (len_c (fun _ _ _ _ h => len_n h)))))))
theorem ok_law_like (S : CtxK Y P w mg base) : Okf Y P w mg base true 1 "_law_like" 2 (f_law_like) := by
  obtain ⟨fd, D0⟩ := S.s.dfn 31 rfl
  have D : FunD Y.K "_law_like" "_law_like" (defArgs (top 58)) (defBody (top 58)) (defScope (top 58)) [] [] (He.fAd Y.K ("_law_like", none)) fd := D0
  clear D0
  have SC : FnScope ["told", "due"] ["told", "due"] (defScope (top 58)) := ⟨rfl, rfl, rfl, by decide +kernel, rfl, by decide +kernel, by decide +kernel⟩
  refine okf_of D rfl (S.s.glo 31 rfl) SC rfl rfl (fun _ _ _ _ _ _ us hl => match us, hl with | [_, _], _ => rfl) fun cdv hcdv A outer s H E hr => ?_
  have tk : Takes (cxOf (L2.CX P w) P w Y.K mg base ["told", "due"] "_law_like" (defScope (top 58)) (He.fAd Y.K ("_law_like", none)) cdv A outer s H E) (fun c d _ H' => E c d H') := takes_of (E₁ := fun e' s'' => L2.CX P w outer H s E e' s'') rfl rfl rfl rfl
  exact (ss_one (ps_retS (px_cmp s_eq (or_eq hr.r.units) (px_callB s_repr (call_repr hr) rfl (S.s.free 77 rfl) boot_repr (pa_c (px_v 0) pa_n)) (px_callB s_repr (call_repr hr) rfl (S.s.free 77 rfl) boot_repr (pa_c (px_v 1) pa_n)))))
theorem ok_law_is_on_text (S : CtxK Y P w mg base) : Okf Y P w mg base false 1 "_law_is_on_text" 1 (f_law_is_on_text) := by
  obtain ⟨fd, D0⟩ := S.s.dfn 32 rfl
  have D : FunD Y.K "_law_is_on_text" "_law_is_on_text" (defArgs (top 59)) (defBody (top 59)) (defScope (top 59)) [] [] (He.fAd Y.K ("_law_is_on_text", none)) fd := D0
  clear D0
  have SC : FnScope ["order"] ["order"] (defScope (top 59)) := ⟨rfl, rfl, rfl, by decide +kernel, rfl, by decide +kernel, by decide +kernel⟩
  refine okf_of D rfl (S.s.glo 32 rfl) SC rfl rfl (fun _ _ _ _ _ _ us hl => match us, hl with | [_], _ => rfl) fun cdv hcdv A outer s H E hr => ?_
  have tk : Takes (cxOf (L2.CX P w) P w Y.K mg base ["order"] "_law_is_on_text" (defScope (top 59)) (He.fAd Y.K ("_law_is_on_text", none)) cdv A outer s H E) (fun c d _ H' => E c d H') := takes_of (E₁ := fun e' s'' => L2.CX P w outer H s E e' s'') rfl rfl rfl rfl
  exact (ss_one (ps_retS (px_cmp s_in (or_in hr.u65) (px_ix s_ix (or_ix hr.u1) (px_v 0) px_int) (px_tup (pa_c px_str (pa_c px_str (pa_c px_str (pa_c px_str (pa_c px_str (pa_c px_str pa_n))))))))))
theorem ok_law_when (S : CtxK Y P w mg base) : Okf Y P w mg base false 3 "_law_when" 1 (f_law_when) := by
  obtain ⟨fd, D0⟩ := S.s.dfn 34 rfl
  have D : FunD Y.K "_law_when" "_law_when" (defArgs (top 61)) (defBody (top 61)) (defScope (top 61)) [] [] (He.fAd Y.K ("_law_when", none)) fd := D0
  clear D0
  have SC : FnScope ["hand"] ["hand"] (defScope (top 61)) := ⟨rfl, rfl, rfl, by decide +kernel, rfl, by decide +kernel, by decide +kernel⟩
  refine okf_of D rfl (S.s.glo 34 rfl) SC rfl rfl (fun _ _ _ _ _ _ us hl => match us, hl with | [_], _ => rfl) fun cdv hcdv A outer s H E hr => ?_
  have tk : Takes (cxOf (L2.CX P w) P w Y.K mg base ["hand"] "_law_when" (defScope (top 61)) (He.fAd Y.K ("_law_when", none)) cdv A outer s H E) (fun c d _ H' => E c d H') := takes_of (E₁ := fun e' s'' => L2.CX P w outer H s E e' s'') rfl rfl rfl rfl
  exact (ss_cons (ps_ifS (pt_cmp2 s_eq (or_eq hr.r.units) (px_fn (ok_law_draw S) (by decide) rfl hr tk rfl rfl (pa_c (px_v 0) (pa_c px_int pa_n)) (len_c (len_c (fun _ _ _ _ h => len_n h)))) px_int) (ss_one (ps_retS (px_fn (ok_law_some S) (by decide) rfl hr tk rfl rfl (pa_c (px_v 0) (pa_c (px_lst false (pa_c px_str (pa_c px_str (pa_c px_str (pa_c px_str (pa_c px_str (pa_c px_str pa_n))))))) pa_n)) (len_c (len_c (fun _ _ _ _ h => len_n h)))))) ss_nil)
  (ss_one (ps_retS (px_fn (ok_law_some S) (by decide) rfl hr tk rfl rfl (pa_c (px_v 0) (pa_c (px_lst false (pa_c px_int (pa_c px_int (pa_c px_int (pa_c px_int (pa_c px_int (pa_c px_int (pa_c px_int (pa_c px_int (pa_c px_int (pa_c px_int (pa_c (px_op s_pow op_pow px_int px_int) (pa_c (px_fn (ok_law_draw S) (by decide) rfl hr tk rfl rfl (pa_c (px_v 0) (pa_c (px_op s_pow op_pow px_int px_int) pa_n)) (len_c (len_c (fun _ _ _ _ h => len_n h)))) pa_n))))))))))))) pa_n)) (len_c (len_c (fun _ _ _ _ h => len_n h)))))))
theorem ok_law_on_text (S : CtxK Y P w mg base) : Okf Y P w mg base false 3 "_law_on_text" 2 (f_law_on_text) := by
  obtain ⟨fd, D0⟩ := S.s.dfn 35 rfl
  have D : FunD Y.K "_law_on_text" "_law_on_text" (defArgs (top 62)) (defBody (top 62)) (defScope (top 62)) [] [] (He.fAd Y.K ("_law_on_text", none)) fd := D0
  clear D0
  have SC : FnScope ["hand", "mark", "some"] ["hand", "mark"] (defScope (top 62)) := ⟨rfl, rfl, rfl, by decide +kernel, rfl, by decide +kernel, by decide +kernel⟩
  refine okf_of D rfl (S.s.glo 35 rfl) SC rfl rfl (fun _ _ _ _ _ _ us hl => match us, hl with | [_, _], _ => rfl) fun cdv hcdv A outer s H E hr => ?_
  have tk : Takes (cxOf (L2.CX P w) P w Y.K mg base ["hand", "mark", "some"] "_law_on_text" (defScope (top 62)) (He.fAd Y.K ("_law_on_text", none)) cdv A outer s H E) (fun c d _ H' => E c d H') := takes_of (E₁ := fun e' s'' => L2.CX P w outer H s E e' s'') rfl rfl rfl rfl
  exact (ss_cons (ps_setS 2 SC.nd (px_lst false (pa_c (px_tup (pa_c px_str (pa_c (px_tup (pa_c px_int (pa_c px_int pa_n))) (pa_c px_str (pa_c (px_tup (pa_c px_str pa_n)) (pa_c px_non pa_n)))))) (pa_c (px_tup (pa_c px_str (pa_c (px_v 1) pa_n))) (pa_c (px_tup (pa_c px_str (pa_c (px_v 1) (pa_c (px_tup (pa_c px_str (pa_c px_str pa_n))) pa_n)))) pa_n)))))
  (ss_one (ps_retS (px_fn (ok_law_some S) (by decide) rfl hr tk rfl rfl (pa_c (px_v 0) (pa_c (px_op (s_add false) or_add (px_v 2) (px_lst false (pa_c (px_tup (pa_c px_str (pa_c (px_v 1) (pa_c px_str (pa_c px_str pa_n))))) (pa_c (px_tup (pa_c px_str (pa_c (px_v 1) (pa_c px_str pa_n)))) (pa_c (px_tup (pa_c px_str (pa_c (px_v 1) (pa_c (px_tup (pa_c px_int (pa_c px_int pa_n))) (pa_c px_non pa_n))))) pa_n))))) pa_n)) (len_c (len_c (fun _ _ _ _ h => len_n h)))))))
theorem ok_law_provided (S : CtxK Y P w mg base) : Okf Y P w mg base false 4 "_law_provided" 2 (f_law_provided) := by
  obtain ⟨fd, D0⟩ := S.s.dfn 33 rfl
  have D : FunD Y.K "_law_provided" "_law_provided" (defArgs (top 60)) (defBody (top 60)) (defScope (top 60)) [] [] (He.fAd Y.K ("_law_provided", none)) fd := D0
  clear D0
  have SC : FnScope ["hand", "number", "acts", "mark", "some", "one"] ["hand", "number"] (defScope (top 60)) := ⟨rfl, rfl, rfl, by decide +kernel, rfl, by decide +kernel, by decide +kernel⟩
  refine okf_of D rfl (S.s.glo 33 rfl) SC rfl rfl (fun _ _ _ _ _ _ us hl => match us, hl with | [_, _], _ => rfl) fun cdv hcdv A outer s H E hr => ?_
  have tk : Takes (cxOf (L2.CX P w) P w Y.K mg base ["hand", "number", "acts", "mark", "some", "one"] "_law_provided" (defScope (top 60)) (He.fAd Y.K ("_law_provided", none)) cdv A outer s H E) (fun c d _ H' => E c d H') := takes_of (E₁ := fun e' s'' => L2.CX P w outer H s E e' s'') rfl rfl rfl rfl
  exact (ss_cons (ps_lcS false 2 rfl SC.nd (own := [("one", 5)]) (blkOk_by (by kernel_rfl)) (pi_w (px_lst false (pa_c px_int (pa_c px_int (pa_c px_int (pa_c px_int (pa_c px_int (pa_c px_int (pa_c px_int (pa_c px_int (pa_c px_int pa_n))))))))))) (fun s H C cl fp => (pg_n 5 SC.nd)) (fun s H C cl fp => (pts_o (pt_cmp2 s_cmpI op_lt (px_v 5) (px_v 1)))) (fun s H C cl fp => (px_v 5)) (sw_true rfl rfl rfl (by kernel_rfl)))
  (ss_cons (ps_setS 3 SC.nd (px_tup (pa_c (px_fn (ok_law_some S) (by decide) rfl hr tk rfl rfl (pa_c (px_v 0) (pa_c (px_v 2) pa_n)) (len_c (len_c (fun _ _ _ _ h => len_n h)))) (pa_c (px_fn (ok_law_draw S) (by decide) rfl hr tk rfl rfl (pa_c (px_v 0) (pa_c px_int pa_n)) (len_c (len_c (fun _ _ _ _ h => len_n h)))) pa_n))))
  (ss_cons (ps_setS 4 SC.nd (px_lst true (pa_c (px_tup (pa_c px_str (pa_c (px_v 3) pa_n))) (pa_c (px_tup (pa_c px_str (pa_c (px_v 3) (pa_c (px_fn (ok_law_when S) (by decide) rfl hr tk rfl rfl (pa_c (px_v 0) pa_n) (len_c (fun _ _ _ _ h => len_n h))) pa_n)))) (pa_c (px_tup (pa_c px_str (pa_c (px_v 3) (pa_c (px_fn (ok_law_some S) (by decide) rfl hr tk rfl rfl (pa_c (px_v 0) (pa_c (px_lst false (pa_c px_non (pa_c (px_fn (ok_law_when S) (by decide) rfl hr tk rfl rfl (pa_c (px_v 0) pa_n) (len_c (fun _ _ _ _ h => len_n h))) pa_n))) pa_n)) (len_c (len_c (fun _ _ _ _ h => len_n h)))) pa_n)))) pa_n)))))
  (ss_cons (ps_setS 4 SC.nd (px_op (s_add true) or_add (px_v 4) (px_lst false (pa_c (px_tup (pa_c px_str (pa_c (px_v 3) (pa_c (px_fn (ok_law_on_text S) (by decide) rfl hr tk rfl rfl (pa_c (px_v 0) (pa_c (px_v 3) pa_n)) (len_c (len_c (fun _ _ _ _ h => len_n h)))) pa_n)))) (pa_c (px_fn (ok_law_on_text S) (by decide) rfl hr tk rfl rfl (pa_c (px_v 0) (pa_c (px_tup (pa_c (px_v 1) (pa_c px_int pa_n))) pa_n)) (len_c (len_c (fun _ _ _ _ h => len_n h)))) pa_n)))))
  (ss_cons (ps_exprS (px_m s_append (.inl rfl) F.plainAttrs_list F.slot_list_append F.type_list_append mt_append (px_v 4) (pa_c (px_fn (ok_law_on_text S) (by decide) rfl hr tk rfl rfl (pa_c (px_v 0) (pa_c (px_v 3) pa_n)) (len_c (len_c (fun _ _ _ _ h => len_n h)))) pa_n)))
  (ss_one (ps_retS (px_tup (pa_c (px_fn (ok_law_some S) (by decide) rfl hr tk rfl rfl (pa_c (px_v 0) (pa_c (px_v 4) pa_n)) (len_c (len_c (fun _ _ _ _ h => len_n h)))) (pa_c (px_fn (ok_law_when S) (by decide) rfl hr tk rfl rfl (pa_c (px_v 0) pa_n) (len_c (fun _ _ _ _ h => len_n h))) (pa_c (px_fn (ok_law_some S) (by decide) rfl hr tk rfl rfl (pa_c (px_v 0) (pa_c (px_lst false (pa_c px_non (pa_c (px_fn (ok_law_when S) (by decide) rfl hr tk rfl rfl (pa_c (px_v 0) pa_n) (len_c (fun _ _ _ _ h => len_n h))) (pa_c px_non pa_n)))) pa_n)) (len_c (len_c (fun _ _ _ _ h => len_n h)))) pa_n)))))))))))
end
end K08
end
section
set_option linter.all false
set_option maxRecDepth 100000
set_option maxHeartbeats 4000000
/-! K08q06: the defs do so (printed by gen.py). -/
namespace K08
open PySem PySem.Spec PyProof.Rows L2 Pu
section
variable {Y : Wd} {P : Program} {w : World} {mg : Str → Option Value} {base : Heap}
theorem ok_law_times (S : CtxK Y P w mg base) : Okf Y P w mg base false 1 "_law_times" 1 (f_law_times) := by
  obtain ⟨fd, D0⟩ := S.s.dfn 36 rfl
  have D : FunD Y.K "_law_times" "_law_times" (defArgs (top 63)) (defBody (top 63)) (defScope (top 63)) [] [] (He.fAd Y.K ("_law_times", none)) fd := D0
  clear D0
  have SC : FnScope ["act", "found", "order", "start", "end"] ["act"] (defScope (top 63)) := ⟨rfl, rfl, rfl, by decide +kernel, rfl, by decide +kernel, by decide +kernel⟩
  refine okf_of D rfl (S.s.glo 36 rfl) SC rfl rfl (fun _ _ _ _ _ _ us hl => match us, hl with | [_], _ => rfl) fun cdv hcdv A outer s H E hr => ?_
  have tk : Takes (cxOf (L2.CX P w) P w Y.K mg base ["act", "found", "order", "start", "end"] "_law_times" (defScope (top 63)) (He.fAd Y.K ("_law_times", none)) cdv A outer s H E) (fun c d _ H' => E c d H') := takes_of (E₁ := fun e' s'' => L2.CX P w outer H s E e' s'') rfl rfl rfl rfl
  have pown : PassesOwn (model (cxOf (L2.CX P w) P w Y.K mg base ["act", "found", "order", "start", "end"] "_law_times" (defScope (top 63)) (He.fAd Y.K ("_law_times", none)) cdv A outer s H E).prog (cxOf (L2.CX P w) P w Y.K mg base ["act", "found", "order", "start", "end"] "_law_times" (defScope (top 63)) (He.fAd Y.K ("_law_times", none)) cdv A outer s H E).w) (cxOf (L2.CX P w) P w Y.K mg base ["act", "found", "order", "start", "end"] "_law_times" (defScope (top 63)) (He.fAd Y.K ("_law_times", none)) cdv A outer s H E).A (cxOf (L2.CX P w) P w Y.K mg base ["act", "found", "order", "start", "end"] "_law_times" (defScope (top 63)) (He.fAd Y.K ("_law_times", none)) cdv A outer s H E).env (cxOf (L2.CX P w) P w Y.K mg base ["act", "found", "order", "start", "end"] "_law_times" (defScope (top 63)) (He.fAd Y.K ("_law_times", none)) cdv A outer s H E).xe := passes_of (X := cxOf (L2.CX P w) P w Y.K mg base ["act", "found", "order", "start", "end"] "_law_times" (defScope (top 63)) (He.fAd Y.K ("_law_times", none)) cdv A outer s H E) (K := fun e' s'' => L2.CX P w outer H s E e' s'') (E₁ := fun e' s'' => L2.CX P w outer H s E e' s'') rfl
  exact (ss_cons (ps_setS 1 SC.nd (px_lst true pa_n))
  (ss_cons (ps_forS pown rfl (pi_w (px_ix s_ix (or_ix hr.u1) (px_v 0) px_int)) (pg_tu rfl (pgs_c (pg_n 2 SC.nd) (pgs_c (pg_n 3 SC.nd) (pgs_c (pg_n 4 SC.nd) pgs_n)))) (ss_cons (ps_exprS (px_m s_extend (.inl rfl) F.plainAttrs_list F.slot_list_extend F.type_list_extend mt_extend (px_v 1) (pa_c (px_op (s_add false) or_add (px_lst false (pa_c (px_v 3) pa_n)) (px_if (pt_cmp2 s_is or_is (px_v 4) px_non) (px_lst false pa_n) (px_lst false (pa_c (px_v 4) pa_n)))) pa_n)))
  (ss_one (ps_ifS (PW.pt (pw_and2 (pt_cmp2 s_in (or_in hr.u65) (px_ix s_ix (or_ix hr.u1) (px_v 2) px_int) (px_tup (pa_c px_str (pa_c px_str pa_n)))) (pw_and1 (pt_cmp2 s_isNot or_isNot (px_ix s_ix (or_ix hr.u1) (px_v 2) px_int) px_non)))) (ss_one (ps_exprS (px_m s_append (.inl rfl) F.plainAttrs_list F.slot_list_append F.type_list_append mt_append (px_v 1) (pa_c (px_ix s_ix (or_ix hr.u1) (px_v 2) px_int) pa_n)))) ss_nil))))
  (ss_one (ps_retS (px_v 1)))))
theorem ok_law_numbers (S : CtxK Y P w mg base) : Okf Y P w mg base false 1 "_law_numbers" 1 (f_law_numbers) := by
  obtain ⟨fd, D0⟩ := S.s.dfn 37 rfl
  have D : FunD Y.K "_law_numbers" "_law_numbers" (defArgs (top 64)) (defBody (top 64)) (defScope (top 64)) [] [] (He.fAd Y.K ("_law_numbers", none)) fd := D0
  clear D0
  have SC : FnScope ["many", "found", "one", "at", "other"] ["many"] (defScope (top 64)) := ⟨rfl, rfl, rfl, by decide +kernel, rfl, by decide +kernel, by decide +kernel⟩
  refine okf_of D rfl (S.s.glo 37 rfl) SC rfl rfl (fun _ _ _ _ _ _ us hl => match us, hl with | [_], _ => rfl) fun cdv hcdv A outer s H E hr => ?_
  have tk : Takes (cxOf (L2.CX P w) P w Y.K mg base ["many", "found", "one", "at", "other"] "_law_numbers" (defScope (top 64)) (He.fAd Y.K ("_law_numbers", none)) cdv A outer s H E) (fun c d _ H' => E c d H') := takes_of (E₁ := fun e' s'' => L2.CX P w outer H s E e' s'') rfl rfl rfl rfl
  have pown : PassesOwn (model (cxOf (L2.CX P w) P w Y.K mg base ["many", "found", "one", "at", "other"] "_law_numbers" (defScope (top 64)) (He.fAd Y.K ("_law_numbers", none)) cdv A outer s H E).prog (cxOf (L2.CX P w) P w Y.K mg base ["many", "found", "one", "at", "other"] "_law_numbers" (defScope (top 64)) (He.fAd Y.K ("_law_numbers", none)) cdv A outer s H E).w) (cxOf (L2.CX P w) P w Y.K mg base ["many", "found", "one", "at", "other"] "_law_numbers" (defScope (top 64)) (He.fAd Y.K ("_law_numbers", none)) cdv A outer s H E).A (cxOf (L2.CX P w) P w Y.K mg base ["many", "found", "one", "at", "other"] "_law_numbers" (defScope (top 64)) (He.fAd Y.K ("_law_numbers", none)) cdv A outer s H E).env (cxOf (L2.CX P w) P w Y.K mg base ["many", "found", "one", "at", "other"] "_law_numbers" (defScope (top 64)) (He.fAd Y.K ("_law_numbers", none)) cdv A outer s H E).xe := passes_of (X := cxOf (L2.CX P w) P w Y.K mg base ["many", "found", "one", "at", "other"] "_law_numbers" (defScope (top 64)) (He.fAd Y.K ("_law_numbers", none)) cdv A outer s H E) (K := fun e' s'' => L2.CX P w outer H s E e' s'') (E₁ := fun e' s'' => L2.CX P w outer H s E e' s'') rfl
  exact (ss_cons (ps_setS 1 SC.nd (px_lst false pa_n))
  (ss_cons (ps_forS pown rfl (pi_w (px_v 0)) (pg_n 2 SC.nd) (ss_cons (ps_setS 3 SC.nd (px_callB s_sumA (or_sum rfl) rfl (S.s.free 78 rfl) boot_sum (pa_c (px_lc false rfl SC.nd (own := [("other", 4)]) (blkOk_by (by kernel_rfl)) (pi_w (px_v 1)) (fun s H C cl fp => (pg_n 4 SC.nd)) (fun s H C cl fp => pts_n) (fun s H C cl fp => (px_callT s_int or_int rfl (S.s.free 46 rfl) boot_int (pa_c (px_cmp s_cmpI op_lt (px_v 4) (px_v 2)) pa_n)))) pa_n)))
  (ss_one (ps_ifS (PW.pt (pw_or2 (pt_cmp2 s_eq (or_eq hr.r.units) (px_v 3) (px_callB s_len or_len rfl (S.s.free 49 rfl) boot_len (pa_c (px_v 1) pa_n))) (pw_or1 (pt_cmp2 s_ne (or_ne hr.r.units) (px_ix s_ix (or_ix hr.u1) (px_v 1) (px_v 3)) (px_v 2))))) (ss_one (ps_setS 1 SC.nd (px_op (s_add false) or_add (px_op (s_add false) or_add (px_sl false (px_v 1) po_n (po_s (px_v 3))) (px_lst false (pa_c (px_v 2) pa_n))) (px_sl false (px_v 1) (po_s (px_v 3)) po_n)))) ss_nil))))
  (ss_one (ps_retS (px_callT s_tuple (call_tuple_of) rfl (S.s.free 48 rfl) boot_tuple (pa_c (px_v 1) pa_n))))))
theorem ok_law_is_told_right (S : CtxK Y P w mg base) : Okf Y P w mg base true 12 "_law_is_told_right" 1 (f_law_is_told_right) := by
  obtain ⟨fd, D0⟩ := S.s.dfn 38 rfl
  have D : FunD Y.K "_law_is_told_right" "_law_is_told_right" (defArgs (top 65)) (defBody (top 65)) (defScope (top 65)) [] [] (He.fAd Y.K ("_law_is_told_right", none)) fd := D0
  clear D0
  have SC : FnScope ["act", "days", "events", "changed", "places", "told", "times", "number", "one", "order", "start", "end", "at"] ["act"] (defScope (top 65)) := ⟨rfl, rfl, rfl, by decide +kernel, rfl, by decide +kernel, by decide +kernel⟩
  refine okf_of D rfl (S.s.glo 38 rfl) SC rfl rfl (fun _ _ _ _ _ _ us hl => match us, hl with | [_], _ => rfl) fun cdv hcdv A outer s H E hr => ?_
  have tk : Takes (cxOf (L2.CX P w) P w Y.K mg base ["act", "days", "events", "changed", "places", "told", "times", "number", "one", "order", "start", "end", "at"] "_law_is_told_right" (defScope (top 65)) (He.fAd Y.K ("_law_is_told_right", none)) cdv A outer s H E) (fun c d _ H' => E c d H') := takes_of (E₁ := fun e' s'' => L2.CX P w outer H s E e' s'') rfl rfl rfl rfl
  exact (ss_cons (ps_tup2S 6 7 rfl (pa_c (px_fn (ok_law_times S) (by decide) rfl hr tk rfl rfl (pa_c (px_v 0) pa_n) (len_c (fun _ _ _ _ h => len_n h))) (pa_c (px_ix s_ix (or_ix hr.u1) (px_v 0) px_int) pa_n)) (pgs_c (pg_n 6 SC.nd) (pgs_c (pg_n 7 SC.nd) pgs_n)))
  (ss_cons (ps_setS 1 SC.nd (px_fn (ok_law_numbers S) (by decide) rfl hr tk rfl rfl (pa_c (px_lc false rfl SC.nd (own := [("one", 8)]) (blkOk_by (by kernel_rfl)) (pi_w (px_v 6)) (fun s H C cl fp => (pg_n 8 SC.nd)) (fun s H C cl fp => (pts_o (pt_not2 (pt_e (px_isi (px_v 8) (by decide) rfl (S.s.free 45 rfl) rfl (S.s.free 51 rfl)))))) (fun s H C cl fp => (px_v 8))) pa_n) (len_c (fun _ _ _ _ h => len_n h))))
  (ss_cons (ps_setS 2 SC.nd (px_callT s_tuple (call_tuple_of) rfl (S.s.free 48 rfl) boot_tuple (pa_c (px_sortSet rfl rfl (S.s.free 74 rfl) rfl (S.s.free 79 rfl) (px_lc false rfl SC.nd (own := [("one", 8)]) (blkOk_by (by kernel_rfl)) (pi_w (px_v 6)) (fun s H C cl fp => (pg_n 8 SC.nd)) (fun s H C cl fp => (pts_o (pt_e (px_isi (px_v 8) (by decide) rfl (S.s.free 45 rfl) rfl (S.s.free 51 rfl))))) (fun s H C cl fp => (px_v 8)))) pa_n)))
  (ss_cons (ps_setS 3 SC.nd (px_fn (ok_law_numbers S) (by decide) rfl hr tk rfl rfl (pa_c (px_lc false rfl SC.nd (own := [("order", 9), ("start", 10), ("end", 11)]) (blkOk_by (by kernel_rfl)) (pi_w (px_ix s_ix (or_ix hr.u1) (px_v 0) px_int)) (fun s H C cl fp => (pg_tu rfl (pgs_c (pg_n 9 SC.nd) (pgs_c (pg_n 10 SC.nd) (pgs_c (pg_n 11 SC.nd) pgs_n))))) (fun s H C cl fp => (pts_o (pt_not2 (pt_e (px_fn (ok_law_is_on_text S) (by decide) rfl hr takes0 rfl rfl (pa_c (px_v 9) pa_n) (len_c (fun _ _ _ _ h => len_n h))))))) (fun s H C cl fp => (px_ix s_ix (or_ix hr.u1) (px_ix s_ix (or_ix hr.u1) (px_v 9) px_int) px_int))) pa_n) (len_c (fun _ _ _ _ h => len_n h))))
  (ss_cons (ps_setS 4 SC.nd (px_callT s_tuple (call_tuple_of) rfl (S.s.free 48 rfl) boot_tuple (pa_c (px_lc false rfl SC.nd (own := [("at", 12), ("one", 8)]) (blkOk_by (by kernel_rfl)) (pi_en rfl (S.s.free 75 rfl) (px_ix s_ix (or_ix hr.u1) (px_v 0) px_int)) (fun s H C cl fp => (pg_tu rfl (pgs_c (pg_n 12 SC.nd) (pgs_c (pg_n 8 SC.nd) pgs_n)))) (fun s H C cl fp => (pts_o (pt_e (px_fn (ok_law_is_on_text S) (by decide) rfl hr takes0 rfl rfl (pa_c (px_ix s_ix (or_ix hr.u1) (px_v 8) px_int) pa_n) (len_c (fun _ _ _ _ h => len_n h)))))) (fun s H C cl fp => (px_v 12))) pa_n)))
  (ss_cons (ps_setS 5 SC.nd (px_lst false (pa_c (px_fn (ok_marks_of_act S) (by decide) rfl hr tk rfl rfl (pa_c (px_v 0) pa_n) (len_c (fun _ _ _ _ h => len_n h))) (pa_c (px_fn (ok_events_in S) (by decide) rfl hr tk rfl rfl (pa_c (px_v 0) pa_n) (len_c (fun _ _ _ _ h => len_n h))) (pa_c (px_fn (ok_days_in S) (by decide) rfl hr tk rfl rfl (pa_c (px_v 0) pa_n) (len_c (fun _ _ _ _ h => len_n h))) (pa_c (px_fn (ok_acts_changed S) (by decide) rfl hr tk rfl rfl (pa_c (px_v 0) pa_n) (len_c (fun _ _ _ _ h => len_n h))) (pa_c (px_fn (ok_on_texts S) (by decide) rfl hr tk rfl rfl (pa_c (px_v 0) pa_n) (len_c (fun _ _ _ _ h => len_n h))) pa_n)))))))
  (ss_one (ps_retS (px_fn (ok_law_like S) (by decide) rfl hr tk rfl rfl (pa_c (px_v 5) (pa_c (px_lst false (pa_c (px_callT s_tuple (call_tuple_of) rfl (S.s.free 48 rfl) boot_tuple (pa_c (px_lc false rfl SC.nd (own := [("at", 12)]) (blkOk_by (by kernel_rfl)) (pi_r1 rfl (S.s.free 73 rfl) (pa_c (px_callB s_len or_len rfl (S.s.free 49 rfl) boot_len (pa_c (px_ix s_ix (or_ix hr.u1) (px_v 0) px_int) pa_n)) pa_n)) (fun s H C cl fp => (pg_n 12 SC.nd)) (fun s H C cl fp => pts_n) (fun s H C cl fp => (px_tup (pa_c (px_v 7) (pa_c (px_v 12) pa_n))))) pa_n)) (pa_c (px_v 2) (pa_c (px_v 1) (pa_c (px_v 3) (pa_c (px_v 4) pa_n)))))) pa_n)) (len_c (len_c (fun _ _ _ _ h => len_n h))))))))))))
theorem ok_law_later (S : CtxK Y P w mg base) : Okf Y P w mg base false 1 "_law_later" 2 (f_law_later) := by
  obtain ⟨fd, D0⟩ := S.s.dfn 39 rfl
  have D : FunD Y.K "_law_later" "_law_later" (defArgs (top 66)) (defBody (top 66)) (defScope (top 66)) [] [] (He.fAd Y.K ("_law_later", none)) fd := D0
  clear D0
  have SC : FnScope ["time", "by"] ["time", "by"] (defScope (top 66)) := ⟨rfl, rfl, rfl, by decide +kernel, rfl, by decide +kernel, by decide +kernel⟩
  refine okf_of D rfl (S.s.glo 39 rfl) SC rfl rfl (fun _ _ _ _ _ _ us hl => match us, hl with | [_, _], _ => rfl) fun cdv hcdv A outer s H E hr => ?_
  have tk : Takes (cxOf (L2.CX P w) P w Y.K mg base ["time", "by"] "_law_later" (defScope (top 66)) (He.fAd Y.K ("_law_later", none)) cdv A outer s H E) (fun c d _ H' => E c d H') := takes_of (E₁ := fun e' s'' => L2.CX P w outer H s E e' s'') rfl rfl rfl rfl
  exact (ss_one (ps_retS (px_if (PW.pt (pw_or2 (pt_cmp2 s_is or_is (px_v 0) px_non) (pw_or1 (pt_e (px_isi (px_v 0) (by decide) rfl (S.s.free 45 rfl) rfl (S.s.free 51 rfl)))))) (px_v 0) (px_op (s_add false) or_add (px_v 0) (px_v 1)))))
theorem ok_law_moved (S : CtxK Y P w mg base) : Okf Y P w mg base false 2 "_law_moved" 2 (f_law_moved) := by
  obtain ⟨fd, D0⟩ := S.s.dfn 40 rfl
  have D : FunD Y.K "_law_moved" "_law_moved" (defArgs (top 67)) (defBody (top 67)) (defScope (top 67)) [] [] (He.fAd Y.K ("_law_moved", none)) fd := D0
  clear D0
  have SC : FnScope ["act", "by", "found", "order", "start", "end"] ["act", "by"] (defScope (top 67)) := ⟨rfl, rfl, rfl, by decide +kernel, rfl, by decide +kernel, by decide +kernel⟩
  refine okf_of D rfl (S.s.glo 40 rfl) SC rfl rfl (fun _ _ _ _ _ _ us hl => match us, hl with | [_, _], _ => rfl) fun cdv hcdv A outer s H E hr => ?_
  have tk : Takes (cxOf (L2.CX P w) P w Y.K mg base ["act", "by", "found", "order", "start", "end"] "_law_moved" (defScope (top 67)) (He.fAd Y.K ("_law_moved", none)) cdv A outer s H E) (fun c d _ H' => E c d H') := takes_of (E₁ := fun e' s'' => L2.CX P w outer H s E e' s'') rfl rfl rfl rfl
  have pown : PassesOwn (model (cxOf (L2.CX P w) P w Y.K mg base ["act", "by", "found", "order", "start", "end"] "_law_moved" (defScope (top 67)) (He.fAd Y.K ("_law_moved", none)) cdv A outer s H E).prog (cxOf (L2.CX P w) P w Y.K mg base ["act", "by", "found", "order", "start", "end"] "_law_moved" (defScope (top 67)) (He.fAd Y.K ("_law_moved", none)) cdv A outer s H E).w) (cxOf (L2.CX P w) P w Y.K mg base ["act", "by", "found", "order", "start", "end"] "_law_moved" (defScope (top 67)) (He.fAd Y.K ("_law_moved", none)) cdv A outer s H E).A (cxOf (L2.CX P w) P w Y.K mg base ["act", "by", "found", "order", "start", "end"] "_law_moved" (defScope (top 67)) (He.fAd Y.K ("_law_moved", none)) cdv A outer s H E).env (cxOf (L2.CX P w) P w Y.K mg base ["act", "by", "found", "order", "start", "end"] "_law_moved" (defScope (top 67)) (He.fAd Y.K ("_law_moved", none)) cdv A outer s H E).xe := passes_of (X := cxOf (L2.CX P w) P w Y.K mg base ["act", "by", "found", "order", "start", "end"] "_law_moved" (defScope (top 67)) (He.fAd Y.K ("_law_moved", none)) cdv A outer s H E) (K := fun e' s'' => L2.CX P w outer H s E e' s'') (E₁ := fun e' s'' => L2.CX P w outer H s E e' s'') rfl
  exact (ss_cons (ps_setS 2 SC.nd (px_lst true pa_n))
  (ss_cons (ps_forS pown rfl (pi_w (px_ix s_ix (or_ix hr.u1) (px_v 0) px_int)) (pg_tu rfl (pgs_c (pg_n 3 SC.nd) (pgs_c (pg_n 4 SC.nd) (pgs_c (pg_n 5 SC.nd) pgs_n)))) (ss_cons (ps_ifS (pt_cmp2 s_in (or_in hr.u65) (px_ix s_ix (or_ix hr.u1) (px_v 3) px_int) (px_tup (pa_c px_str (pa_c px_str pa_n)))) (ss_one (ps_setS 3 SC.nd (px_op (s_add false) or_add (px_sl false (px_v 3) po_n (po_s px_int)) (px_tup (pa_c (px_fn (ok_law_later S) (by decide) rfl hr tk rfl rfl (pa_c (px_ix s_ix (or_ix hr.u1) (px_v 3) px_int) (pa_c (px_v 1) pa_n)) (len_c (len_c (fun _ _ _ _ h => len_n h)))) pa_n))))) ss_nil)
  (ss_one (ps_exprS (px_m s_append (.inl rfl) F.plainAttrs_list F.slot_list_append F.type_list_append mt_append (px_v 2) (pa_c (px_tup (pa_c (px_v 3) (pa_c (px_fn (ok_law_later S) (by decide) rfl hr tk rfl rfl (pa_c (px_v 4) (pa_c (px_v 1) pa_n)) (len_c (len_c (fun _ _ _ _ h => len_n h)))) (pa_c (px_fn (ok_law_later S) (by decide) rfl hr tk rfl rfl (pa_c (px_v 5) (pa_c (px_v 1) pa_n)) (len_c (len_c (fun _ _ _ _ h => len_n h)))) pa_n)))) pa_n))))))
  (ss_one (ps_retS (px_tup (pa_c (px_ix s_ix (or_ix hr.u1) (px_v 0) px_int) (pa_c (px_callT s_tuple (call_tuple_of) rfl (S.s.free 48 rfl) boot_tuple (pa_c (px_v 2) pa_n)) pa_n)))))))
theorem ok_law_is_later_right (S : CtxK Y P w mg base) : Okf Y P w mg base true 15 "_law_is_later_right" 2 (f_law_is_later_right) := by
  obtain ⟨fd, D0⟩ := S.s.dfn 42 rfl
  have D : FunD Y.K "_law_is_later_right" "_law_is_later_right" (defArgs (top 69)) (defBody (top 69)) (defScope (top 69)) [] [] (He.fAd Y.K ("_law_is_later_right", none)) fd := D0
  clear D0
  have SC : FnScope ["hand", "act", "last", "room", "by", "odd", "one"] ["hand", "act"] (defScope (top 69)) := ⟨rfl, rfl, rfl, by decide +kernel, rfl, by decide +kernel, by decide +kernel⟩
  refine okf_of D rfl (S.s.glo 42 rfl) SC rfl rfl (fun _ _ _ _ _ _ us hl => match us, hl with | [_, _], _ => rfl) fun cdv hcdv A outer s H E hr => ?_
  subst hcdv
  have tk : Takes (cxOf (L2.CX P w) P w Y.K mg base ["hand", "act", "last", "room", "by", "odd", "one"] "_law_is_later_right" (defScope (top 69)) (He.fAd Y.K ("_law_is_later_right", none)) (.ref (He.codeOf Y.K ("_law_is_later_right", none))) A outer s H E) (fun c d _ H' => E c d H') := takes_of (E₁ := fun e' s'' => L2.CX P w outer H s E e' s'') rfl rfl rfl rfl
  have pown : PassesOwn (model (cxOf (L2.CX P w) P w Y.K mg base ["hand", "act", "last", "room", "by", "odd", "one"] "_law_is_later_right" (defScope (top 69)) (He.fAd Y.K ("_law_is_later_right", none)) (.ref (He.codeOf Y.K ("_law_is_later_right", none))) A outer s H E).prog (cxOf (L2.CX P w) P w Y.K mg base ["hand", "act", "last", "room", "by", "odd", "one"] "_law_is_later_right" (defScope (top 69)) (He.fAd Y.K ("_law_is_later_right", none)) (.ref (He.codeOf Y.K ("_law_is_later_right", none))) A outer s H E).w) (cxOf (L2.CX P w) P w Y.K mg base ["hand", "act", "last", "room", "by", "odd", "one"] "_law_is_later_right" (defScope (top 69)) (He.fAd Y.K ("_law_is_later_right", none)) (.ref (He.codeOf Y.K ("_law_is_later_right", none))) A outer s H E).A (cxOf (L2.CX P w) P w Y.K mg base ["hand", "act", "last", "room", "by", "odd", "one"] "_law_is_later_right" (defScope (top 69)) (He.fAd Y.K ("_law_is_later_right", none)) (.ref (He.codeOf Y.K ("_law_is_later_right", none))) A outer s H E).env (cxOf (L2.CX P w) P w Y.K mg base ["hand", "act", "last", "room", "by", "odd", "one"] "_law_is_later_right" (defScope (top 69)) (He.fAd Y.K ("_law_is_later_right", none)) (.ref (He.codeOf Y.K ("_law_is_later_right", none))) A outer s H E).xe := passes_of (X := cxOf (L2.CX P w) P w Y.K mg base ["hand", "act", "last", "room", "by", "odd", "one"] "_law_is_later_right" (defScope (top 69)) (He.fAd Y.K ("_law_is_later_right", none)) (.ref (He.codeOf Y.K ("_law_is_later_right", none))) A outer s H E) (K := fun e' s'' => L2.CX P w outer H s E e' s'') (E₁ := fun e' s'' => L2.CX P w outer H s E e' s'') rfl
  exact (ss_cons (ps_setS 2 SC.nd (px_callB s_max (or_max rfl) rfl (S.s.free 80 rfl) boot_max (pa_c (px_op (s_add false) or_add (px_lst false (pa_c px_int pa_n)) (px_lc false rfl SC.nd (own := [("one", 6)]) (blkOk_by (by kernel_rfl)) (pi_w (px_fn (ok_law_times S) (by decide) rfl hr tk rfl rfl (pa_c (px_v 1) pa_n) (len_c (fun _ _ _ _ h => len_n h)))) (fun s H C cl fp => (pg_n 6 SC.nd)) (fun s H C cl fp => (pts_o (pt_not2 (pt_e (px_isi (px_v 6) (by decide) rfl (S.s.free 45 rfl) rfl (S.s.free 51 rfl)))))) (fun s H C cl fp => (px_v 6)))) pa_n)))
  (ss_cons (ps_setS 3 SC.nd (px_op s_sub op_sub (px_op s_pow op_pow px_int px_int) (px_v 2)))
  (ss_cons (ps_forS pown rfl (pi_w (px_lst false (pa_c px_int (pa_c (px_v 3) (pa_c (px_op (s_add false) or_add (px_v 3) px_int) (pa_c px_int (pa_c (px_fn (ok_law_draw S) (by decide) rfl hr tk rfl rfl (pa_c (px_v 0) (pa_c (px_op (s_add false) or_add (px_v 3) px_int) pa_n)) (len_c (len_c (fun _ _ _ _ h => len_n h)))) (pa_c (px_fn (ok_law_some S) (by decide) rfl hr tk rfl rfl (pa_c (px_v 0) (pa_c (px_lst false (pa_c px_int (pa_c px_int (pa_c px_int (pa_c (px_op s_pow op_pow px_int px_int) pa_n))))) pa_n)) (len_c (len_c (fun _ _ _ _ h => len_n h)))) pa_n)))))))) (pg_n 4 SC.nd) (ss_one (ps_ifS (PW.pt (pw_or2 (pt_cmp2 s_cmpI op_gt (px_op (s_add false) or_add (px_v 2) (px_v 4)) (px_op s_pow op_pow px_int px_int)) (pw_or1 (pt_cmp2 s_cmpI op_gt (px_v 4) (px_op s_pow op_pow px_int px_int))))) (ss_one (ps_ifS (pt_cmp2 s_ne (or_ne hr.r.units) (px_word S.wrd S.m_law_is_later_right S.subOk (k := 12) hr.r rfl (LamX.lamS_by (by kernel_rfl)) rfl (fun A outer s H E f' c' hr0 => have hr : RG false _ (A.deeper _) := ⟨hr0, fun z => (by cases z)⟩; have tk := takes_of (E := E) (E₁ := fun e' s'' => L2.CX P w outer H s E e' s'') rfl rfl rfl rfl; (px_fn (ok_later_by S) (by decide) rfl hr tk rfl rfl (pa_c (px_v 1) (pa_c (px_v 4) pa_n)) (len_c (len_c (fun _ _ _ _ h => len_n h)))))) px_str) (ss_one (ps_retS px_bl)) ss_nil)) (ss_one (ps_ifS (PW.pt (pw_or2 (pt_not2 (pt_e (px_fn (ok_law_like S) (by decide) rfl hr tk rfl rfl (pa_c (px_fn (ok_later_by S) (by decide) rfl hr tk rfl rfl (pa_c (px_v 1) (pa_c (px_v 4) pa_n)) (len_c (len_c (fun _ _ _ _ h => len_n h)))) (pa_c (px_fn (ok_law_moved S) (by decide) rfl hr tk rfl rfl (pa_c (px_v 1) (pa_c (px_v 4) pa_n)) (len_c (len_c (fun _ _ _ _ h => len_n h)))) pa_n)) (len_c (len_c (fun _ _ _ _ h => len_n h)))))) (pw_or1 (pt_cmp2 s_isNot or_isNot (px_fn (ok_is_act S) (by decide) rfl hr tk rfl rfl (pa_c (px_fn (ok_later_by S) (by decide) rfl hr tk rfl rfl (pa_c (px_v 1) (pa_c (px_v 4) pa_n)) (len_c (len_c (fun _ _ _ _ h => len_n h)))) pa_n) (len_c (fun _ _ _ _ h => len_n h))) px_bl)))) (ss_one (ps_retS px_bl)) ss_nil)))))
  (ss_cons (ps_setS 5 SC.nd (px_fn (ok_law_some S) (by decide) rfl hr tk rfl rfl (pa_c (px_v 0) (pa_c (px_lst false (pa_c (px_neg px_int) (pa_c (px_op (s_add false) or_add (px_op s_pow op_pow px_int px_int) px_int) (pa_c px_bl (pa_c px_non (pa_c px_str (pa_c (px_tup (pa_c px_int pa_n)) pa_n))))))) pa_n)) (len_c (len_c (fun _ _ _ _ h => len_n h)))))
  (ss_one (ps_retS (px_cmp s_eq (or_eq hr.r.units) (px_word S.wrd S.m_law_is_later_right S.subOk (k := 12) hr.r rfl (LamX.lamS_by (by kernel_rfl)) rfl (fun A outer s H E f' c' hr0 => have hr : RG false _ (A.deeper _) := ⟨hr0, fun z => (by cases z)⟩; have tk := takes_of (E := E) (E₁ := fun e' s'' => L2.CX P w outer H s E e' s'') rfl rfl rfl rfl; (px_fn (ok_later_by S) (by decide) rfl hr tk rfl rfl (pa_c (px_v 1) (pa_c (px_v 5) pa_n)) (len_c (len_c (fun _ _ _ _ h => len_n h)))))) px_str)))))))
end
end K08
end
section
set_option linter.all false
set_option maxRecDepth 100000
set_option maxHeartbeats 4000000
/-! K08q07: the defs do so (printed by gen.py). -/
namespace K08
open PySem PySem.Spec PyProof.Rows L2 Pu
section
variable {Y : Wd} {P : Program} {w : World} {mg : Str → Option Value} {base : Heap}
theorem ok_law_are_refused (S : CtxK Y P w mg base) : Okf Y P w mg base false 15 "_law_are_refused" 2 (f_law_are_refused) := by
  obtain ⟨fd, D0⟩ := S.s.dfn 43 rfl
  have D : FunD Y.K "_law_are_refused" "_law_are_refused" (defArgs (top 70)) (defBody (top 70)) (defScope (top 70)) [] [] (He.fAd Y.K ("_law_are_refused", none)) fd := D0
  clear D0
  have SC : FnScope ["hand", "act", "odd", "bad", "words", "number", "provisions"] ["hand", "act"] (defScope (top 70)) := ⟨rfl, rfl, rfl, by decide +kernel, rfl, by decide +kernel, by decide +kernel⟩
  refine okf_of D rfl (S.s.glo 43 rfl) SC rfl rfl (fun _ _ _ _ _ _ us hl => match us, hl with | [_, _], _ => rfl) fun cdv hcdv A outer s H E hr => ?_
  subst hcdv
  have tk : Takes (cxOf (L2.CX P w) P w Y.K mg base ["hand", "act", "odd", "bad", "words", "number", "provisions"] "_law_are_refused" (defScope (top 70)) (He.fAd Y.K ("_law_are_refused", none)) (.ref (He.codeOf Y.K ("_law_are_refused", none))) A outer s H E) (fun c d _ H' => E c d H') := takes_of (E₁ := fun e' s'' => L2.CX P w outer H s E e' s'') rfl rfl rfl rfl
  exact (ss_cons (ps_asgS (px_v 1) (pg_tu rfl (pgs_c (pg_n 5 SC.nd) (pgs_c (pg_n 6 SC.nd) pgs_n))))
  (ss_cons (ps_setS 2 SC.nd (px_lst false (pa_c px_non (pa_c (px_callT (s_list false) (call_list_of) rfl (S.s.free 81 rfl) boot_list (pa_c (px_v 1) pa_n)) (pa_c (px_tup (pa_c (px_v 5) pa_n)) (pa_c (px_tup (pa_c (px_v 5) (pa_c (px_tup pa_n) pa_n))) (pa_c (px_tup (pa_c (px_v 5) (pa_c (px_callT (s_list false) (call_list_of) rfl (S.s.free 81 rfl) boot_list (pa_c (px_v 6) pa_n)) pa_n))) (pa_c (px_tup (pa_c px_int (pa_c (px_v 6) pa_n))) (pa_c (px_tup (pa_c px_int (pa_c (px_v 6) pa_n))) pa_n)))))))))
  (ss_cons (ps_setS 2 SC.nd (px_op (s_add false) or_add (px_v 2) (px_lst false (pa_c (px_tup (pa_c (px_v 5) (pa_c (px_op (s_mul false) or_mul (px_sl false (px_v 6) po_n (po_s px_int)) px_int) pa_n))) (pa_c (px_tup (pa_c (px_v 5) (pa_c (px_op (s_add false) or_add (px_v 6) (px_tup (pa_c px_non pa_n))) pa_n))) (pa_c (px_tup (pa_c px_int (pa_c (px_tup (pa_c (px_tup (pa_c (px_tup (pa_c px_str (pa_c (px_tup (pa_c px_int (pa_c px_int pa_n))) pa_n))) (pa_c px_int (pa_c px_non pa_n)))) pa_n)) pa_n))) pa_n))))))
  (ss_cons (ps_setS 3 SC.nd (px_fn (ok_law_some S) (by decide) rfl hr tk rfl rfl (pa_c (px_v 0) (pa_c (px_v 2) pa_n)) (len_c (len_c (fun _ _ _ _ h => len_n h)))))
  (ss_cons (ps_setS 4 SC.nd (px_lst true (pa_c (px_word S.wrd S.m_law_are_refused S.subOk (k := 12) hr.r rfl (LamX.lamS_by (by kernel_rfl)) rfl (fun A outer s H E f' c' hr0 => have hr : RG false _ (A.deeper _) := ⟨hr0, fun z => (by cases z)⟩; have tk := takes_of (E := E) (E₁ := fun e' s'' => L2.CX P w outer H s E e' s'') rfl rfl rfl rfl; (px_fn (ok_marks_of_act S) (by decide) rfl hr tk rfl rfl (pa_c (px_v 3) pa_n) (len_c (fun _ _ _ _ h => len_n h))))) pa_n)))
  (ss_cons (ps_exprS (px_m s_append (.inl rfl) F.plainAttrs_list F.slot_list_append F.type_list_append mt_append (px_v 4) (pa_c (px_word S.wrd S.m_law_are_refused S.subOk (k := 12) hr.r rfl (LamX.lamS_by (by kernel_rfl)) rfl (fun A outer s H E f' c' hr0 => have hr : RG false _ (A.deeper _) := ⟨hr0, fun z => (by cases z)⟩; have tk := takes_of (E := E) (E₁ := fun e' s'' => L2.CX P w outer H s E e' s'') rfl rfl rfl rfl; (px_fn (ok_events_in S) (by decide) rfl hr tk rfl rfl (pa_c (px_v 3) pa_n) (len_c (fun _ _ _ _ h => len_n h))))) pa_n)))
  (ss_cons (ps_exprS (px_m s_append (.inl rfl) F.plainAttrs_list F.slot_list_append F.type_list_append mt_append (px_v 4) (pa_c (px_word S.wrd S.m_law_are_refused S.subOk (k := 12) hr.r rfl (LamX.lamS_by (by kernel_rfl)) rfl (fun A outer s H E f' c' hr0 => have hr : RG false _ (A.deeper _) := ⟨hr0, fun z => (by cases z)⟩; have tk := takes_of (E := E) (E₁ := fun e' s'' => L2.CX P w outer H s E e' s'') rfl rfl rfl rfl; (px_fn (ok_days_in S) (by decide) rfl hr tk rfl rfl (pa_c (px_v 3) pa_n) (len_c (fun _ _ _ _ h => len_n h))))) pa_n)))
  (ss_cons (ps_exprS (px_m s_append (.inl rfl) F.plainAttrs_list F.slot_list_append F.type_list_append mt_append (px_v 4) (pa_c (px_word S.wrd S.m_law_are_refused S.subOk (k := 12) hr.r rfl (LamX.lamS_by (by kernel_rfl)) rfl (fun A outer s H E f' c' hr0 => have hr : RG false _ (A.deeper _) := ⟨hr0, fun z => (by cases z)⟩; have tk := takes_of (E := E) (E₁ := fun e' s'' => L2.CX P w outer H s E e' s'') rfl rfl rfl rfl; (px_fn (ok_acts_changed S) (by decide) rfl hr tk rfl rfl (pa_c (px_v 3) pa_n) (len_c (fun _ _ _ _ h => len_n h))))) pa_n)))
  (ss_cons (ps_exprS (px_m s_append (.inl rfl) F.plainAttrs_list F.slot_list_append F.type_list_append mt_append (px_v 4) (pa_c (px_word S.wrd S.m_law_are_refused S.subOk (k := 12) hr.r rfl (LamX.lamS_by (by kernel_rfl)) rfl (fun A outer s H E f' c' hr0 => have hr : RG false _ (A.deeper _) := ⟨hr0, fun z => (by cases z)⟩; have tk := takes_of (E := E) (E₁ := fun e' s'' => L2.CX P w outer H s E e' s'') rfl rfl rfl rfl; (px_fn (ok_on_texts S) (by decide) rfl hr tk rfl rfl (pa_c (px_v 3) pa_n) (len_c (fun _ _ _ _ h => len_n h))))) pa_n)))
  (ss_cons (ps_exprS (px_m s_append (.inl rfl) F.plainAttrs_list F.slot_list_append F.type_list_append mt_append (px_v 4) (pa_c (px_word S.wrd S.m_law_are_refused S.subOk (k := 12) hr.r rfl (LamX.lamS_by (by kernel_rfl)) rfl (fun A outer s H E f' c' hr0 => have hr : RG false _ (A.deeper _) := ⟨hr0, fun z => (by cases z)⟩; have tk := takes_of (E := E) (E₁ := fun e' s'' => L2.CX P w outer H s E e' s'') rfl rfl rfl rfl; (px_fn (ok_later_by S) (by decide) rfl hr tk rfl rfl (pa_c (px_v 3) (pa_c px_int pa_n)) (len_c (len_c (fun _ _ _ _ h => len_n h)))))) pa_n)))
  (ss_one (ps_retS (px_and (px_cmp s_eq (or_eq hr.r.units) (px_v 4) (px_op (s_mul false) or_mul (px_lst false (pa_c px_str pa_n)) px_int)) (px_one (px_cmp s_is or_is (px_fn (ok_is_act S) (by decide) rfl hr tk rfl rfl (pa_c (px_v 3) pa_n) (len_c (fun _ _ _ _ h => len_n h))) px_bl)))))))))))))))
theorem g_law {ns : List Int} (S : CtxK Y P w mg base) (hns : Y.ns = ns) {fd : FuncData} (D : FunD Y.K "law" "law" (defArgs (top 71)) (defBody (top 71)) (defScope (top 71)) [] [] (He.fAd Y.K ("law", none)) fd) : FnG P w Y.K mg base true 16 (He.fAd Y.K ("law", none)) fd ["script"] (spF Y 1 (f_law ns)) := by
  have SC : FnScope ["script", "hand", "turn", "number", "act", "at"] ["script"] (defScope (top 71)) := ⟨rfl, rfl, rfl, by decide +kernel, rfl, by decide +kernel, by decide +kernel⟩
  refine fng_of D rfl SC rfl rfl fun cdv hcdv A outer s H E hr => ?_
  have tk : Takes (cxOf (L2.CX P w) P w Y.K mg base ["script", "hand", "turn", "number", "act", "at"] "law" (defScope (top 71)) (He.fAd Y.K ("law", none)) cdv A outer s H E) (fun c d _ H' => E c d H') := takes_of (E₁ := fun e' s'' => L2.CX P w outer H s E e' s'') rfl rfl rfl rfl
  have pown : PassesOwn (model (cxOf (L2.CX P w) P w Y.K mg base ["script", "hand", "turn", "number", "act", "at"] "law" (defScope (top 71)) (He.fAd Y.K ("law", none)) cdv A outer s H E).prog (cxOf (L2.CX P w) P w Y.K mg base ["script", "hand", "turn", "number", "act", "at"] "law" (defScope (top 71)) (He.fAd Y.K ("law", none)) cdv A outer s H E).w) (cxOf (L2.CX P w) P w Y.K mg base ["script", "hand", "turn", "number", "act", "at"] "law" (defScope (top 71)) (He.fAd Y.K ("law", none)) cdv A outer s H E).A (cxOf (L2.CX P w) P w Y.K mg base ["script", "hand", "turn", "number", "act", "at"] "law" (defScope (top 71)) (He.fAd Y.K ("law", none)) cdv A outer s H E).env (cxOf (L2.CX P w) P w Y.K mg base ["script", "hand", "turn", "number", "act", "at"] "law" (defScope (top 71)) (He.fAd Y.K ("law", none)) cdv A outer s H E).xe := passes_of (X := cxOf (L2.CX P w) P w Y.K mg base ["script", "hand", "turn", "number", "act", "at"] "law" (defScope (top 71)) (He.fAd Y.K ("law", none)) cdv A outer s H E) (K := fun e' s'' => L2.CX P w outer H s E e' s'') (E₁ := fun e' s'' => L2.CX P w outer H s E e' s'') rfl
  exact (ss_cons (ps_setS 1 SC.nd (px_fn (ok_law_hand S hns) (by decide) rfl hr tk rfl rfl (pa_c (px_v 0) pa_n) (len_c (fun _ _ _ _ h => len_n h))))
  (ss_cons (ps_forS pown rfl (pi_r1 rfl (S.s.free 73 rfl) (pa_c px_int pa_n)) (pg_n 2 SC.nd) (ss_cons (ps_setS 3 SC.nd (px_fn (ok_law_some S) (by decide) rfl hr tk rfl rfl (pa_c (px_v 1) (pa_c (px_lst false (pa_c px_int (pa_c px_int (pa_c px_int (pa_c px_int (pa_c px_int (pa_c px_int pa_n))))))) pa_n)) (len_c (len_c (fun _ _ _ _ h => len_n h)))))
  (ss_cons (ps_setS 4 SC.nd (px_tup (pa_c (px_v 3) (pa_c (px_callT s_tuple (call_tuple_of) rfl (S.s.free 48 rfl) boot_tuple (pa_c (px_lc false rfl SC.nd (own := [("at", 5)]) (blkOk_by (by kernel_rfl)) (pi_r1 rfl (S.s.free 73 rfl) (pa_c (px_fn (ok_law_some S) (by decide) rfl hr tk rfl rfl (pa_c (px_v 1) (pa_c (px_lst false (pa_c px_int (pa_c px_int (pa_c px_int (pa_c px_int (pa_c px_int (pa_c px_int pa_n))))))) pa_n)) (len_c (len_c (fun _ _ _ _ h => len_n h)))) pa_n)) (fun s H C cl fp => (pg_n 5 SC.nd)) (fun s H C cl fp => pts_n) (fun s H C cl fp => (px_fn (ok_law_provided S) (by decide) rfl hr takes0 rfl rfl (pa_c (px_v 1) (pa_c (px_v 3) pa_n)) (len_c (len_c (fun _ _ _ _ h => len_n h)))))) pa_n)) pa_n))))
  (ss_cons (ps_ifS (PW.pt (pw_or2 (pt_cmp2 s_isNot or_isNot (px_fn (ok_is_act S) (by decide) rfl hr tk rfl rfl (pa_c (px_v 4) pa_n) (len_c (fun _ _ _ _ h => len_n h))) px_bl) (pw_or1 (pt_not2 (pt_e (px_fn (ok_law_is_told_right S) (by decide) rfl hr tk rfl rfl (pa_c (px_v 4) pa_n) (len_c (fun _ _ _ _ h => len_n h)))))))) (ss_one (ps_retS px_bl)) ss_nil)
  (ss_one (ps_ifS (PW.pt (pw_or2 (pt_not2 (pt_e (px_fn (ok_law_is_later_right S) (by decide) rfl hr tk rfl rfl (pa_c (px_v 1) (pa_c (px_v 4) pa_n)) (len_c (len_c (fun _ _ _ _ h => len_n h)))))) (pw_or1 (pt_not2 (pt_e (px_fn (ok_law_are_refused S) (by decide) rfl hr tk rfl rfl (pa_c (px_v 1) (pa_c (px_v 4) pa_n)) (len_c (len_c (fun _ _ _ _ h => len_n h))))))))) (ss_one (ps_retS px_bl)) ss_nil))))))
  (ss_one (ps_retS px_bl))))
end
end K08
end
section
set_option linter.all false
set_option maxRecDepth 1000000
set_option maxHeartbeats 0
/-! K08e: the law, by its plain function (printed by gen.py). -/
namespace K08
open PySem PySem.Spec PyProof.Rows L2 Pu
theorem wrd_of {Y : Wd} {mg : Str → Option Value} (S : Said fa fn Y mg) : Wrd Y mg "_law_word" [("NoAct", "act"), ("LawError", "other")] "let" := by
  obtain ⟨fd, D0⟩ := S.dfn 41 rfl
  have D : FunD Y.K "_law_word" "_law_word" (defArgs (top 68)) (defBody (top 68)) (defScope (top 68)) [] [] (He.fAd Y.K ("_law_word", none)) fd := D0
  obtain ⟨oc, od, dV, kV, doc, pm, an, cdv, ct, osl, hfd, lk, hcd, hD, _⟩ := D.ex
  have hdV : dV = .none := by
    rcases hD with ⟨_, e⟩ | ⟨e, _⟩
    · exact e
    · exact absurd rfl e
  subst hdV hfd
  exact ⟨_, _, _, _, _, _, _, _, _, _, _, _, _, ["call"], "call", _, _, _, _, _, _, _, _, _, S.glo 41 rfl, D.kp, lk, hcd, .all (fun us hl => match us, hl with | [_], _ => rfl), ⟨rfl, rfl, rfl, by decide +kernel, rfl, by decide +kernel, by decide +kernel⟩, rfl, .inl rfl, by decide, by decide, (.c (.c .n)), fun f => rfl,
    fun q hq => by
      simp only [List.mem_cons, List.not_mem_nil, or_false] at hq
      rcases hq with rfl | rfl
      · exact ⟨rfl, by decide, S.glo 71 rfl⟩
      · exact ⟨rfl, by decide, S.glo 83 rfl⟩⟩
def okS (ns : List Int) : Prop := ns.length ≤ 63 ∧ ∀ z ∈ ns, Builtin.Int.intBits z ≤ 1048576
theorem facts {w : World} {mg : Str → Option Value} {fa' : Addr} {h : Heap} (Yh : hk.says w h) (G : h.Ns mainGlobals mg) (hm : mg ("law" : Str) = some (.ref fa')) (math : ∀ ns, okS ns → ∃ M, f_law ns [.scr] [] = .ok (.d (.bool true)) M) : ∃ (K : PySem.W.Frag) (fd : FuncData) (cs : List (Addr × Addr)) (sp : Sp), K.In h ∧
      (∀ p ∈ cs, h.get? p.2 = some { cls := .none, data := .fields #[] }) ∧ (∀ p ∈ cs, K.lookup p.2 = none) ∧ (∀ p ∈ cs, PySem.W.CodeHd h p.1 p.2) ∧ (∀ (s : Shared) (u : Value), BindsTo s fd ⟨[u], []⟩ [("script", u)]) ∧
      (∀ (H : Hp) (a : Addr) (ns : List Int), ns.length ≤ 63 → (∀ z ∈ ns, Builtin.Int.intBits z ≤ 1048576) → (∀ p ∈ cs, H p.2 = some (.tbl #[])) → (∀ b o, H b = some o → b = a ∨ b ∈ cs.map (·.2)) → ScrAt K H a ns → sp [.ref a] H (fun v _ => v = .bl true) fun _ _ _ => False) ∧
      ∀ base : Heap, K.In base → base.Ns mainGlobals mg → (∀ p ∈ cs, LamX.TabB base mg p.1 p.2) → FnG (PySem.Challenge.rw_lawasknown_k08_whole_acts_of_twenty_prov).prog w K mg base true 16 fa' fd ["script"] sp := by
  obtain ⟨K, KX, c⟩ := Yh
  have SD : ∀ (T : List (Addr × Str)) (sa : Addr) (ns : List Int), Said fa fn ⟨K, T, sa, ns⟩ mg := fun T sa ns => ⟨⟨h, KX, G⟩, c.t.d⟩
  obtain ⟨fd, D0⟩ := (SD [] 0 []).dfn 44 rfl
  have D : FunD K "law" "law" (defArgs (top 71)) (defBody (top 71)) (defScope (top 71)) [] [] (He.fAd K ("law", none)) fd := D0
  have e1 := hm.symm.trans ((SD [] 0 []).glo 44 rfl)
  obtain rfl : fa' = He.fAd K ("law", none) := by
    cases e1
    rfl
  have b : ∀ (s : Shared) (u : Value), BindsTo s fd ⟨[u], []⟩ [("script", u)] := by
    obtain ⟨oc, od, dV, kV, doc, pm, an, cdv, ct, osl, hfd, lk, hcd, hD, _⟩ := D.ex
    have hdV : dV = .none := by
      rcases hD with ⟨_, e⟩ | ⟨e, _⟩
      · exact e
      · exact absurd rfl e
    subst hdV hfd
    exact fun s u => BindsTo.of_eq rfl
  have more := c.more
  unfold ex at more
  simp only [Bool.and_eq_true] at more
  obtain ⟨x0, x1, x2⟩ := more
  let T : List (Addr × Str) := [((He.cT K ("_law_is_later_right", none)).2, (PySem.Str.ofString "_law_is_later_right" ++ ".<locals>.") ++ "<lambda>"), ((He.cT K ("_law_are_refused", none)).2, (PySem.Str.ofString "_law_are_refused" ++ ".<locals>.") ++ "<lambda>")]
  refine ⟨K, fd, tf.map (He.cT K), spLaw K T okS f_law, KX, fun p hp => ?_, fun p hp => ?_, fun p hp => ?_, b, fun H a ns h1 h2 h3 h4 h5 => spLaw_of (cs := tf.map (He.cT K)) (fun p hp => ?_) ⟨h1, h2⟩ h3 h5 (math ns ⟨h1, h2⟩), fun base KB GB TB => fng_law fun sa ns ho => ?_⟩
  · obtain ⟨q, hq, rfl⟩ := List.mem_map.mp hp
    exact c.empty q hq
  · obtain ⟨q, hq, rfl⟩ := List.mem_map.mp hp
    exact c.out q hq
  · obtain ⟨q, hq, rfl⟩ := List.mem_map.mp hp
    exact PySem.W.codeHd_of_K KX (c.hd q hq)
  · simp only [T, List.mem_cons, List.not_mem_nil, or_false] at hp
    rcases hp with rfl | rfl
    · exact List.mem_map.mpr ⟨_, List.mem_map.mpr ⟨_, (by simp [tf] : (("_law_is_later_right", none) : He.Defn) ∈ tf), rfl⟩, rfl⟩
    · exact List.mem_map.mpr ⟨_, List.mem_map.mpr ⟨_, (by simp [tf] : (("_law_are_refused", none) : He.Defn) ∈ tf), rfl⟩, rfl⟩
  · have S := SD T sa ns
    exact g_law (Y := ⟨K, T, sa, ns⟩) ⟨S, ktup_of (S.glo 60 rfl) x0 rfl, ktup_of (S.glo 67 rfl) x1 rfl,  wrd_of S, ⟨_, _, rfl, TB _ (List.mem_map.mpr ⟨_, (by simp [tf] : (("_law_is_later_right", none) : He.Defn) ∈ tf), rfl⟩), (by simp [T]), fun p hp e => by
      simp only [T, List.mem_cons, List.not_mem_nil, or_false] at hp
      rcases hp with rfl | rfl
      · rfl
      · exact absurd e.symm (by simpa using x2)⟩, ⟨_, _, rfl, TB _ (List.mem_map.mpr ⟨_, (by simp [tf] : (("_law_are_refused", none) : He.Defn) ∈ tf), rfl⟩), (by simp [T]), fun p hp e => by
      simp only [T, List.mem_cons, List.not_mem_nil, or_false] at hp
      rcases hp with rfl | rfl
      · exact absurd e (by simpa using x2)
      · rfl⟩, sub_ok S⟩ rfl D
theorem law_holds (math : ∀ ns, okS ns → ∃ M, f_law ns [.scr] [] = .ok (.d (.bool true)) M) : PySem.Challenge.rw_lawasknown_k08_whole_acts_of_twenty_prov.Holds := by
  w_on; o_law
  refine HandSHeadRun.head_any (r := PySem.W.OpenLaw.row PySem.Challenge.rw_lawasknown_k08_whole_acts_of_twenty_prov) (q := qv) (H := hk) (ob := ob) (M := 8000) (loose := names) (d := HandSHeadRun.topDef (PySem.W.OpenLaw.row PySem.Challenge.rw_lawasknown_k08_whole_acts_of_twenty_prov).prog 71) (kwd := []) ob_eq
    (by kernel_rfl) (fun s => by kernel_rfl) run (by kernel_rfl) (by kernel_rfl) (by kernel_rfl) (by rfl) (by first | assumption | decide +kernel) (by decide +kernel) ⟨rfl, rfl, rfl, rfl, rfl, by decide +kernel⟩ ?hw ?hc
  case hw => w_witness2
  case hc =>
    refine walk_lawG (l := PySem.Challenge.rw_lawasknown_k08_whole_acts_of_twenty_prov) (n := 63) (k := 16) (x := "script") rfl (by decide) (by kernel_rfl) ⟨⟨rfl, by decide, by decide⟩, fun _ => rfl⟩ ?F
    intro w mg fa' h Y G hmg0
    have hmg : mg ("law" : PySem.Str) = some (.ref fa') := by
      have e : (HandSHeadRun.topDef (PySem.W.OpenLaw.row PySem.Challenge.rw_lawasknown_k08_whole_acts_of_twenty_prov).prog 71).name = ("law" : PySem.Str) := by kernel_rfl
      rw [← e]
      exact hmg0
    exact facts Y G hmg math
end K08
end
theorem PySem.Challenge.cw_lawasknown_k08_whole_acts_of_twenty_prov_holds : PySem.Challenge.rw_lawasknown_k08_whole_acts_of_twenty_prov.Holds := by
  exact K08.law_holds fun ns h => K08.math ns h.1
