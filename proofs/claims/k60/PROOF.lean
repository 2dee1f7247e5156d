import PyProof.Rows.All
import Wide.All
import OpenK.AllK
import Wide.FinOn
import HandS.Base
import HandS.Call
import HandS.List
import HandS.Comp
import HandS.Ends
import HandS.Dict
import HandS.Iter
import HandS.Text
import HandS.Words
import HandS.WordsList
import HandS.WordsExc
import HandS.Exc
import HandS.Defaults
import HandS.Evl
import HandS.Walk
import HandS.Zip
import HandS.IsInst
import HandS.Wide
import HandS.Codes
import HandS.TupAny
import HandS.Lambda
import HandS.CallSlots
import HandS.HeadHook1
import HandS.HeadHook2
import HandS.HeadHook3
import HandS.HeadHook4
import HandS.Head0
import HandS.Head1
import HandS.Head2
import HandS.HeadEnd
import KE.SortKeyHeap
import HandS.SortKw
import KE.KMathGC
import HandS.Gcd
import HandS.FStr
import HandS.StrMore
import HandS.StrSplit
import HandS.More
import PyProof.StrOps2
import HandS.Rev
import HandS.MakeKwOnly
import HandS.ExcInit
import HandS.ExcOwn
import HandS.ExcField
import HandS.ExcIs
import HandS.EndTab
import HandS.Head3
import HandS.Head4
import KE.KExcIs
import PySem.Challenge.RW_howevermixed_k60_monomials_told
import PyProof.FitsBits
import PyProof.Rows.IntMath
import HandS.HeadWalk
import HandS.NestedK
set_option Elab.async false
set_option linter.all false
set_option maxRecDepth 100000
set_option maxHeartbeats 2000000
namespace DW
open PySem PySem.Spec PyProof.Rows L2 Evl
inductive D where
  | non | bl (b : Bool) | int (i : Int) | str (x : Str)
  | tup (ds : List D) | lst (ds : List D) | rol (ds : List D)
  | obj (C : Addr) (fs : List (Str × D))
  | dic (fs : List (Str × D))
  | opq (v : V)
abbrev D.cell (a : Addr) : D := .opq (.ref a)
mutual
inductive Rep (K : PySem.W.Frag) (H : Hp) : V → D → Prop
  | non : Rep K H .non .non
  | bl (b : Bool) : Rep K H (.bl b) (.bl b)
  | int (i : Int) : Rep K H (.int i) (.int i)
  | str (x : Str) : Rep K H (.str x) (.str x)
  | opq (v : V) : Rep K H v (.opq v)
  | tup {a : Addr} {vs : List V} {ds : List D} : SqT K H a vs → Reps K H vs ds → Rep K H (.ref a) (.tup ds)
  | lst {a : Addr} {vs : List V} {ds : List D} : H a = some (.lst vs) → Reps K H vs ds → Rep K H (.ref a) (.lst ds)
  | rol {a : Addr} {vs : List V} {ds : List D} : SqL K H a vs → Reps K H vs ds → Rep K H (.ref a) (.rol ds)
  | obj {a C dx : Addr} {vs : List (Str × V)} {fs : List (Str × D)} : H a = some (.ins C dx vs) → RepF K H vs fs → Rep K H (.ref a) (.obj C fs)
  | dic {a : Addr} {vs : List (Str × V)} {fs : List (Str × D)} : H a = some (.dK (vs.map fun q => (.inr q.1, q.2))) → RepF K H vs fs → Rep K H (.ref a) (.dic fs)
inductive Reps (K : PySem.W.Frag) (H : Hp) : List V → List D → Prop
  | nil : Reps K H [] []
  | cons {v : V} {vs : List V} {d : D} {ds : List D} : Rep K H v d → Reps K H vs ds → Reps K H (v :: vs) (d :: ds)
inductive RepF (K : PySem.W.Frag) (H : Hp) : List (Str × V) → List (Str × D) → Prop
  | nil : RepF K H [] []
  | cons {f : Str} {v : V} {vs : List (Str × V)} {d : D} {ds : List (Str × D)} : Rep K H v d → RepF K H vs ds → RepF K H ((f, v) :: vs) ((f, d) :: ds)
end
section
variable {K : PySem.W.Frag} {H H' : Hp}
mutual
theorem Rep.mono (e : Ex H H') : ∀ (d : D) (v : V), Rep K H v d → Rep K H' v d
  | .non, _, h => by cases h; exact .non
  | .bl b, _, h => by cases h; exact .bl _
  | .int i, _, h => by cases h; exact .int _
  | .str x, _, h => by cases h; exact .str _
  | .opq w, _, h => by cases h; exact .opq _
  | .tup ds, _, h => by
    cases h with
    | tup a b => exact .tup (ex_t e a) (Reps.mono e ds _ b)
  | .lst ds, _, h => by
    cases h with
    | lst a b => exact .lst (e _ _ a) (Reps.mono e ds _ b)
  | .rol ds, _, h => by
    cases h with
    | rol a b => exact .rol (ex_l e a) (Reps.mono e ds _ b)
  | .obj C fs, _, h => by
    cases h with
    | obj a b => exact .obj (e _ _ a) (RepF.mono e fs _ b)
  | .dic fs, _, h => by
    cases h with
    | dic a b => exact .dic (e _ _ a) (RepF.mono e fs _ b)
theorem Reps.mono (e : Ex H H') : ∀ (ds : List D) (vs : List V), Reps K H vs ds → Reps K H' vs ds
  | [], _, h => by cases h; exact .nil
  | d :: ds, _, h => by
    cases h with
    | cons a b => exact .cons (Rep.mono e d _ a) (Reps.mono e ds _ b)
theorem RepF.mono (e : Ex H H') : ∀ (ds : List (Str × D)) (vs : List (Str × V)), RepF K H vs ds → RepF K H' vs ds
  | [], _, h => by cases h; exact .nil
  | (f, d) :: ds, _, h => by
    cases h with
    | cons a b => exact .cons (Rep.mono e d _ a) (RepF.mono e ds _ b)
end
theorem Rep.ex {v : V} {d : D} (h : Rep K H v d) (e : Ex H H') : Rep K H' v d := Rep.mono e d v h
theorem Reps.ex {v : List V} {d : List D} (h : Reps K H v d) (e : Ex H H') : Reps K H' v d := Reps.mono e d v h
theorem RepF.ex {v : List (Str × V)} {d : List (Str × D)} (h : RepF K H v d) (e : Ex H H') : RepF K H' v d := RepF.mono e d v h
theorem Reps.length : ∀ {vs : List V} {ds : List D}, Reps K H vs ds → vs.length = ds.length
  | _, _, .nil => rfl
  | _, _, .cons _ t => by rw [List.length_cons, List.length_cons, Reps.length t]
theorem Reps.get : ∀ {vs : List V} {ds : List D} {i : Nat} {d : D}, Reps K H vs ds → ds[i]? = some d → ∃ v, vs[i]? = some v ∧ Rep K H v d
  | _, _, _, _, .nil, e => by simp at e
  | _, _, 0, _, .cons r _, e => by simp at e; subst e; exact ⟨_, rfl, r⟩
  | _, _, i + 1, d, .cons _ t, e => by
    obtain ⟨v, h1, h2⟩ := Reps.get (i := i) (d := d) t (by simpa using e)
    exact ⟨v, by simpa using h1, h2⟩
theorem Reps.getV : ∀ {vs : List V} {ds : List D} {i : Nat} {v : V}, Reps K H vs ds → vs[i]? = some v → ∃ d, ds[i]? = some d ∧ Rep K H v d
  | _, _, _, _, .nil, e => by simp at e
  | _, _, 0, _, .cons r _, e => by simp at e; subst e; exact ⟨_, rfl, r⟩
  | _, _, i + 1, v, .cons _ t, e => by
    obtain ⟨d, h1, h2⟩ := Reps.getV (i := i) (v := v) t (by simpa using e)
    exact ⟨d, by simpa using h1, h2⟩
theorem Reps.append : ∀ {vs ws : List V} {ds es : List D}, Reps K H vs ds → Reps K H ws es → Reps K H (vs ++ ws) (ds ++ es)
  | _, _, _, _, .nil, h => h
  | _, _, _, _, .cons r t, h => .cons r (Reps.append t h)
theorem Reps.take : ∀ {vs : List V} {ds : List D} (n : Nat), Reps K H vs ds → Reps K H (vs.take n) (ds.take n)
  | _, _, 0, _ => by simp; exact .nil
  | _, _, _ + 1, .nil => .nil
  | _, _, n + 1, .cons r t => .cons r (Reps.take n t)
theorem Reps.drop : ∀ {vs : List V} {ds : List D} (n : Nat), Reps K H vs ds → Reps K H (vs.drop n) (ds.drop n)
  | _, _, 0, h => h
  | _, _, _ + 1, .nil => .nil
  | _, _, n + 1, .cons _ t => Reps.drop n t
theorem Reps.set {v : V} {d : D} (r : Rep K H v d) : ∀ {vs : List V} {ds : List D} (i : Nat), Reps K H vs ds → Reps K H (vs.set i v) (ds.set i d)
  | _, _, _, .nil => .nil
  | _, _, 0, .cons _ t => .cons r t
  | _, _, i + 1, .cons q t => .cons q (Reps.set r i t)
theorem RepF.lookup : ∀ {vs : List (Str × V)} {fs : List (Str × D)} {f : Str} {d : D}, RepF K H vs fs → fs.lookup f = some d → ∃ v, vs.lookup f = some v ∧ Rep K H v d
  | _, _, _, _, .nil, e => by simp at e
  | _, _, f, d, .cons (f := g) (v := v) (d := d') r t, e => by
    rw [List.lookup_cons] at e ⊢
    cases hq : f == g with
    | true => rw [hq] at e; cases e; exact ⟨v, rfl, r⟩
    | false => rw [hq] at e; exact RepF.lookup t e
theorem RepF.lookupN : ∀ {vs : List (Str × V)} {fs : List (Str × D)} {f : Str}, RepF K H vs fs → fs.lookup f = none → vs.lookup f = none
  | _, _, _, .nil, _ => rfl
  | _, _, f, .cons (f := g) r t, e => by
    rw [List.lookup_cons] at e ⊢
    cases hq : f == g with
    | true => rw [hq] at e; cases e
    | false => rw [hq] at e; exact RepF.lookupN t e
end
inductive Ct where
  | lst (ds : List D)
  | ins (C : Addr) (fs : List (Str × D))
  | tab (q : Str)
  | dk0
abbrev Cells := Addr → Option Ct
abbrev Sl := List (Option D)
def noTbl : HO → Option HO
  | .tbl _ => none
  | o => some o
theorem noTbl_of {o : HO} (h : ∀ ps, o ≠ .tbl ps) : noTbl o = some o := by
  cases o <;> first | rfl | exact absurd rfl (h _)
theorem noTbl_some {o u : HO} (h : noTbl o = some u) : o = u ∧ ∀ ps, u ≠ .tbl ps := by
  cases o with
  | tbl ps => cases h
  | _ =>
    cases h
    exact ⟨rfl, fun _ z => by cases z⟩
def mns (H : Hp) (C : Cells) : Hp := fun a => match C a with
  | none => (H a).bind noTbl
  | some _ => none
theorem mns_bind {H : Hp} {C : Cells} {a : Addr} (h : C a = none) : mns H C a = (H a).bind noTbl := by unfold mns; rw [h]
theorem mns_none {H : Hp} {C : Cells} {a : Addr} {o : HO} (h : C a = none) (e : H a = some o) (n : ∀ ps, o ≠ .tbl ps) : mns H C a = some o := by
  rw [mns_bind h, e]
  exact noTbl_of n
theorem mns_some {H : Hp} {C : Cells} {a : Addr} {c : Ct} (h : C a = some c) : mns H C a = none := by unfold mns; rw [h]
theorem mns_of3 {H : Hp} {C : Cells} {a : Addr} {o : HO} (h : mns H C a = some o) : H a = some o ∧ C a = none ∧ ∀ ps, o ≠ .tbl ps := by
  unfold mns at h
  cases e : C a with
  | some c => rw [e] at h; cases h
  | none =>
    rw [e] at h
    cases q : H a with
    | none => rw [q] at h; cases h
    | some u =>
      rw [q] at h
      obtain ⟨h1, h2⟩ := noTbl_some (show noTbl u = some o from h)
      rw [h1]
      exact ⟨rfl, rfl, h2⟩
theorem mns_of {H : Hp} {C : Cells} {a : Addr} {o : HO} (h : mns H C a = some o) : H a = some o ∧ C a = none := ⟨(mns_of3 h).1, (mns_of3 h).2.1⟩
inductive CtOk (K : PySem.W.Frag) (H G : Hp) (a : Addr) : Ct → Prop
  | lst {vs : List V} {ds : List D} : H a = some (.lst vs) → Reps K G vs ds → CtOk K H G a (.lst ds)
  | ins {Cl dx : Addr} {vs : List (Str × V)} {fs : List (Str × D)} : H a = some (.ins Cl dx vs) → RepF K G vs fs → CtOk K H G a (.ins Cl fs)
  | tab {q : Str} : LamX.TabS H a q → CtOk K H G a (.tab q)
  | dk0 : H a = some (.dK []) → CtOk K H G a .dk0
theorem tabS_new {H : Hp} {p P : Addr} {o : HO} {q : Str} (t : LamX.TabS H P q) (hp : H p = none) : LamX.TabS (upd H p o) P q := t.ext fun b u e => by rw [upd_ne (ne_of_none e hp)]; exact e
theorem tabS_put {H : Hp} {a P : Addr} {o u : HO} {q : Str} (t : LamX.TabS H P q) (ha : H a = some u) (n1 : ∀ ps, u ≠ .tbl ps) (n2 : ∀ φ, u ≠ .ext φ) : LamX.TabS (upd H a o) P q := by
  obtain ⟨ps, h1, h2, h3⟩ := t
  refine ⟨ps, by rw [upd_ne (fun z => by rw [z, ha] at h1; exact n1 ps (Option.some.inj h1))]; exact h1, h2, fun pos cv hc => ?_⟩
  obtain ⟨c, e1, e2⟩ := h3 pos cv hc
  exact ⟨c, e1, by rw [upd_ne (fun z => by rw [z, ha] at e2; exact n2 _ (Option.some.inj e2))]; exact e2⟩
structure COk (K : PySem.W.Frag) (T : List (Addr × Str)) (H : Hp) (C : Cells) : Prop where
  ok : ∀ a c, C a = some c → CtOk K H (mns H C) a c
  tb : ∀ p ∈ T, C p.1 = some (.tab p.2)
  tn : ∀ a q, C a = some (.tab q) → (a, q) ∈ T
def Ct.plain : Ct → Bool
  | .tab _ => false
  | _ => true
section
variable {K : PySem.W.Frag} {T : List (Addr × Str)} {H : Hp} {C : Cells}
theorem COk.there (h : COk K T H C) {a : Addr} {c : Ct} (e : C a = some c) : ∃ o, H a = some o := by
  cases h.ok a c e with
  | lst h _ => exact ⟨_, h⟩
  | ins h _ => exact ⟨_, h⟩
  | dk0 h => exact ⟨_, h⟩
  | tab h =>
    obtain ⟨ps, h, _⟩ := h
    exact ⟨_, h⟩
theorem COk.fresh (h : COk K T H C) {a : Addr} (e : H a = none) : C a = none := by
  cases q : C a with
  | none => rfl
  | some c =>
    obtain ⟨o, z⟩ := h.there q
    rw [e] at z
    cases z
end
structure SlR (K : PySem.W.Frag) (G : Hp) (σV : L2.St) (σ : Sl) : Prop where
  len : σV.length = σ.length
  at_ : ∀ (i : Nat) (d : D), σ[i]? = some (some d) → ∃ v, σV[i]? = some (some v) ∧ Rep K G v d
theorem SlR.ex {K : PySem.W.Frag} {G G' : Hp} {σV : L2.St} {σ : Sl} (h : SlR K G σV σ) (e : Ex G G') : SlR K G' σV σ :=
  ⟨h.len, fun i d q => let ⟨v, a, b⟩ := h.at_ i d q; ⟨v, a, b.ex e⟩⟩
theorem SlR.set {K : PySem.W.Frag} {G : Hp} {σV : L2.St} {σ : Sl} (h : SlR K G σV σ) {v : V} {d : D} (r : Rep K G v d) (i : Nat) : SlR K G (σV.set i (some v)) (σ.set i (some d)) := by
  refine ⟨by rw [List.length_set, List.length_set, h.len], fun j e q => ?_⟩
  by_cases hj : i = j
  · subst hj
    by_cases hi : i < σ.length
    · rw [List.getElem?_set_self hi] at q
      cases q
      exact ⟨v, by rw [List.getElem?_set_self (by rw [h.len]; exact hi)], r⟩
    · rw [List.getElem?_eq_none (by simpa using hi)] at q
      cases q
  · rw [List.getElem?_set_ne hj] at q ⊢
    exact h.at_ j e q
structure Zx where
  X : Cx
  G0 : Hp
  xw : Addr → List (Str × D) → Sl → Cells → Prop
  tt : List (Addr × Str)
structure StR (Z : Zx) (H : Hp) (σV : L2.St) (C : Cells) (σ : Sl) : Prop where
  c : COk Z.X.K Z.tt H C
  s : SlR Z.X.K (mns H C) σV σ
  g : Ex Z.G0 (mns H C)
def tE (X : Cx) (e : Expr) : TE := fun σ H Q => ∀ pins s, Inv X pins σ H s → wpAny (model X.prog X.w) X.A (eval e X.env) (EP X pins σ Q) X.xe s
theorem pe_self {X : Cx} {e : Expr} : PE X e (tE X e) := ⟨fun pins s _ _ _ I h => h pins s I⟩
theorem tE_of {X : Cx} {e : Expr} {t : TE} (h : PE X e t) {σ : L2.St} {H : Hp} {Q : VK} (q : t σ H Q) : tE X e σ H Q := fun pins s I => h.run pins s σ H Q I q
theorem tE_mono {X : Cx} {e : Expr} {σ : L2.St} {H : Hp} {Q Q' : VK} (h : tE X e σ H Q) (k : ∀ v H', Q v H' → Q' v H') : tE X e σ H Q' := fun pins s I => thn (h pins s I) fun u s' ⟨v, H', I', r, q⟩ => ⟨v, H', I', r, k v H' q⟩
def tT (X : Cx) (e : Expr) : TT := fun σ H Q => ∀ pins s, Inv X pins σ H s → wpAny (model X.prog X.w) X.A (isTrue e X.env (eval e X.env)) (TP X pins σ Q) X.xe s
theorem pt_self {X : Cx} {e : Expr} : PT X e (tT X e) := ⟨fun pins s _ _ _ I h => h pins s I⟩
theorem tT_of {X : Cx} {e : Expr} {t : TT} (h : PT X e t) {σ : L2.St} {H : Hp} {Q : Bool → Hp → Prop} (q : t σ H Q) : tT X e σ H Q := fun pins s I => h.run pins s σ H Q I q
theorem tT_mono {X : Cx} {e : Expr} {σ : L2.St} {H : Hp} {Q Q' : Bool → Hp → Prop} (h : tT X e σ H Q) (k : ∀ v H', Q v H' → Q' v H') : tT X e σ H Q' := fun pins s I => thn (h pins s I) fun u s' ⟨H', I', q⟩ => ⟨H', I', k _ H' q⟩
def tA (X : Cx) (es : List Expr) : TA := fun σ H Q => ∀ (pos : Pos) pins s, Inv X pins σ H s → wpAny (model X.prog X.w) X.A (spliced (backTo pos (starEach es X.env))) (AP X pins σ Q) X.xe s
theorem pa_self {X : Cx} {es : List Expr} : PA X es (tA X es) := ⟨fun pos pins s _ _ _ I h => h pos pins s I⟩
theorem tA_of {X : Cx} {es : List Expr} {t : TA} (h : PA X es t) {σ : L2.St} {H : Hp} {Q : List V → Hp → Prop} (q : t σ H Q) : tA X es σ H Q := fun pos pins s I => h.run pos pins s σ H Q I q
theorem tA_mono {X : Cx} {es : List Expr} {σ : L2.St} {H : Hp} {Q Q' : List V → Hp → Prop} (h : tA X es σ H Q) (k : ∀ v H', Q v H' → Q' v H') : tA X es σ H Q' := fun pos pins s I => thn (h pos pins s I) fun u s' ⟨v, H', I', r, q⟩ => ⟨v, H', I', r, k v H' q⟩
def tS (X : Cx) (st : Stmt) : TS := fun E σ H => ∀ pins s, Inv X pins σ H s → wpAny (model X.prog X.w) X.A (exec st X.env) (SP X pins E) X.xe s
theorem ps_self {X : Cx} {st : Stmt} : PS X st (tS X st) := ⟨fun pins s _ _ _ I h => h pins s I⟩
theorem tS_of {X : Cx} {st : Stmt} {t : TS} (h : PS X st t) {σ : L2.St} {H : Hp} {E : Ends} (q : t E σ H) : tS X st E σ H := fun pins s I => h.run pins s σ H E I q
def tSs (X : Cx) (st : List Stmt) : TS := fun E σ H => ∀ pins s, Inv X pins σ H s → wpAny (model X.prog X.w) X.A (execs st X.env) (SP X pins E) X.xe s
theorem pss_self {X : Cx} {st : List Stmt} : PSs X st (tSs X st) := ⟨fun pins s _ _ _ I h => h pins s I⟩
theorem tSs_of {X : Cx} {st : List Stmt} {t : TS} (h : PSs X st t) {σ : L2.St} {H : Hp} {E : Ends} (q : t E σ H) : tSs X st E σ H := fun pins s I => h.run pins s σ H E I q
def PostE (Z : Zx) (H : Hp) (σV : L2.St) (C : Cells) (σ : Sl) (Q : D → Cells → Prop) : VK := fun v H' => ∃ d C', Ex (mns H C) (mns H' C') ∧ StR Z H' σV C' σ ∧ Rep Z.X.K (mns H' C') v d ∧ Q d C'
def WE (Z : Zx) (e : Expr) (σ : Sl) (C : Cells) (Q : D → Cells → Prop) : Prop := ∀ σV H, StR Z H σV C σ → tE Z.X e σV H (PostE Z H σV C σ Q)
def PostT (Z : Zx) (H : Hp) (σV : L2.St) (C : Cells) (σ : Sl) (Q : Bool → Cells → Prop) : Bool → Hp → Prop := fun b H' => ∃ C', Ex (mns H C) (mns H' C') ∧ StR Z H' σV C' σ ∧ Q b C'
def WT (Z : Zx) (e : Expr) (σ : Sl) (C : Cells) (Q : Bool → Cells → Prop) : Prop := ∀ σV H, StR Z H σV C σ → tT Z.X e σV H (PostT Z H σV C σ Q)
def PostA (Z : Zx) (H : Hp) (σV : L2.St) (C : Cells) (σ : Sl) (Q : List D → Cells → Prop) : List V → Hp → Prop := fun vs H' => ∃ ds C', Ex (mns H C) (mns H' C') ∧ StR Z H' σV C' σ ∧ Reps Z.X.K (mns H' C') vs ds ∧ Q ds C'
def WA (Z : Zx) (es : List Expr) (σ : Sl) (C : Cells) (Q : List D → Cells → Prop) : Prop := ∀ σV H, StR Z H σV C σ → tA Z.X es σV H (PostA Z H σV C σ Q)
structure EndsD where
  nx : Sl → Cells → Prop
  rt : D → Cells → Prop := fun _ _ => False
  bk : Sl → Cells → Prop := fun _ _ => False
  ct : Sl → Cells → Prop := fun _ _ => False
def nxV (Z : Zx) (N : Sl → Cells → Prop) : L2.St → Hp → Prop := fun σV H => ∃ σ C, StR Z H σV C σ ∧ N σ C
def rtV (Z : Zx) (N : D → Cells → Prop) : VK := fun v H => ∃ d C, COk Z.X.K Z.tt H C ∧ Ex Z.G0 (mns H C) ∧ Rep Z.X.K (mns H C) v d ∧ N d C
def endsV (Z : Zx) (N : EndsD) : Ends := ⟨nxV Z N.nx, rtV Z N.rt, nxV Z N.bk, nxV Z N.ct⟩
def WS (Z : Zx) (st : Stmt) (σ : Sl) (C : Cells) (N : EndsD) : Prop := ∀ σV H, StR Z H σV C σ → tS Z.X st (endsV Z N) σV H
def WSs (Z : Zx) (st : List Stmt) (σ : Sl) (C : Cells) (N : EndsD) : Prop := ∀ σV H, StR Z H σV C σ → tSs Z.X st (endsV Z N) σV H
section
variable {Z : Zx} {σ : Sl} {C : Cells} {H H' : Hp} {σV : L2.St}
theorem WE.mono {e : Expr} {Q Q' : D → Cells → Prop} (h : WE Z e σ C Q) (k : ∀ d C', Q d C' → Q' d C') : WE Z e σ C Q' := fun σV H st => tE_mono (h σV H st) fun v H' ⟨d, C', a, b, c, q⟩ => ⟨d, C', a, b, c, k d C' q⟩
theorem WT.mono {e : Expr} {Q Q' : Bool → Cells → Prop} (h : WT Z e σ C Q) (k : ∀ d C', Q d C' → Q' d C') : WT Z e σ C Q' := fun σV H st => tT_mono (h σV H st) fun v H' ⟨C', a, b, q⟩ => ⟨C', a, b, k _ C' q⟩
theorem WA.mono {e : List Expr} {Q Q' : List D → Cells → Prop} (h : WA Z e σ C Q) (k : ∀ d C', Q d C' → Q' d C') : WA Z e σ C Q' := fun σV H st => tA_mono (h σV H st) fun v H' ⟨d, C', a, b, c, q⟩ => ⟨d, C', a, b, c, k d C' q⟩
theorem StR.ex (h : StR Z H σV C σ) {C' : Cells} (c : COk Z.X.K Z.tt H' C') (e : Ex (mns H C) (mns H' C')) : StR Z H' σV C' σ := ⟨c, h.s.ex e, h.g.trans e⟩
theorem StR.new (h : StR Z H σV C σ) {p : Addr} {o : HO} (hp : H p = none) (ho : ∀ ps, o ≠ .tbl ps := by exact fun _ z => nomatch z) : COk Z.X.K Z.tt (upd H p o) C ∧ Ex (mns H C) (mns (upd H p o) C) ∧ mns (upd H p o) C p = some o := by
  have hc := h.c.fresh hp
  have e : Ex (mns H C) (mns (upd H p o) C) := fun a u q => by
    obtain ⟨q1, q2, q3⟩ := mns_of3 q
    exact mns_none q2 (by rw [upd_ne (ne_of_none q1 hp)]; exact q1) q3
  refine ⟨⟨fun a c q => ?_, h.c.tb, h.c.tn⟩, e, mns_none hc upd_same ho⟩
  cases h.c.ok a c q with
  | lst h1 h2 => exact .lst (by rw [upd_ne (ne_of_none h1 hp)]; exact h1) (h2.ex e)
  | ins h1 h2 => exact .ins (by rw [upd_ne (ne_of_none h1 hp)]; exact h1) (h2.ex e)
  | dk0 h1 => exact .dk0 (by rw [upd_ne (ne_of_none h1 hp)]; exact h1)
  | tab h1 => exact .tab (tabS_new h1 hp)
def setC (C : Cells) (a : Addr) (c : Ct) : Cells := fun b => if b = a then some c else C b
def delC (C : Cells) (a : Addr) : Cells := fun b => if b = a then none else C b
theorem setC_same {a : Addr} {c : Ct} : setC C a c a = some c := by unfold setC; rw [if_pos rfl]
theorem setC_ne {a b : Addr} {c : Ct} (h : b ≠ a) : setC C a c b = C b := by unfold setC; rw [if_neg h]
theorem setC_setC {a : Addr} {c e : Ct} : setC (setC C a c) a e = setC C a e := by funext b; unfold setC; split <;> rfl
theorem delC_setC {a : Addr} {c : Ct} (h : C a = none) : delC (setC C a c) a = C := by
  funext b; unfold delC setC
  by_cases e : b = a
  · rw [if_pos e, e, h]
  · rw [if_neg e, if_neg e]
theorem delC_same {a : Addr} : delC C a a = none := by unfold delC; rw [if_pos rfl]
theorem delC_ne {a b : Addr} (h : b ≠ a) : delC C a b = C b := by unfold delC; rw [if_neg h]
theorem tb_set {T : List (Addr × Str)} {a : Addr} {c : Ct} (t : ∀ p ∈ T, C p.1 = some (.tab p.2)) (h : ∀ q, C a ≠ some (.tab q)) : ∀ p ∈ T, setC C a c p.1 = some (.tab p.2) := fun p hp => by
  rw [setC_ne]
  · exact t p hp
  · intro e
    have := t p hp
    rw [e] at this
    exact h _ this
theorem tb_del {T : List (Addr × Str)} {a : Addr} (t : ∀ p ∈ T, C p.1 = some (.tab p.2)) (h : ∀ q, C a ≠ some (.tab q)) : ∀ p ∈ T, delC C a p.1 = some (.tab p.2) := fun p hp => by
  rw [delC_ne]
  · exact t p hp
  · intro e
    have := t p hp
    rw [e] at this
    exact h _ this
theorem tn_set {T : List (Addr × Str)} {a : Addr} {c : Ct} (t : ∀ a q, C a = some (.tab q) → (a, q) ∈ T) (h : c.plain = true) : ∀ b q, setC C a c b = some (.tab q) → (b, q) ∈ T := fun b q e => by
  by_cases hb : b = a
  · rw [hb, setC_same] at e
    cases e
    cases h
  · rw [setC_ne hb] at e
    exact t b q e
theorem tn_del {T : List (Addr × Str)} {a : Addr} (t : ∀ a q, C a = some (.tab q) → (a, q) ∈ T) : ∀ b q, delC C a b = some (.tab q) → (b, q) ∈ T := fun b q e => by
  by_cases hb : b = a
  · rw [hb, delC_same] at e
    cases e
  · rw [delC_ne hb] at e
    exact t b q e
theorem plain_ne {a : Addr} {c : Ct} (ha : C a = some c) (hp : c.plain = true) : ∀ q, C a ≠ some (.tab q) := fun q e => by
  rw [ha] at e
  cases e
  cases hp
theorem StR.put (h : StR Z H σV C σ) {a : Addr} {c c' : Ct} {o : HO} (ha : C a = some c) (hn : CtOk Z.X.K (upd H a o) (mns H C) a c') (hp : c.plain = true := by rfl) (hp' : c'.plain = true := by rfl) : COk Z.X.K Z.tt (upd H a o) (setC C a c') ∧ mns (upd H a o) (setC C a c') = mns H C := by
  have e : mns (upd H a o) (setC C a c') = mns H C := by
    funext b
    by_cases hb : b = a
    · subst hb
      rw [mns_some setC_same, mns_some ha]
    · unfold mns
      rw [setC_ne hb]
      cases C b with
      | none => show (upd H a o b).bind noTbl = (H b).bind noTbl; rw [upd_ne hb]
      | some _ => rfl
  refine ⟨⟨fun b cb q => ?_, tb_set h.c.tb (plain_ne ha hp), tn_set h.c.tn hp'⟩, e⟩
  rw [e]
  by_cases hb : b = a
  · subst hb
    rw [setC_same] at q
    cases q
    exact hn
  · rw [setC_ne hb] at q
    cases h.c.ok b cb q with
    | lst h1 h2 => exact .lst (by rw [upd_ne hb]; exact h1) h2
    | ins h1 h2 => exact .ins (by rw [upd_ne hb]; exact h1) h2
    | dk0 h1 => exact .dk0 (by rw [upd_ne hb]; exact h1)
    | tab h1 =>
      cases h.c.ok a c ha with
      | dk0 g1 => exact .tab (tabS_put h1 g1 (fun _ z => by cases z) fun _ z => by cases z)
      | lst g1 _ => exact .tab (tabS_put h1 g1 (fun _ z => by cases z) fun _ z => by cases z)
      | ins g1 _ => exact .tab (tabS_put h1 g1 (fun _ z => by cases z) fun _ z => by cases z)
      | tab _ => cases hp
theorem StR.cell (h : StR Z H σV C σ) {a : Addr} {c : Ct} {o : HO} (ha : H a = none) (hn : CtOk Z.X.K (upd H a o) (mns H C) a c) (hp : c.plain = true := by rfl) : COk Z.X.K Z.tt (upd H a o) (setC C a c) ∧ Ex (mns H C) (mns (upd H a o) (setC C a c)) := by
  have hc := h.c.fresh ha
  have e : mns (upd H a o) (setC C a c) = mns H C := by
    funext b
    by_cases hb : b = a
    · subst hb
      rw [mns_some setC_same, mns_bind hc, ha] <;> rfl
    · unfold mns
      rw [setC_ne hb]
      cases C b with
      | none => show (upd H a o b).bind noTbl = (H b).bind noTbl; rw [upd_ne hb]
      | some _ => rfl
  refine ⟨⟨fun b cb q => ?_, tb_set h.c.tb (fun q z => by rw [hc] at z; cases z), tn_set h.c.tn hp⟩, by rw [e]; exact Ex.refl _⟩
  rw [e]
  by_cases hb : b = a
  · subst hb
    rw [setC_same] at q
    cases q
    exact hn
  · rw [setC_ne hb] at q
    cases h.c.ok b cb q with
    | lst h1 h2 => exact .lst (by rw [upd_ne hb]; exact h1) h2
    | ins h1 h2 => exact .ins (by rw [upd_ne hb]; exact h1) h2
    | dk0 h1 => exact .dk0 (by rw [upd_ne hb]; exact h1)
    | tab h1 => exact .tab (tabS_new h1 ha)
theorem COk.del {K : PySem.W.Frag} {T : List (Addr × Str)} (h : COk K T H C) {a : Addr} {c : Ct} (ha : C a = some c) (hp : c.plain = true) : COk K T H (delC C a) ∧ Ex (mns H C) (mns H (delC C a)) := by
  have e : Ex (mns H C) (mns H (delC C a)) := fun b u q => by
    obtain ⟨q1, q2, q3⟩ := mns_of3 q
    have hb : b ≠ a := fun z => by rw [z, ha] at q2; cases q2
    exact mns_none (by rw [delC_ne hb]; exact q2) q1 q3
  refine ⟨⟨fun b cb q => ?_, tb_del h.tb (plain_ne ha hp), tn_del h.tn⟩, e⟩
  by_cases hb : b = a
  · rw [hb, delC_same] at q
    cases q
  · rw [delC_ne hb] at q
    cases h.ok b cb q with
    | lst h1 h2 => exact .lst h1 (h2.ex e)
    | ins h1 h2 => exact .ins h1 (h2.ex e)
    | dk0 h1 => exact .dk0 h1
    | tab h1 => exact .tab h1
theorem COk.freeze {K : PySem.W.Frag} {T : List (Addr × Str)} (h : COk K T H C) {a : Addr} {ds : List D} (ha : C a = some (.lst ds)) : COk K T H (delC C a) ∧ Ex (mns H C) (mns H (delC C a)) ∧ Rep K (mns H (delC C a)) (.ref a) (.lst ds) := by
  obtain ⟨c, e⟩ := h.del ha rfl
  refine ⟨c, e, ?_⟩
  cases h.ok a _ ha with
  | lst h1 h2 => exact .lst (mns_none delC_same h1 fun _ z => nomatch z) (h2.ex e)
theorem COk.freezeI {K : PySem.W.Frag} {T : List (Addr × Str)} (h : COk K T H C) {a Cl : Addr} {fs : List (Str × D)} (ha : C a = some (.ins Cl fs)) : COk K T H (delC C a) ∧ Ex (mns H C) (mns H (delC C a)) ∧ Rep K (mns H (delC C a)) (.ref a) (.obj Cl fs) := by
  obtain ⟨c, e⟩ := h.del ha rfl
  refine ⟨c, e, ?_⟩
  cases h.ok a _ ha with
  | ins h1 h2 => exact .obj (mns_none delC_same h1 fun _ z => nomatch z) (h2.ex e)
end
end DW
set_option Elab.async false
set_option linter.all false
set_option maxRecDepth 100000
set_option maxHeartbeats 2000000
namespace DW
open PySem PySem.Spec PyProof.Rows L2 Evl
section
variable {Z : Zx} {σ : Sl} {C : Cells} {pos : Pos} {a b : Expr}
theorem we_name (i : Nat) {x : Str} {d : D} {Q : D → Cells → Prop} (h : σ[i]? = some (some d)) (q : Q d C) (hN : Z.X.N[i]? = some x := by rfl)
    (hv : Vis Z.X.env.scope x := by first | exact Or.inl rfl | exact Or.inr (Or.inl rfl) | exact Or.inr (Or.inr rfl)) (hd : (x == ("__debug__" : Str)) = false := by decide)
    (hcd : (x == ("__classdict__" : Str)) = false := by decide) : WE Z (.Name x pos) σ C Q := fun σV H st => by
  obtain ⟨v, e, r⟩ := st.s.at_ i d h
  exact tE_of (pe_var hN hv hd hcd) ⟨v, e, d, C, Ex.refl _, st, r, q⟩
theorem we_const {e : Expr} {v : V} {d : D} {Q : D → Cells → Prop} (h : PE Z.X e (tC v)) (r : ∀ G, Rep Z.X.K G v d) (q : Q d C) : WE Z e σ C Q := fun σV H st => tE_of h ⟨d, C, Ex.refl _, st, r _, q⟩
theorem we_int {i : Int} {j : Nat} {Q : D → Cells → Prop} (q : Q (.int i) C) : WE Z (.Constant (.int i) j pos) σ C Q := we_const pe_int (fun _ => .int _) q
theorem we_bl {b : Bool} {j : Nat} {Q : D → Cells → Prop} (q : Q (.bl b) C) : WE Z (.Constant (.bool b) j pos) σ C Q := we_const pe_bl (fun _ => .bl _) q
theorem we_non {j : Nat} {Q : D → Cells → Prop} (q : Q .non C) : WE Z (.Constant .none j pos) σ C Q := we_const pe_non (fun _ => .non) q
theorem we_str {x : Str} {j : Nat} {Q : D → Cells → Prop} (q : Q (.str x) C) : WE Z (.Constant (.str x) j pos) σ C Q := we_const pe_str (fun _ => .str _) q
theorem we_glob {x : Str} {v : V} {u : Value} {d : D} {Q : D → Cells → Prop} (hm : Z.X.mg x = some u) (r : RelV v u) (rd : ∀ G, Rep Z.X.K G v d) (q : Q d C) (hg : Gl Z.X x := by rfl)
    (hd : (x == ("__debug__" : Str)) = false := by decide) : WE Z (.Name x pos) σ C Q := we_const (pe_glob hg hm r hd) rd q
theorem seq2 {Q : D → D → Cells → Prop} (h : WE Z a σ C fun x C1 => WE Z b σ C1 fun y C2 => Q x y C2) {σV : L2.St} {H : Hp} (st : StR Z H σV C σ) :
    tE Z.X a σV H fun v H1 => tE Z.X b σV H1 fun u H2 => ∃ x y C2, Ex (mns H C) (mns H2 C2) ∧ StR Z H2 σV C2 σ ∧ Rep Z.X.K (mns H2 C2) v x ∧ Rep Z.X.K (mns H2 C2) u y ∧ Q x y C2 :=
  tE_mono (h σV H st) fun v H1 ⟨x, C1, e1, st1, r1, w1⟩ => tE_mono (w1 σV H1 st1) fun u H2 ⟨y, C2, e2, st2, r2, q⟩ => ⟨x, y, C2, e1.trans e2, st2, r1.ex e2, r2, q⟩
def rB (X : Cx) (f : Value → Value → Sem Value) : R2 := fun x y H Q => ∀ pins s σ v u, Inv X pins σ H s → RelV x v → RelV y u → wpAny (model X.prog X.w) X.A (f v u) (EP X pins σ Q) X.xe s
theorem rB_op {X : Cx} {f : Value → Value → Sem Value} : OpR X f (rB X f) := fun pins s σ H x y v u Q I r1 r2 h => h pins s σ v u I r1 r2
theorem rB_of {X : Cx} {f : Value → Value → Sem Value} {r : R2} (h : OpR X f r) {x y : V} {H : Hp} {Q : VK} (q : r x y H Q) : rB X f x y H Q := fun pins s σ v u I r1 r2 => h pins s σ H x y v u Q I r1 r2 q
inductive LstIn (C : Cells) : D → List D → Prop
  | v (ds : List D) : LstIn C (.lst ds) ds
  | c {a : Addr} {ds : List D} : C a = some (.lst ds) → LstIn C (.cell a) ds
theorem LstIn.rd {K : PySem.W.Frag} {H : Hp} {C : Cells} {d : D} {ds : List D} (l : LstIn C d ds) {T : List (Addr × Str)} (c : COk K T H C) {v : V} (r : Rep K (mns H C) v d) : ∃ a vs, v = .ref a ∧ H a = some (.lst vs) ∧ Reps K (mns H C) vs ds := by
  cases l with
  | v ds =>
    cases r with
    | lst h1 h2 => exact ⟨_, _, rfl, (mns_of h1).1, h2⟩
  | @c a ds e =>
    cases r with
    | opq v =>
      cases c.ok a _ e with
      | lst h1 h2 => exact ⟨_, _, rfl, h1, h2⟩
theorem up_mns {H : Hp} {C : Cells} : Ex (mns H C) H := fun a o q => (mns_of q).1
theorem tup_rd {K : PySem.W.Frag} {H : Hp} {C : Cells} {ds : List D} {v : V} (r : Rep K (mns H C) v (.tup ds)) : ∃ a vs, v = .ref a ∧ SqT K (mns H C) a vs ∧ SqT K H a vs ∧ Reps K (mns H C) vs ds := by
  cases r with
  | tup h1 h2 => exact ⟨_, _, rfl, h1, ex_t up_mns h1, h2⟩
inductive SeqIn (C : Cells) : D → List D → Prop
  | l {d : D} {ds : List D} : LstIn C d ds → SeqIn C d ds
  | t (ds : List D) : SeqIn C (.tup ds) ds
  | r (ds : List D) : SeqIn C (.rol ds) ds
theorem SeqIn.rd {K : PySem.W.Frag} {H : Hp} {C : Cells} {d : D} {ds : List D} (l : SeqIn C d ds) {T : List (Addr × Str)} (c : COk K T H C) {v : V} (r : Rep K (mns H C) v d) : ∃ a vs, v = .ref a ∧ (SqL K H a vs ∨ SqT K H a vs) ∧ Reps K (mns H C) vs ds := by
  cases l with
  | l h =>
    obtain ⟨a, vs, e, h1, h2⟩ := h.rd c r
    exact ⟨a, vs, e, .inl (SqL.of h1), h2⟩
  | t ds =>
    obtain ⟨a, vs, e, _, h1, h2⟩ := tup_rd r
    exact ⟨a, vs, e, .inr h1, h2⟩
  | r ds =>
    cases r with
    | rol h1 h2 => exact ⟨_, _, rfl, .inl (ex_l up_mns h1), h2⟩
theorem rep_int {K : PySem.W.Frag} {H : Hp} {v : V} {i : Int} (r : Rep K H v (.int i)) : v = .int i := by cases r; rfl
theorem rep_bl {K : PySem.W.Frag} {H : Hp} {v : V} {i : Bool} (r : Rep K H v (.bl i)) : v = .bl i := by cases r; rfl
theorem rep_str {K : PySem.W.Frag} {H : Hp} {v : V} {i : Str} (r : Rep K H v (.str i)) : v = .str i := by cases r; rfl
theorem rep_opq {K : PySem.W.Frag} {H : Hp} {v : V} {i : V} (r : Rep K H v (.opq i)) : v = i := by cases r; rfl
inductive BinR (C : Cells) : Operator → D → D → D → Prop
  | add (i j : Int) : BinR C .Add (.int i) (.int j) (.int (i + j))
  | sub (i j : Int) : BinR C .Sub (.int i) (.int j) (.int (i - j))
  | mul (i j : Int) : IntMulOk i j → BinR C .Mult (.int i) (.int j) (.int (i * j))
  | fdiv (i j : Int) : j ≠ 0 → j.natAbs.log2 < 9000 → BinR C .FloorDiv (.int i) (.int j) (.int (i.fdiv j))
  | div (i j : Int) : 0 < j → j.natAbs.log2 < 9000 → BinR C .FloorDiv (.int i) (.int j) (.int (i / j))
  | fmod (i j : Int) : j ≠ 0 → BinR C .Mod (.int i) (.int j) (.int (i.fmod j))
  | mod (i j : Int) : 0 < j → BinR C .Mod (.int i) (.int j) (.int (i % j))
  | pow (i j : Int) : CPow i j → BinR C .Pow (.int i) (.int j) (.int (i ^ j.toNat))
  | adds (x y : Str) : x.length + y.length ≤ sizeLine → BinR C .Add (.str x) (.str y) (.str (x ++ y))
  | cat {x y : D} {xs ys : List D} : LstIn C x xs → LstIn C y ys → xs.length + ys.length ≤ sizeLine → BinR C .Add x y (.lst (xs ++ ys))
  | catT (xs ys : List D) : xs.length + ys.length ≤ sizeLine → BinR C .Add (.tup xs) (.tup ys) (.tup (xs ++ ys))
  | rep {x : D} {xs : List D} (k : Int) : LstIn C x xs → -(2 ^ 63) ≤ k → k < 2 ^ 63 → xs.length * k.toNat ≤ sizeLine → BinR C .Mult x (.int k) (.lst (List.replicate k.toNat xs).flatten)
def GoesB (Z : Zx) (f : Value → Value → Sem Value) (C : Cells) (x y z : D) : Prop := ∀ (H : Hp) (σV : L2.St) (σ : Sl) (v u : V) (Q : VK), StR Z H σV C σ → Rep Z.X.K (mns H C) v x → Rep Z.X.K (mns H C) u y →
  (∀ w H', Ex (mns H C) (mns H' C) → StR Z H' σV C σ → Rep Z.X.K (mns H' C) w z → Q w H') → rB Z.X f v u H Q
theorem GoesB.new {f : Value → Value → Sem Value} {x y z : D} (h : ∀ (H : Hp) (σV : L2.St) (σ : Sl) (v u : V) (Q : VK), StR Z H σV C σ → Rep Z.X.K (mns H C) v x → Rep Z.X.K (mns H C) u y →
    ∃ o, (∀ ps, o ≠ .tbl ps) ∧ (∀ p H', H' = upd H p o → mns H' C p = some o → Ex (mns H C) (mns H' C) → Rep Z.X.K (mns H' C) (.ref p) z) ∧ ((∀ p, H p = none → Q (.ref p) (upd H p o)) → rB Z.X f v u H Q)) : GoesB Z f C x y z := fun H σV σ v u Q st r1 r2 k => by
  obtain ⟨o, h0, h1, h2⟩ := h H σV σ v u Q st r1 r2
  refine h2 fun p hp => ?_
  obtain ⟨c, e, n⟩ := st.new (o := o) hp h0
  exact k _ _ e (st.ex c e) (h1 p _ rfl n e)
theorem GoesB.old {f : Value → Value → Sem Value} {x y z : D} (h : ∀ (H : Hp) (v u : V) (Q : VK), COk Z.X.K Z.tt H C → Rep Z.X.K (mns H C) v x → Rep Z.X.K (mns H C) u y → ∃ w, Rep Z.X.K (mns H C) w z ∧ (Q w H → rB Z.X f v u H Q)) : GoesB Z f C x y z := fun H σV σ v u Q st r1 r2 k => by
  obtain ⟨w, h1, h2⟩ := h H v u Q st.c r1 r2
  exact h2 (k w H (Ex.refl _) st h1)
theorem op_mulO {X : Cx} : OpR X (binaryOp .Mult) (rI IntMulOk fun i j => .int (i * j)) := opI fun _ _ _ _ _ _ _ hc q => mul_int q hc
theorem op_fdivO {X : Cx} : OpR X (binaryOp .FloorDiv) (rI (fun _ j => j ≠ 0 ∧ j.natAbs.log2 < 9000) fun i j => .int (i.fdiv j)) := opI fun _ _ _ _ _ _ _ hc q => floordiv_int hc.1 q (.inl (PyProof.noPylong_of_log2 hc.2))
theorem reps_rep {K : PySem.W.Frag} {G : Hp} {vs : List V} {ds : List D} (h : Reps K G vs ds) : ∀ k : Nat, Reps K G (List.replicate k vs).flatten (List.replicate k ds).flatten
  | 0 => .nil
  | k + 1 => by
    rw [List.replicate_succ, List.replicate_succ, List.flatten_cons, List.flatten_cons]
    exact h.append (reps_rep h k)
theorem binR {op : Operator} {x y z : D} (h : BinR C op x y z) : GoesB Z (binaryOp op) C x y z := by
  cases h with
  | add i j => exact .old fun H v u Q c r1 r2 => by cases r1; cases r2; exact ⟨_, .int _, fun q => rB_of op_add ⟨i, j, rfl, rfl, q⟩⟩
  | sub i j => exact .old fun H v u Q c r1 r2 => by cases r1; cases r2; exact ⟨_, .int _, fun q => rB_of op_sub ⟨i, j, rfl, rfl, q⟩⟩
  | mul i j h => exact .old fun H v u Q c r1 r2 => by cases r1; cases r2; exact ⟨_, .int _, fun q => rB_of op_mulO ⟨i, j, rfl, rfl, h, q⟩⟩
  | fdiv i j h1 h2 => exact .old fun H v u Q c r1 r2 => by cases r1; cases r2; exact ⟨_, .int _, fun q => rB_of op_fdivO ⟨i, j, rfl, rfl, ⟨h1, h2⟩, q⟩⟩
  | div i j h1 h2 => exact .old fun H v u Q c r1 r2 => by cases r1; cases r2; exact ⟨_, .int _, fun q => rB_of op_fdivW ⟨i, j, rfl, rfl, ⟨h1, h2⟩, q⟩⟩
  | fmod i j h => exact .old fun H v u Q c r1 r2 => by cases r1; cases r2; exact ⟨_, .int _, fun q => rB_of op_modN ⟨i, j, rfl, rfl, h, q⟩⟩
  | mod i j h => exact .old fun H v u Q c r1 r2 => by cases r1; cases r2; exact ⟨_, .int _, fun q => rB_of op_mod ⟨i, j, rfl, rfl, h, q⟩⟩
  | pow i j h => exact .old fun H v u Q c r1 r2 => by cases r1; cases r2; exact ⟨_, .int _, fun q => rB_of op_pow ⟨i, j, rfl, rfl, h, q⟩⟩
  | adds i j h => exact .old fun H v u Q c r1 r2 => by cases r1; cases r2; exact ⟨_, .str _, fun q => rB_of op_add_str ⟨i, j, rfl, rfl, h, q⟩⟩
  | @cat _ _ xs ys l1 l2 hz =>
      refine .new fun H σV σ v u Q st r1 r2 => ?_
      obtain ⟨p, vs, rfl, h1, h2⟩ := l1.rd st.c r1
      obtain ⟨p', us, rfl, h3, h4⟩ := l2.rd st.c r2
      exact ⟨.lst (vs ++ us), (fun _ z => nomatch z), fun p H' _ n e => .lst n ((h2.append h4).ex e), fun k => rB_of op_cat ⟨_, _, _, _, rfl, rfl, h1, h3, by rw [h2.length, h4.length]; exact hz, k⟩⟩
  | catT xs ys hz =>
      intro H σV σ v u Q st r1 r2 k
      obtain ⟨p, vs, rfl, g1, h1, h2⟩ := tup_rd r1
      obtain ⟨p', us, rfl, g3, h3, h4⟩ := tup_rd r2
      refine rB_of op_catA ⟨_, _, _, _, rfl, rfl, h1, h3, by rw [h2.length, h4.length]; exact hz, fun e => ?_, fun _ e => ?_, fun _ _ p hp => ?_⟩
      · subst e
        cases h2
        exact k _ H (Ex.refl _) st (by rw [List.nil_append]; exact r2)
      · subst e
        cases h4
        exact k _ H (Ex.refl _) st (by rw [List.append_nil]; exact r1)
      · obtain ⟨c, e, n⟩ := st.new (o := .tup (vs ++ us)) hp
        exact k _ _ e (st.ex c e) (.tup (SqT.of n) ((h2.append h4).ex e))
  | @rep _ xs n l1 h1 h2 hz =>
      refine .new fun H σV σ v u Q st r1 r2 => ?_
      obtain ⟨p, vs, rfl, h3, h4⟩ := l1.rd st.c r1
      cases r2
      exact ⟨.lst (List.replicate n.toNat vs).flatten, (fun _ z => nomatch z), fun p H' _ nn e => .lst nn ((reps_rep h4 _).ex e), fun k => rB_of op_rep ⟨_, _, _, rfl, rfl, h3, h1, h2, by rw [h4.length]; exact hz, k⟩⟩
theorem goesB_we {f : Value → Value → Sem Value} {r : R2 → TE} {Q : D → Cells → Prop} {e : Expr} (hp : PE Z.X e (tOp (rB Z.X f) (tE Z.X a) (tE Z.X b)))
    (h : WE Z a σ C fun x C1 => WE Z b σ C1 fun y C2 => ∃ z, GoesB Z f C2 x y z ∧ Q z C2) : WE Z e σ C Q := fun σV H st =>
  tE_of hp (tE_mono (seq2 h st) fun v H1 q1 => tE_mono q1 fun u H2 ⟨x, y, C2, e2, st2, r1, r2, z, g, q⟩ => g H2 σV σ v u _ st2 r1 r2 fun w H3 e3 st3 r3 => ⟨z, C2, e2.trans e3, st3, r3, q⟩)
theorem we_bin {op : Operator} {Q : D → Cells → Prop} (h : WE Z a σ C fun x C1 => WE Z b σ C1 fun y C2 => ∃ z, BinR C2 op x y z ∧ Q z C2) : WE Z (.BinOp a op b pos) σ C Q :=
  goesB_we (r := fun r => tOp r (tE Z.X a) (tE Z.X b)) (pe_op rB_op pe_self pe_self) (h.mono fun x C1 h1 => h1.mono fun y C2 ⟨z, g, q⟩ => ⟨z, binR g, q⟩)
end
end DW
set_option Elab.async false
set_option linter.all false
set_option maxRecDepth 100000
set_option maxHeartbeats 2000000
namespace DW
open PySem PySem.Spec PyProof.Rows L2 Evl
mutual
def D.py : D → PyData
  | .non => .none
  | .bl b => .bool b
  | .int i => .int i
  | .str x => .str x
  | .tup ds => .tuple (pys ds)
  | .lst ds => .list (pys ds)
  | .rol ds => .list (pys ds)
  | .obj _ _ => .none
  | .dic _ => .none
  | .opq _ => .none
def pys : List D → List PyData
  | [] => []
  | d :: ds => d.py :: pys ds
end
mutual
def D.isPy : D → Bool
  | .non => true
  | .bl b => true
  | .int i => true
  | .str x => true
  | .tup ds => arePy ds
  | .lst ds => arePy ds
  | .rol ds => arePy ds
  | .obj _ _ => false
  | .dic _ => false
  | .opq _ => false
def arePy : List D → Bool
  | [] => true
  | d :: ds => d.isPy && arePy ds
end
section
variable {K : PySem.W.Frag} {H : Hp}
mutual
theorem Rep.dp : ∀ (d : D) (v : V), d.isPy = true → Rep K H v d → Dp K H v d.py
  | .non, _, _, h => by cases h; exact .non
  | .bl b, _, _, h => by cases h; exact .bl _
  | .int i, _, _, h => by cases h; exact .int _
  | .str x, _, _, h => by cases h; exact .str _
  | .tup ds, _, p, h => by
    cases h with
    | tup a b => exact .tup a (Reps.dp ds _ (by unfold D.isPy at p; exact p) b)
  | .lst ds, _, p, h => by
    cases h with
    | lst a b => exact .lst (SqL.of a) (Reps.dp ds _ (by unfold D.isPy at p; exact p) b)
  | .rol ds, _, p, h => by
    cases h with
    | rol a b => exact .lst a (Reps.dp ds _ (by unfold D.isPy at p; exact p) b)
  | .obj C fs, _, p, _ => by unfold D.isPy at p; cases p
  | .dic fs, _, p, _ => by unfold D.isPy at p; cases p
  | .opq w, _, p, _ => by unfold D.isPy at p; cases p
theorem Reps.dp : ∀ (ds : List D) (vs : List V), arePy ds = true → Reps K H vs ds → DpAll K H vs (pys ds)
  | [], _, _, h => by cases h; exact .nil
  | d :: ds, _, p, h => by
    have q : d.isPy = true ∧ arePy ds = true := by
      unfold arePy at p
      exact Bool.and_eq_true_iff.mp p
    cases h with
    | cons a b => exact .cons (Rep.dp d _ q.1 a) (Reps.dp ds _ q.2 b)
end
end
inductive View (C : Cells) : D → D → Prop
  | v (d : D) : View C d d
  | c {a : Addr} {ds : List D} : C a = some (.lst ds) → View C (.cell a) (.lst ds)
def shD (d : D) : Bool := d.isPy && SeqAt.shaped d.py
theorem View.dp {K : PySem.W.Frag} {H : Hp} {C : Cells} {d e : D} (w : View C d e) {T : List (Addr × Str)} (c : COk K T H C) (s : shD e = true) {v : V} (r : Rep K (mns H C) v d) : Dp K H v e.py := by
  have p : e.isPy = true ∧ SeqAt.shaped e.py = true := Bool.and_eq_true_iff.mp s
  cases w with
  | v d => exact Rep.dp _ _ p.1 (r.ex up_mns)
  | @c a ds h =>
    cases r with
    | opq v =>
      cases c.ok a _ h with
      | lst h1 h2 => exact Rep.dp (.lst ds) _ p.1 (.lst h1 (h2.ex up_mns))
def flatD : D → Bool
  | .non | .bl _ | .int _ | .str _ => true
  | _ => false
def flV : D → V
  | .non => .non
  | .bl b => .bl b
  | .int i => .int i
  | .str x => .str x
  | _ => .non
theorem flat_rep {K : PySem.W.Frag} {H : Hp} {d : D} {v : V} (f : flatD d = true) (r : Rep K H v d) : v = flV d ∧ flatV v = true := by
  cases r <;> first | exact ⟨rfl, rfl⟩ | cases f
theorem flat_reps {K : PySem.W.Frag} {H : Hp} : ∀ {ds : List D} {vs : List V}, ds.all flatD = true → Reps K H vs ds → vs = ds.map flV ∧ vs.all flatV = true
  | [], _, _, .nil => ⟨rfl, rfl⟩
  | d :: ds, _, f, .cons r t => by
    have p : flatD d = true ∧ ds.all flatD = true := by
      rw [List.all_cons] at f
      exact Bool.and_eq_true_iff.mp f
    obtain ⟨e1, f1⟩ := flat_rep p.1 r
    obtain ⟨e2, f2⟩ := flat_reps p.2 t
    refine ⟨by rw [e1, e2, List.map_cons], ?_⟩
    rw [List.all_cons, f1, f2]
    rfl
def inD (d : D) (ds : List D) : Bool := inV (flV d) (ds.map flV)
section
variable {Z : Zx} {σ : Sl} {C : Cells} {pos : Pos} {a b : Expr}
inductive CmpR (Z : Zx) (C : Cells) : CmpOp → D → D → Bool → Prop
  | lt (i j : Int) : CmpR Z C .Lt (.int i) (.int j) (decide (i < j))
  | le (i j : Int) : CmpR Z C .LtE (.int i) (.int j) (decide (i ≤ j))
  | gt (i j : Int) : CmpR Z C .Gt (.int i) (.int j) (decide (j < i))
  | ge (i j : Int) : CmpR Z C .GtE (.int i) (.int j) (decide (j ≤ i))
  | eqI (i j : Int) : CmpR Z C .Eq (.int i) (.int j) (decide (i = j))
  | neI (i j : Int) : CmpR Z C .NotEq (.int i) (.int j) (!decide (i = j))
  | eqS (i j : Str) : CmpR Z C .Eq (.str i) (.str j) (decide (i = j))
  | neS (i j : Str) : CmpR Z C .NotEq (.str i) (.str j) (!decide (i = j))
  | eqB (i j : Bool) : CmpR Z C .Eq (.bl i) (.bl j) (decide (i = j))
  | neB (i j : Bool) : CmpR Z C .NotEq (.bl i) (.bl j) (!decide (i = j))
  | eqD {x y x' y' : D} : View C x x' → View C y y' → shD x' = true → shD y' = true → Z.X.A.units + 64 < cLine → CmpR Z C .Eq x y (PyData.eqv x'.py y'.py)
  | neD {x y x' y' : D} : View C x x' → View C y y' → shD x' = true → shD y' = true → Z.X.A.units + 64 < cLine → CmpR Z C .NotEq x y (!PyData.eqv x'.py y'.py)
  | isN : CmpR Z C .Is .non .non true
  | isNo {x : D} : (match x with | .non => False | .opq _ => False | _ => True) → CmpR Z C .Is x .non false
  | ntN : CmpR Z C .IsNot .non .non false
  | ntNo {x : D} : (match x with | .non => False | .opq _ => False | _ => True) → CmpR Z C .IsNot x .non true
  | isC {x : Addr} : CmpR Z C .Is (.cell x) .non false
  | ntC {x : Addr} : CmpR Z C .IsNot (.cell x) .non true
  | inSeq {x y : D} {ds : List D} : SeqIn C y ds → flatD x = true → ds.all flatD = true → CmpR Z C .In x y (inD x ds)
  | niSeq {x y : D} {ds : List D} : SeqIn C y ds → flatD x = true → ds.all flatD = true → CmpR Z C .NotIn x y (!inD x ds)
  | inSign (c : Nat) (z : Str) : CmpR Z C .In (.str ⟨#[c]⟩) (.str z) (decide (c ∈ z.cps.toList))
  | niSign (c : Nat) (z : Str) : CmpR Z C .NotIn (.str ⟨#[c]⟩) (.str z) (!decide (c ∈ z.cps.toList))
theorem dI {i j : Int} : decide (V.int i = V.int j) = decide (i = j) := decide_eq_decide.mpr ⟨V.int.inj, congrArg _⟩
theorem dS {i j : Str} : decide (V.str i = V.str j) = decide (i = j) := decide_eq_decide.mpr ⟨V.str.inj, congrArg _⟩
theorem dB {i j : Bool} : decide (V.bl i = V.bl j) = decide (i = j) := decide_eq_decide.mpr ⟨V.bl.inj, congrArg _⟩
theorem cmpR {op : CmpOp} {x y : D} {k : Bool} (h : CmpR Z C op x y k) : GoesB Z (compareOp op) C x y (.bl k) := by
  cases h with
  | lt i j => exact .old fun H v u Q c r1 r2 => by cases r1; cases r2; exact ⟨_, .bl _, fun q => rB_of op_lt ⟨i, j, rfl, rfl, q⟩⟩
  | le i j => exact .old fun H v u Q c r1 r2 => by cases r1; cases r2; exact ⟨_, .bl _, fun q => rB_of op_le ⟨i, j, rfl, rfl, q⟩⟩
  | gt i j => exact .old fun H v u Q c r1 r2 => by cases r1; cases r2; exact ⟨_, .bl _, fun q => rB_of op_gt ⟨i, j, rfl, rfl, q⟩⟩
  | ge i j => exact .old fun H v u Q c r1 r2 => by cases r1; cases r2; exact ⟨_, .bl _, fun q => rB_of op_ge ⟨i, j, rfl, rfl, q⟩⟩
  | eqI i j => exact .old fun H v u Q c r1 r2 => by cases r1; cases r2; exact ⟨_, .bl _, fun q => rB_of op_eq ⟨rfl, by rw [dI]; exact q⟩⟩
  | neI i j => exact .old fun H v u Q c r1 r2 => by cases r1; cases r2; exact ⟨_, .bl _, fun q => rB_of op_ne ⟨rfl, by rw [dI]; exact q⟩⟩
  | eqS i j => exact .old fun H v u Q c r1 r2 => by cases r1; cases r2; exact ⟨_, .bl _, fun q => rB_of op_eq ⟨rfl, by rw [dS]; exact q⟩⟩
  | neS i j => exact .old fun H v u Q c r1 r2 => by cases r1; cases r2; exact ⟨_, .bl _, fun q => rB_of op_ne ⟨rfl, by rw [dS]; exact q⟩⟩
  | eqB i j => exact .old fun H v u Q c r1 r2 => by cases r1; cases r2; exact ⟨_, .bl _, fun q => rB_of op_eq ⟨rfl, by rw [dB]; exact q⟩⟩
  | neB i j => exact .old fun H v u Q c r1 r2 => by cases r1; cases r2; exact ⟨_, .bl _, fun q => rB_of op_ne ⟨rfl, by rw [dB]; exact q⟩⟩
  | eqD w1 w2 s1 s2 hu => exact .old fun H v u Q c r1 r2 => ⟨_, .bl _, fun q => rB_of (op_eqD hu) ⟨_, _, w1.dp c s1 r1, w2.dp c s2 r2, (Bool.and_eq_true_iff.mp s1).2, (Bool.and_eq_true_iff.mp s2).2, q⟩⟩
  | neD w1 w2 s1 s2 hu => exact .old fun H v u Q c r1 r2 => ⟨_, .bl _, fun q => rB_of (op_neD hu) ⟨_, _, w1.dp c s1 r1, w2.dp c s2 r2, (Bool.and_eq_true_iff.mp s1).2, (Bool.and_eq_true_iff.mp s2).2, q⟩⟩
  | isN => exact .old fun H v u Q c r1 r2 => by cases r1; cases r2; exact ⟨_, .bl _, fun q => rB_of op_isN ⟨rfl, q⟩⟩
  | isNo hx =>
      refine .old fun H v u Q c r1 r2 => ?_
      cases r2
      refine ⟨_, .bl _, fun q => rB_of op_isN ⟨rfl, ?_⟩⟩
      cases r1 <;> first | exact q | exact hx.elim
  | ntN => exact .old fun H v u Q c r1 r2 => by cases r1; cases r2; exact ⟨_, .bl _, fun q => rB_of op_notN ⟨rfl, q⟩⟩
  | ntNo hx =>
      refine .old fun H v u Q c r1 r2 => ?_
      cases r2
      refine ⟨_, .bl _, fun q => rB_of op_notN ⟨rfl, ?_⟩⟩
      cases r1 <;> first | exact q | exact hx.elim
  | isC => exact .old fun H v u Q c r1 r2 => by cases r1; cases r2; exact ⟨_, .bl _, fun q => rB_of op_isN ⟨rfl, q⟩⟩
  | ntC => exact .old fun H v u Q c r1 r2 => by cases r1; cases r2; exact ⟨_, .bl _, fun q => rB_of op_notN ⟨rfl, q⟩⟩
  | inSeq l f1 f2 =>
      refine .old fun H v u Q c r1 r2 => ?_
      obtain ⟨p, vs, rfl, h1, h2⟩ := l.rd c r2
      obtain ⟨e1, g1⟩ := flat_rep f1 r1
      obtain ⟨e2, g2⟩ := flat_reps f2 h2
      subst e1 e2
      exact ⟨_, .bl _, fun q => rB_of op_in_seq ⟨_, _, rfl, h1, g1, g2, q⟩⟩
  | niSeq l f1 f2 =>
      refine .old fun H v u Q c r1 r2 => ?_
      obtain ⟨p, vs, rfl, h1, h2⟩ := l.rd c r2
      obtain ⟨e1, g1⟩ := flat_rep f1 r1
      obtain ⟨e2, g2⟩ := flat_reps f2 h2
      subst e1 e2
      exact ⟨_, .bl _, fun q => rB_of op_notIn_seq ⟨_, _, rfl, h1, g1, g2, q⟩⟩
  | inSign c z => exact .old fun H v u Q c' r1 r2 => by cases r1; cases r2; exact ⟨_, .bl _, fun q => rB_of op_in_sign ⟨_, _, rfl, rfl, q⟩⟩
  | niSign c z => exact .old fun H v u Q c' r1 r2 => by cases r1; cases r2; exact ⟨_, .bl _, fun q => rB_of op_notIn_sign ⟨_, _, rfl, rfl, q⟩⟩
theorem we_cmp {op : CmpOp} {Q : D → Cells → Prop} (h : WE Z a σ C fun x C1 => WE Z b σ C1 fun y C2 => ∃ k, CmpR Z C2 op x y k ∧ Q (.bl k) C2) (hm : behindInMarks op b = false := by first | exact nomark _ | rfl) : WE Z (.Compare a [op] [b] pos) σ C Q :=
  goesB_we (r := fun r => tOp r (tE Z.X a) (tE Z.X b)) (pe_cmpR rB_op pe_self pe_self hm) (h.mono fun x C1 h1 => h1.mono fun y C2 ⟨k, g, q⟩ => ⟨.bl k, cmpR g, q⟩)
theorem wt_cmp {op : CmpOp} {Q : Bool → Cells → Prop} (h : WE Z a σ C fun x C1 => WE Z b σ C1 fun y C2 => ∃ k, CmpR Z C2 op x y k ∧ Q k C2) (hm : behindInMarks op b = false := by first | exact nomark _ | rfl) : WT Z (.Compare a [op] [b] pos) σ C Q := fun σV H st =>
  tT_of (pt_cmpR rB_op pe_self pe_self hm) (tE_mono (seq2 h st) fun v H1 q1 => tE_mono q1 fun u H2 ⟨x, y, C2, e2, st2, r1, r2, k, g, q⟩ => cmpR g H2 σV σ v u _ st2 r1 r2 fun w H3 e3 st3 r3 => ⟨k, rep_bl r3, C2, e2.trans e3, st3, q⟩)
inductive TruD (C : Cells) : D → Bool → Prop
  | non : TruD C .non false
  | bl (b : Bool) : TruD C (.bl b) b
  | int (i : Int) : TruD C (.int i) (i != 0)
  | str (x : Str) : x.length ≤ sizeLine → TruD C (.str x) ((x.length : Int) != 0)
  | seq {d : D} {ds : List D} : SeqIn C d ds → TruD C d (!ds.isEmpty)
theorem TruD.v {K : PySem.W.Frag} {H : Hp} {d : D} {k : Bool} (t : TruD C d k) {T : List (Addr × Str)} (c : COk K T H C) {v : V} (r : Rep K (mns H C) v d) : TruV K v H k := by
  cases t with
  | non => cases r; rfl
  | bl b => cases r; rfl
  | int i => cases r; rfl
  | str x h => cases r; exact ⟨h, rfl⟩
  | @seq _ ds l =>
    obtain ⟨p, vs, rfl, h1, h2⟩ := l.rd c r
    have e : (!ds.isEmpty) = !vs.isEmpty := by cases h2 <;> rfl
    rw [e]
    rcases h1 with h1 | h1
    · exact .inl ⟨vs, h1, rfl⟩
    · exact .inr (.inl ⟨vs, h1, rfl⟩)
theorem wt_tru {e : Expr} {Q : Bool → Cells → Prop} (h : WE Z e σ C fun d C1 => ∃ k, TruD C1 d k ∧ Q k C1) (he : ∀ whole, isTrue e Z.X.env whole = (do let v ← whole; standAt e.pos; holding [v] (truthy v)) := by intro _; rfl) : WT Z e σ C Q := fun σV H st =>
  tT_of (pt_truth pe_self he) (tE_mono (h σV H st) fun v H1 ⟨d, C1, e1, st1, r1, k, t, q⟩ => ⟨k, t.v st1.c r1, C1, e1, st1, q⟩)
def tW (X : Cx) (e : Expr) : TT := fun σ H Q => ∀ (whole : Sem Value) pins s, Inv X pins σ H s → wpAny (model X.prog X.w) X.A (isTrue e X.env whole) (TP X pins σ Q) X.xe s
theorem pw_self {X : Cx} {e : Expr} : PW X e (tW X e) := ⟨fun wh pins s _ _ _ I h => h wh pins s I⟩
theorem tW_of {X : Cx} {e : Expr} {t : TT} (h : PW X e t) {σ : L2.St} {H : Hp} {Q : Bool → Hp → Prop} (q : t σ H Q) : tW X e σ H Q := fun wh pins s I => h.run wh pins s σ H Q I q
theorem tW_mono {X : Cx} {e : Expr} {σ : L2.St} {H : Hp} {Q Q' : Bool → Hp → Prop} (h : tW X e σ H Q) (k : ∀ v H', Q v H' → Q' v H') : tW X e σ H Q' := fun wh pins s I => thn (h wh pins s I) fun u s' ⟨H', I', q⟩ => ⟨H', I', k _ H' q⟩
def WW (Z : Zx) (e : Expr) (σ : Sl) (C : Cells) (Q : Bool → Cells → Prop) : Prop := ∀ σV H, StR Z H σV C σ → tW Z.X e σV H (PostT Z H σV C σ Q)
theorem WW.mono {e : Expr} {Q Q' : Bool → Cells → Prop} (h : WW Z e σ C Q) (k : ∀ d C', Q d C' → Q' d C') : WW Z e σ C Q' := fun σV H st => tW_mono (h σV H st) fun v H' ⟨C', a, b, q⟩ => ⟨C', a, b, k _ C' q⟩
theorem wt_w {e : Expr} {Q : Bool → Cells → Prop} (h : WW Z e σ C Q) : WT Z e σ C Q := fun σV H st => tT_of pw_self.pt (h σV H st)
theorem PostT.trans {H H1 : Hp} {σV : L2.St} {C C1 : Cells} {Q : Bool → Cells → Prop} {k : Bool} (e : Ex (mns H C) (mns H1 C1)) {H2 : Hp} (h : PostT Z H1 σV C1 σ Q k H2) : PostT Z H σV C σ Q k H2 := by
  obtain ⟨C2, e2, st2, q⟩ := h
  exact ⟨C2, e.trans e2, st2, q⟩
theorem PostE.trans {H H1 : Hp} {σV : L2.St} {C C1 : Cells} {Q : D → Cells → Prop} {v : V} (e : Ex (mns H C) (mns H1 C1)) {H2 : Hp} (h : PostE Z H1 σV C1 σ Q v H2) : PostE Z H σV C σ Q v H2 := by
  obtain ⟨d, C2, e2, st2, r, q⟩ := h
  exact ⟨d, C2, e.trans e2, st2, r, q⟩
variable {rest : List Expr}
theorem ww_and1 {Q : Bool → Cells → Prop} (h : WT Z a σ C Q) : WW Z (.BoolOp .And [a] pos) σ C Q := fun σV H st => tW_of (pw_and1 pt_self) (h σV H st)
theorem ww_or1 {Q : Bool → Cells → Prop} (h : WT Z a σ C Q) : WW Z (.BoolOp .Or [a] pos) σ C Q := fun σV H st => tW_of (pw_or1 pt_self) (h σV H st)
theorem ww_and {Q : Bool → Cells → Prop} (h : WT Z a σ C fun k C1 => (k = true → WW Z (.BoolOp .And (b :: rest) pos) σ C1 Q) ∧ (k = false → Q false C1)) : WW Z (.BoolOp .And (a :: b :: rest) pos) σ C Q := fun σV H st =>
  tW_of (pw_and pt_self pw_self) (tT_mono (h σV H st) fun k H1 ⟨C1, e1, st1, q1, q2⟩ => by
    cases k with
    | true => exact tW_mono (q1 rfl σV H1 st1) fun k H2 q => q.trans e1
    | false => exact ⟨C1, e1, st1, q2 rfl⟩)
theorem ww_or {Q : Bool → Cells → Prop} (h : WT Z a σ C fun k C1 => (k = true → Q true C1) ∧ (k = false → WW Z (.BoolOp .Or (b :: rest) pos) σ C1 Q)) : WW Z (.BoolOp .Or (a :: b :: rest) pos) σ C Q := fun σV H st =>
  tW_of (pw_or pt_self pw_self) (tT_mono (h σV H st) fun k H1 ⟨C1, e1, st1, q1, q2⟩ => by
    cases k with
    | false => exact tW_mono (q2 rfl σV H1 st1) fun k H2 q => q.trans e1
    | true => exact ⟨C1, e1, st1, q1 rfl⟩)
theorem wt_not {Q : Bool → Cells → Prop} (h : WT Z a σ C fun k C1 => Q (!k) C1) : WT Z (.UnaryOp .Not a pos) σ C Q := fun σV H st =>
  tT_of (pt_not pt_self) (tT_mono (h σV H st) fun k H1 ⟨C1, e1, st1, q1⟩ => ⟨C1, e1, st1, q1⟩)
theorem we_one {op : BoolOp} {Q : D → Cells → Prop} (h : WE Z a σ C Q) : WE Z (.BoolOp op [a] pos) σ C Q := fun σV H st => tE_of (pe_one pe_self) (h σV H st)
theorem we_and {Q : D → Cells → Prop} (h : WE Z a σ C fun x C1 => ∃ k, x = .bl k ∧ (k = true → WE Z (.BoolOp .And (b :: rest) pos) σ C1 Q) ∧ (k = false → Q (.bl false) C1)) : WE Z (.BoolOp .And (a :: b :: rest) pos) σ C Q := fun σV H st =>
  tE_of (pe_and pe_self pe_self) (tE_mono (h σV H st) fun v H1 ⟨d, C1, e1, st1, r, k, ek, q1, q2⟩ => by
    subst ek
    cases r
    refine ⟨k, rfl, ?_⟩
    cases k with
    | true => exact tE_mono (q1 rfl σV H1 st1) fun k H2 q => q.trans e1
    | false => exact ⟨.bl false, C1, e1, st1, .bl _, q2 rfl⟩)
theorem we_or {Q : D → Cells → Prop} (h : WE Z a σ C fun x C1 => ∃ k, x = .bl k ∧ (k = true → Q (.bl true) C1) ∧ (k = false → WE Z (.BoolOp .Or (b :: rest) pos) σ C1 Q)) : WE Z (.BoolOp .Or (a :: b :: rest) pos) σ C Q := fun σV H st =>
  tE_of (pe_or pe_self pe_self) (tE_mono (h σV H st) fun v H1 ⟨d, C1, e1, st1, r, k, ek, q1, q2⟩ => by
    subst ek
    cases r
    refine ⟨k, rfl, ?_⟩
    cases k with
    | false => exact tE_mono (q2 rfl σV H1 st1) fun k H2 q => q.trans e1
    | true => exact ⟨.bl true, C1, e1, st1, .bl _, q1 rfl⟩)
theorem we_not {Q : D → Cells → Prop} (h : WE Z a σ C fun x C1 => ∃ k, x = .bl k ∧ Q (.bl (!k)) C1) : WE Z (.UnaryOp .Not a pos) σ C Q := fun σV H st =>
  tE_of (pe_not pe_self) (tE_mono (h σV H st) fun v H1 ⟨d, C1, e1, st1, r, k, ek, q⟩ => by
    subst ek
    cases r
    exact ⟨k, rfl, _, C1, e1, st1, .bl _, q⟩)
theorem we_if {c : Expr} {Q : D → Cells → Prop} (h : WT Z c σ C fun k C1 => (k = true → WE Z a σ C1 Q) ∧ (k = false → WE Z b σ C1 Q)) : WE Z (.IfExp c a b pos) σ C Q := fun σV H st =>
  tE_of (pe_ifExp pt_self pe_self pe_self) (tT_mono (h σV H st) fun k H1 ⟨C1, e1, st1, q1, q2⟩ => by
    cases k with
    | true => exact tE_mono (q1 rfl σV H1 st1) fun k H2 q => q.trans e1
    | false => exact tE_mono (q2 rfl σV H1 st1) fun k H2 q => q.trans e1)
theorem we_neg {Q : D → Cells → Prop} (h : WE Z a σ C fun x C1 => ∃ i, x = .int i ∧ Q (.int (-i)) C1) : WE Z (.UnaryOp .USub a pos) σ C Q := fun σV H st =>
  tE_of (pe_un un_neg pe_self) (tE_mono (h σV H st) fun v H1 ⟨d, C1, e1, st1, r, i, ei, q⟩ => by
    subst ei
    cases r
    exact ⟨i, rfl, _, C1, e1, st1, .int _, q⟩)
end
end DW
set_option Elab.async false
set_option linter.all false
set_option maxRecDepth 100000
set_option maxHeartbeats 2000000
namespace DW
open PySem PySem.Spec PyProof.Rows L2 Evl
section
variable {Z : Zx} {σ : Sl} {C : Cells} {pos : Pos} {a b e : Expr} {es : List Expr}
theorem wa_nil {Q : List D → Cells → Prop} (q : Q [] C) : WA Z [] σ C Q := fun σV H st => tA_of pa_nil ⟨[], C, Ex.refl _, st, .nil, q⟩
theorem wa_cons {Q : List D → Cells → Prop} (h : WE Z e σ C fun d C1 => WA Z es σ C1 fun ds C2 => Q (d :: ds) C2) (hs : starEach (e :: es) Z.X.env = (false, eval e Z.X.env) :: starEach es Z.X.env := by rfl) : WA Z (e :: es) σ C Q := fun σV H st =>
  tA_of (pa_cons pe_self pa_self hs) (tE_mono (h σV H st) fun v H1 ⟨d, C1, e1, st1, r1, w1⟩ => tA_mono (w1 σV H1 st1) fun vs H2 ⟨ds, C2, e2, st2, r2, q⟩ => ⟨d :: ds, C2, e1.trans e2, st2, .cons (r1.ex e2) r2, q⟩)
theorem we_tup {x1 : Nat} {Q : D → Cells → Prop} (h : WA Z es σ C fun ds C1 => ds.length ≤ sizeLine ∧ Q (.tup ds) C1) : WE Z (.Tuple es x1 pos) σ C Q := fun σV H st =>
  tE_of (pe_tup pa_self) (tA_mono (h σV H st) fun vs H1 ⟨ds, C1, e1, st1, r1, hz, q⟩ => ⟨by rw [r1.length]; exact hz, fun p hp => by
    obtain ⟨c, e2, n⟩ := st1.new (o := .tup vs) hp
    exact ⟨.tup ds, C1, e1.trans e2, st1.ex c e2, .tup (SqT.of n) (r1.ex e2), q⟩⟩)
theorem we_lst {Q : D → Cells → Prop} (h : WA Z es σ C fun ds C1 => ds.length ≤ sizeLine ∧ Q (.lst ds) C1) : WE Z (.List es pos) σ C Q := fun σV H st =>
  tE_of (pe_lst pa_self) (tA_mono (h σV H st) fun vs H1 ⟨ds, C1, e1, st1, r1, hz, q⟩ => ⟨by rw [r1.length]; exact hz, fun p hp => by
    obtain ⟨c, e2, n⟩ := st1.new (o := .lst vs) hp
    exact ⟨.lst ds, C1, e1.trans e2, st1.ex c e2, .lst n (r1.ex e2), q⟩⟩)
theorem we_lstC {Q : D → Cells → Prop} (h : WA Z es σ C fun ds C1 => ds.length ≤ sizeLine ∧ ∀ p, C1 p = none → Q (.cell p) (setC C1 p (.lst ds))) : WE Z (.List es pos) σ C Q := fun σV H st =>
  tE_of (pe_lst pa_self) (tA_mono (h σV H st) fun vs H1 ⟨ds, C1, e1, st1, r1, hz, q⟩ => ⟨by rw [r1.length]; exact hz, fun p hp => by
    obtain ⟨c, e2⟩ := st1.cell (a := p) (c := .lst ds) (o := .lst vs) hp (.lst upd_same r1)
    exact ⟨.cell p, _, e1.trans e2, st1.ex c e2, .opq _, q p (st1.c.fresh hp)⟩⟩)
theorem we_nil {Q : D → Cells → Prop} (q : Q (.lst []) C) : WE Z (.List [] pos) σ C Q := we_lst (wa_nil ⟨by show 0 ≤ sizeLine; decide, q⟩)
theorem we_nilC {Q : D → Cells → Prop} (q : ∀ p, C p = none → Q (.cell p) (setC C p (.lst []))) : WE Z (.List [] pos) σ C Q := we_lstC (wa_nil ⟨by show 0 ≤ sizeLine; decide, q⟩)
inductive IxR' (C : Cells) : D → D → D → Prop
  | seq {x : D} {ds : List D} {i : Int} {d : D} : SeqIn C x ds → atI ds i = some d → IxR' C x (.int i) d
  | str {z : Str} {i : Int} {c : Nat} : z.length ≤ sizeLine → atI z.cps.toList i = some c → IxR' C (.str z) (.int i) (.str ⟨#[c]⟩)
theorem atI_reps {K : PySem.W.Frag} {G : Hp} {vs : List V} {ds : List D} (r : Reps K G vs ds) {i : Int} {d : D} (h : atI ds i = some d) : ∃ v, atI vs i = some v ∧ Rep K G v d := by
  unfold atI at h ⊢
  rw [r.length]
  cases q : ixN ds.length i with
  | none => rw [q] at h; cases h
  | some j =>
    rw [q] at h
    exact r.get h
def rIxf (X : Cx) : R2 := fun x y H Q => ∀ (value slice : Expr) pins s σ v u, Inv X pins σ H s → RelV x v → RelV y u → subscripted slice false v u = operate [v, u] (getItem v u) → wpAny (model X.prog X.w) X.A (subscriptTail value slice v u) (EP X pins σ Q) X.xe s
theorem rIxf_ok {X : Cx} : IxR X (rIxf X) := fun value slice pins s σ H x y v u Q I r1 r2 h hs => h value slice pins s σ v u I r1 r2 hs
theorem rIxf_of {X : Cx} {r : R2} (h : IxR X r) {x y : V} {H : Hp} {Q : VK} (q : r x y H Q) : rIxf X x y H Q := fun value slice pins s σ v u I r1 r2 hs => h value slice pins s σ H x y v u Q I r1 r2 q hs
theorem we_ix {Q : D → Cells → Prop} (h : WE Z a σ C fun x C1 => WE Z b σ C1 fun y C2 => ∃ z, IxR' C2 x y z ∧ Q z C2) (hs : PlainIx b := by exact fun _ _ => rfl) : WE Z (.Subscript a b pos) σ C Q := fun σV H st =>
  tE_of (pe_ix rIxf_ok pe_self pe_self hs) (tE_mono (seq2 h st) fun v H1 q1 => tE_mono q1 fun u H2 ⟨x, y, C2, e2, st2, r1, r2, z, g, q⟩ => by
    cases g with
    | @seq _ ds i _ l ha =>
      obtain ⟨p, vs, rfl, h1, h2⟩ := l.rd st2.c r1
      obtain ⟨w, hw, rw⟩ := atI_reps h2 ha
      cases r2
      have fin : PostE Z H σV C σ Q w H2 := ⟨z, C2, e2, st2, rw, q⟩
      rcases h1 with h1 | h1
      · exact rIxf_of ix_list ⟨_, _, _, _, rfl, rfl, h1, hw, fin⟩
      · exact rIxf_of ix_tup ⟨_, _, _, _, rfl, rfl, h1, hw, fin⟩
    | @str w i c hz ha =>
      cases r1
      cases r2
      exact rIxf_of ix_str ⟨_, _, _, rfl, rfl, hz, ha, _, C2, e2, st2, .str _, q⟩)
def cutD (xs : List D) (lo hi : Option Int) : List D := (xs.drop (HT.sIx xs.length 0 lo)).take (HT.sIx xs.length xs.length hi - HT.sIx xs.length 0 lo)
theorem cut_reps {K : PySem.W.Frag} {G : Hp} {vs : List V} {ds : List D} (r : Reps K G vs ds) (lo hi : Option Int) : Reps K G (cutV vs lo hi) (cutD ds lo hi) := by
  unfold cutV cutD
  rw [r.length]
  exact (r.drop _).take _
inductive SlcR (C : Cells) : D → Option Int → Option Int → D → Prop
  | lst {x : D} {ds : List D} (lo hi : Option Int) : LstIn C x ds → SlcR C x lo hi (.lst (cutD ds lo hi))
  | rol (ds : List D) (lo hi : Option Int) : SlcR C (.rol ds) lo hi (.lst (cutD ds lo hi))
  | tup (ds : List D) (lo hi : Option Int) : SlcR C (.tup ds) lo hi (.tup (cutD ds lo hi))
  | str (z : Str) (lo hi : Option Int) : z.length ≤ sizeLine → SlcR C (.str z) lo hi (.str (cutS z lo hi))
def PostO (Z : Zx) (H : Hp) (σV : L2.St) (C : Cells) (σ : Sl) (Q : Option Int → Cells → Prop) : Option Int → Hp → Prop := fun o H' => ∃ C', Ex (mns H C) (mns H' C') ∧ StR Z H' σV C' σ ∧ Q o C'
def WO (Z : Zx) (e : Option Expr) (σ : Sl) (C : Cells) (Q : Option Int → Cells → Prop) : Prop := match e with
  | none => Q none C
  | some e => WE Z e σ C fun d C1 => ∃ i, d = .int i ∧ Q (some i) C1
def tO (X : Cx) : Option Expr → TO
  | none => tNoPart
  | some e => tPart (tE X e)
theorem po_self {X : Cx} : ∀ {e : Option Expr}, PO X e (tO X e)
  | none => po_none
  | some e => po_some pe_self
theorem wo_run {o : Option Expr} {Q : Option Int → Cells → Prop} (h : WO Z o σ C Q) {σV : L2.St} {H : Hp} (st : StR Z H σV C σ) : tO Z.X o σV H (PostO Z H σV C σ Q) := by
  cases o with
  | none => exact ⟨C, Ex.refl _, st, h⟩
  | some e =>
    refine tE_mono (h σV H st) fun v H1 ⟨d, C1, e1, st1, r1, i, ei, q⟩ => ?_
    subst ei
    cases r1
    exact ⟨i, rfl, C1, e1, st1, q⟩
def rSlf (X : Cx) : V → Option Int → Option Int → Hp → VK → Prop := fun x lo hi H Q => ∀ pins s σ v vl vu sl, Inv X pins σ H s → RelV x v → s.heap.IsSliceOf sl vl vu .none → IsPart vl lo → IsPart vu hi →
    ∃ T id, typeLookup (.type T) "__getitem__" = pure (some (.builtin id)) ∧ s.TypeIs v T ∧ wpAny (model X.prog X.w) X.A (getItem v (.ref sl)) (EP X pins σ Q) X.xe s
theorem rSlf_ok {X : Cx} : L2.SlR X (rSlf X) := fun pins s σ H x v vl vu lo hi sl Q I r1 h1 h2 h3 h => h pins s σ v vl vu sl I r1 h1 h2 h3
theorem rSlf_of {X : Cx} {r : V → Option Int → Option Int → Hp → VK → Prop} (h : L2.SlR X r) {x : V} {lo hi : Option Int} {H : Hp} {Q : VK} (q : r x lo hi H Q) : rSlf X x lo hi H Q := fun pins s σ v vl vu sl I r1 h1 h2 h3 => h pins s σ H x v vl vu lo hi sl Q I r1 h1 h2 h3 q
theorem we_slice {lo hi : Option Expr} {p2 : Pos} {Q : D → Cells → Prop} (h : WE Z a σ C fun x C1 => WO Z lo σ C1 fun l C2 => WO Z hi σ C2 fun u C3 => ∃ z, SlcR C3 x l u z ∧ Q z C3) : WE Z (.Subscript a (.Slice lo hi none p2) pos) σ C Q := by
  intro σV H st
  refine tE_of (pe_slice rSlf_ok pe_self po_self po_self) (tE_mono (h σV H st) fun v H1 ⟨x, C1, e1, st1, r1, w1⟩ => ?_)
  have g1 := wo_run w1 st1
  have mono : ∀ {o : Option Expr} {σ0 : L2.St} {H0 : Hp} {P P' : Option Int → Hp → Prop}, tO Z.X o σ0 H0 P → (∀ x y, P x y → P' x y) → tO Z.X o σ0 H0 P' := fun {o σ0 H0 P P'} h k => by
    cases o with
    | none => exact k _ _ h
    | some e => exact tE_mono h fun v H' ⟨i, e, q⟩ => ⟨i, e, k _ _ q⟩
  refine mono g1 fun l H2 ⟨C2, e2, st2, w2⟩ => ?_
  refine mono (wo_run w2 st2) fun u H3 ⟨C3, e3, st3, z, g, q⟩ => ?_
  have r3 := r1.ex (e2.trans e3)
  have e0 := (e1.trans e2).trans e3
  have mk : ∀ {vs : List V} {ds : List D}, Reps Z.X.K (mns H3 C3) vs ds → Q (.lst (cutD ds l u)) C3 → ∀ p, H3 p = none → PostE Z H σV C σ Q (.ref p) (upd H3 p (.lst (cutV vs l u))) := fun {vs ds} h2 q p hp => by
    obtain ⟨c, e4, n⟩ := st3.new (o := .lst (cutV vs l u)) hp
    exact ⟨_, C3, e0.trans e4, st3.ex c e4, .lst n ((cut_reps h2 l u).ex e4), q⟩
  cases g with
  | @lst _ ds _ _ li =>
    obtain ⟨p, vs, rfl, h1, h2⟩ := li.rd st3.c r3
    exact rSlf_of sl_list ⟨_, _, rfl, SqL.of h1, mk h2 q⟩
  | rol ds =>
    cases r3 with
    | rol h1 h2 => exact rSlf_of sl_list ⟨_, _, rfl, ex_l up_mns h1, mk h2 q⟩
  | tup ds =>
    have r3' := r3
    obtain ⟨p, vs, rfl, g3, h1, h2⟩ := tup_rd r3
    refine rSlf_of sl_tupA ⟨_, _, rfl, h1, fun ⟨k1, k2⟩ => ?_, fun _ p hp => ?_⟩
    · have e : cutD ds l u = ds := by
        unfold cutD
        rw [h2.length] at k1 k2
        rw [k1, k2, List.drop_zero, Nat.sub_zero, List.take_length]
      exact ⟨_, C3, e0, st3, r3', by rw [← e]; exact q⟩
    · obtain ⟨c, e4, n⟩ := st3.new (o := .tup (cutV vs l u)) hp
      exact ⟨_, C3, e0.trans e4, st3.ex c e4, .tup (SqT.of n) ((cut_reps h2 l u).ex e4), q⟩
  | str w _ _ hz =>
    cases r3
    exact rSlf_of sl_str ⟨_, rfl, hz, _, C3, e0, st3, .str _, q⟩
def rC (X : Cx) (f : Value) : List V → Hp → VK → Prop := fun xs H Q => ∀ pins s σ us, Inv X pins σ H s → Vals xs us → wpAny (model X.prog X.w) X.A (call f us) (EP X pins σ Q) X.xe s
theorem rC_ok {X : Cx} {f : Value} : CallR X f (rC X f) := fun pins s σ H xs us Q I r h => h pins s σ us I r
theorem rC_of {X : Cx} {f : Value} {r : List V → Hp → VK → Prop} (h : CallR X f r) {xs : List V} {H : Hp} {Q : VK} (q : r xs H Q) : rC X f xs H Q := fun pins s σ us I r => h pins s σ H xs us Q I r q
def GoesC (Z : Zx) (f : Value) (C : Cells) (ds : List D) (z : D) : Prop := ∀ (H : Hp) (σV : L2.St) (σ : Sl) (vs : List V) (Q : VK), StR Z H σV C σ → Reps Z.X.K (mns H C) vs ds →
  (∀ w H', Ex (mns H C) (mns H' C) → StR Z H' σV C σ → Rep Z.X.K (mns H' C) w z → Q w H') → rC Z.X f vs H Q
theorem GoesC.old {f : Value} {ds : List D} {z : D} (h : ∀ (H : Hp) (vs : List V) (Q : VK), COk Z.X.K Z.tt H C → Reps Z.X.K (mns H C) vs ds → ∃ w, Rep Z.X.K (mns H C) w z ∧ (Q w H → rC Z.X f vs H Q)) : GoesC Z f C ds z := fun H σV σ vs Q st r1 k => by
  obtain ⟨w, h1, h2⟩ := h H vs Q st.c r1
  exact h2 (k w H (Ex.refl _) st h1)
theorem GoesC.new {f : Value} {ds : List D} {z : D} (h : ∀ (H : Hp) (vs : List V) (Q : VK), COk Z.X.K Z.tt H C → Reps Z.X.K (mns H C) vs ds →
    ∃ o, (∀ ps, o ≠ .tbl ps) ∧ (∀ p G, G p = some o → Ex (mns H C) G → Rep Z.X.K G (.ref p) z) ∧ ((∀ p, H p = none → Q (.ref p) (upd H p o)) → rC Z.X f vs H Q)) : GoesC Z f C ds z := fun H σV σ vs Q st r1 k => by
  obtain ⟨o, h0, h1, h2⟩ := h H vs Q st.c r1
  refine h2 fun p hp => ?_
  obtain ⟨c, e, n⟩ := st.new (o := o) hp h0
  exact k _ _ e (st.ex c e) (h1 p _ n e)
def FoldInt (ds : List D) (ns : List Int) : Prop := ds = ns.map D.int
theorem reps_ints {K : PySem.W.Frag} {G : Hp} : ∀ {ns : List Int} {vs : List V}, Reps K G vs (ns.map D.int) → vs = ns.map V.int
  | [], _, .nil => rfl
  | n :: ns, _, .cons r t => by
    cases r
    rw [reps_ints t]
    rfl
theorem reps_of_ints {K : PySem.W.Frag} {G : Hp} : ∀ {ns : List Int}, Reps K G (ns.map V.int) (ns.map D.int)
  | [] => .nil
  | n :: ns => .cons (.int n) reps_of_ints
theorem reps_bls {K : PySem.W.Frag} {G : Hp} : ∀ {ns : List Bool} {vs : List V}, Reps K G vs (ns.map D.bl) → vs = ns.map V.bl
  | [], _, .nil => rfl
  | n :: ns, _, .cons r t => by
    cases r
    rw [reps_bls t]
    rfl
theorem reps_strs {K : PySem.W.Frag} {G : Hp} : ∀ {ns : List Str} {vs : List V}, Reps K G vs (ns.map D.str) → vs = ns.map V.str
  | [], _, .nil => rfl
  | n :: ns, _, .cons r t => by
    cases r
    rw [reps_strs t]
    rfl
theorem reps1 {K : PySem.W.Frag} {G : Hp} {vs : List V} {d : D} (r : Reps K G vs [d]) : ∃ v, vs = [v] ∧ Rep K G v d := by
  cases r with
  | cons r t => cases t; exact ⟨_, rfl, r⟩
theorem reps2 {K : PySem.W.Frag} {G : Hp} {vs : List V} {d e : D} (r : Reps K G vs [d, e]) : ∃ v u, vs = [v, u] ∧ Rep K G v d ∧ Rep K G u e := by
  cases r with
  | cons r t =>
    cases t with
    | cons r2 t => cases t; exact ⟨_, _, rfl, r, r2⟩
inductive BltR (Z : Zx) (C : Cells) : Value → List D → D → Prop
  | len {x : D} {ds : List D} : SeqIn C x ds → BltR Z C (.builtin "len") [x] (.int ds.length)
  | lenS (x : Str) : x.length ≤ sizeLine → BltR Z C (.builtin "len") [.str x] (.int x.length)
  | abs (i : Int) : BltR Z C (.builtin "abs") [.int i] (.int (if i < 0 then -i else i))
  | max2 (i j : Int) : Z.X.calm = true → BltR Z C (.builtin "max") [.int i, .int j] (.int (if j > i then j else i))
  | min2 (i j : Int) : Z.X.calm = true → BltR Z C (.builtin "min") [.int i, .int j] (.int (if j < i then j else i))
  | sum {x : D} (ns : List Int) : LstIn C x (ns.map D.int) → Z.X.calm = true → BltR Z C (.builtin "sum") [x] (.int ns.sum)
  | all {x : D} (bs : List Bool) : LstIn C x (bs.map D.bl) → Z.X.calm = true → BltR Z C (.builtin "all") [x] (.bl (bs.all id))
  | any {x : D} (bs : List Bool) : LstIn C x (bs.map D.bl) → Z.X.calm = true → BltR Z C (.builtin "any") [x] (.bl (bs.any id))
  | int (i : Int) : BltR Z C (.type "int") [.int i] (.int i)
  | intB (b : Bool) : BltR Z C (.type "int") [.bl b] (.int (if b then 1 else 0))
  | bool (b : Bool) : BltR Z C (.type "bool") [.bl b] (.bl b)
  | boolI (i : Int) : BltR Z C (.type "bool") [.int i] (.bl (i != 0))
  | str (i : Int) : i.natAbs.log2 < 1920 → BltR Z C (.type "str") [.int i] (.str (toString i))
  | list {x : D} {ds : List D} : SeqIn C x ds → BltR Z C (.type "list") [x] (.lst ds)
  | tuple {x : D} {ds : List D} : LstIn C x ds → BltR Z C (.type "tuple") [x] (.tup ds)
  | tupleT (ds : List D) : BltR Z C (.type "tuple") [.tup ds] (.tup ds)
theorem bltR {f : Value} {ds : List D} {z : D} (h : BltR Z C f ds z) : GoesC Z f C ds z := by
  cases h with
  | len l =>
    refine .old fun H vs Q c r => ?_
    obtain ⟨v, rfl, r1⟩ := reps1 r
    obtain ⟨p, us, rfl, h1, h2⟩ := l.rd c r1
    exact ⟨_, .int _, fun q => rC_of call_len_seq ⟨_, _, rfl, h1, by rw [h2.length]; exact q⟩⟩
  | lenS x hz =>
    refine .old fun H vs Q c r => ?_
    obtain ⟨v, rfl, r1⟩ := reps1 r
    cases r1
    exact ⟨_, .int _, fun q => rC_of call_len_str ⟨_, rfl, hz, q⟩⟩
  | abs i =>
    refine .old fun H vs Q c r => ?_
    obtain ⟨v, rfl, r1⟩ := reps1 r
    cases r1
    exact ⟨_, .int _, fun q => rC_of call_abs ⟨_, rfl, q⟩⟩
  | max2 i j hc =>
    refine .old fun H vs Q c r => ?_
    obtain ⟨v, u, rfl, r1, r2⟩ := reps2 r
    cases r1
    cases r2
    exact ⟨_, .int _, fun q => rC_of (call_max2 hc) ⟨_, _, rfl, q⟩⟩
  | min2 i j hc =>
    refine .old fun H vs Q c r => ?_
    obtain ⟨v, u, rfl, r1, r2⟩ := reps2 r
    cases r1
    cases r2
    exact ⟨_, .int _, fun q => rC_of (call_min2 hc) ⟨_, _, rfl, q⟩⟩
  | sum ns l hc =>
    refine .old fun H vs Q c r => ?_
    obtain ⟨v, rfl, r1⟩ := reps1 r
    obtain ⟨p, us, rfl, h1, h2⟩ := l.rd c r1
    have e := reps_ints h2
    subst e
    exact ⟨_, .int _, fun q => rC_of (cr_sum hc) ⟨_, _, rfl, SqL.of h1, q⟩⟩
  | all bs l hc =>
    refine .old fun H vs Q c r => ?_
    obtain ⟨v, rfl, r1⟩ := reps1 r
    obtain ⟨p, us, rfl, h1, h2⟩ := l.rd c r1
    have e := reps_bls h2
    subst e
    exact ⟨_, .bl _, fun q => rC_of (cr_all hc) ⟨_, _, rfl, SqL.of h1, q⟩⟩
  | any bs l hc =>
    refine .old fun H vs Q c r => ?_
    obtain ⟨v, rfl, r1⟩ := reps1 r
    obtain ⟨p, us, rfl, h1, h2⟩ := l.rd c r1
    have e := reps_bls h2
    subst e
    exact ⟨_, .bl _, fun q => rC_of (cr_any hc) ⟨_, _, rfl, SqL.of h1, q⟩⟩
  | int i =>
    refine .old fun H vs Q c r => ?_
    obtain ⟨v, rfl, r1⟩ := reps1 r
    cases r1
    exact ⟨_, .int _, fun q => rC_of call_int1 (.inl ⟨_, rfl, q⟩)⟩
  | intB i =>
    refine .old fun H vs Q c r => ?_
    obtain ⟨v, rfl, r1⟩ := reps1 r
    cases r1
    exact ⟨_, .int _, fun q => rC_of call_int1 (.inr ⟨_, rfl, q⟩)⟩
  | bool i =>
    refine .old fun H vs Q c r => ?_
    obtain ⟨v, rfl, r1⟩ := reps1 r
    cases r1
    exact ⟨_, .bl _, fun q => rC_of call_bool1 (.inr ⟨_, rfl, q⟩)⟩
  | boolI i =>
    refine .old fun H vs Q c r => ?_
    obtain ⟨v, rfl, r1⟩ := reps1 r
    cases r1
    exact ⟨_, .bl _, fun q => rC_of call_bool1 (.inl ⟨_, rfl, q⟩)⟩
  | str i hz =>
    refine .old fun H vs Q c r => ?_
    obtain ⟨v, rfl, r1⟩ := reps1 r
    cases r1
    exact ⟨_, .str _, fun q => rC_of call_str_int ⟨_, rfl, hz, q⟩⟩
  | list l =>
    refine .new fun H vs Q c r => ?_
    obtain ⟨v, rfl, r1⟩ := reps1 r
    obtain ⟨p, us, rfl, h1, h2⟩ := l.rd c r1
    exact ⟨.lst us, (fun _ z => nomatch z), fun p G g e => .lst g (h2.ex e), fun k => rC_of call_list_of ⟨_, _, rfl, h1, k⟩⟩
  | tuple l =>
    refine .new fun H vs Q c r => ?_
    obtain ⟨v, rfl, r1⟩ := reps1 r
    obtain ⟨p, us, rfl, h1, h2⟩ := l.rd c r1
    exact ⟨.tup us, (fun _ z => nomatch z), fun p G g e => .tup (SqT.of g) (h2.ex e), fun k => rC_of call_tuple_of ⟨_, _, rfl, .inl ⟨SqL.of h1, k⟩⟩⟩
  | tupleT ds =>
    refine .old fun H vs Q c r => ?_
    obtain ⟨v, rfl, r1⟩ := reps1 r
    obtain ⟨p, us, rfl, g1, h1, h2⟩ := tup_rd r1
    exact ⟨_, r1, fun q => rC_of call_tuple_of ⟨_, _, rfl, .inr ⟨h1, q⟩⟩⟩
variable {x : Str} {p : Pos} {id T : String}
theorem goesC_we {f : Value} {Q : D → Cells → Prop} {e' : Expr} (hp : PE Z.X e' (tCB (rC Z.X f) (tA Z.X es))) (h : WA Z es σ C fun ds C1 => ∃ z, GoesC Z f C1 ds z ∧ Q z C1) : WE Z e' σ C Q := fun σV H st =>
  tE_of hp (tA_mono (h σV H st) fun vs H1 ⟨ds, C1, e1, st1, r1, z, g, q⟩ => g H1 σV σ vs _ st1 r1 fun w H2 e2 st2 r2 => ⟨z, C1, e1.trans e2, st2, r2, q⟩)
theorem we_blt {Q : D → Cells → Prop} (hm : Z.X.mg x = none) (h : WA Z (e :: es) σ C fun ds C1 => ∃ z, BltR Z C1 (.builtin id) ds z ∧ Q z C1) (hv : bootBuiltins x = some (.builtin id) := by decide +kernel) (hg : Gl Z.X x := by rfl) (hn : x ≠ "__name__" := by decide) (hdb : (x == ("__debug__" : Str)) = false := by decide)
    (he : starEach (e :: es) Z.X.env = (false, eval e Z.X.env) :: starEach es Z.X.env := by rfl) (hpl : (backTo pos (starEach es Z.X.env)).any (·.1) = false := by rfl) : WE Z (.Call (.Name x p) (e :: es) [] pos) σ C Q :=
  goesC_we (pe_callB rC_ok hg hm hv pa_self hn hdb he hpl) (h.mono fun ds C1 ⟨z, g, q⟩ => ⟨z, bltR g, q⟩)
theorem we_ty {Q : D → Cells → Prop} (hm : Z.X.mg x = none) (h : WA Z (e :: es) σ C fun ds C1 => ∃ z, BltR Z C1 (.type T) ds z ∧ Q z C1) (hv : bootBuiltins x = some (.type T) := by decide +kernel) (hg : Gl Z.X x := by rfl) (hn : x ≠ "__name__" := by decide) (hdb : (x == ("__debug__" : Str)) = false := by decide)
    (he : starEach (e :: es) Z.X.env = (false, eval e Z.X.env) :: starEach es Z.X.env := by rfl) (hpl : (backTo pos (starEach es Z.X.env)).any (·.1) = false := by rfl) : WE Z (.Call (.Name x p) (e :: es) [] pos) σ C Q :=
  goesC_we (pe_callTy rC_ok hg hm hv pa_self hn hdb he hpl) (h.mono fun ds C1 ⟨z, g, q⟩ => ⟨z, bltR g, q⟩)
theorem we_listC {Q : D → Cells → Prop} (hm : Z.X.mg x = none) (h : WA Z [e] σ C fun ds C1 => ∃ d xs, ds = [d] ∧ SeqIn C1 d xs ∧ ∀ p, C1 p = none → Q (.cell p) (setC C1 p (.lst xs))) (hv : bootBuiltins x = some (.type "list") := by decide +kernel) (hg : Gl Z.X x := by rfl) (hn : x ≠ "__name__" := by decide) (hdb : (x == ("__debug__" : Str)) = false := by decide)
    (he : starEach [e] Z.X.env = (false, eval e Z.X.env) :: starEach [] Z.X.env := by rfl) : WE Z (.Call (.Name x p) [e] [] pos) σ C Q := fun σV H st =>
  tE_of (pe_callTy call_list_of hg hm hv pa_self hn hdb he rfl) (tA_mono (h σV H st) fun vs H1 ⟨ds, C1, e1, st1, r1, d, xs, ed, l, q⟩ => by
    subst ed
    obtain ⟨v, rfl, r⟩ := reps1 r1
    obtain ⟨p, us, rfl, h1, h2⟩ := l.rd st1.c r
    refine ⟨p, us, rfl, h1, fun l hl => ?_⟩
    obtain ⟨c, e2⟩ := st1.cell (a := l) (c := .lst xs) (o := .lst us) hl (.lst upd_same h2)
    exact ⟨.cell l, _, e1.trans e2, st1.ex c e2, .opq _, q l (st1.c.fresh hl)⟩)
end
end DW
set_option Elab.async false
set_option linter.all false
set_option maxRecDepth 100000
set_option maxHeartbeats 2000000
namespace DW
open PySem PySem.Spec PyProof.Rows L2 Evl
section
variable {Z : Zx} {σ : Sl} {C : Cells} {pos : Pos} {a b e : Expr} {es : List Expr} {N : EndsD} {st : Stmt} {rest : List Stmt}
theorem wss_nil (q : N.nx σ C) : WSs Z [] σ C N := fun σV H s => tSs_of pss_nil ⟨σ, C, s, q⟩
theorem wss_cons (h : WS Z st σ C { N with nx := fun σ1 C1 => WSs Z rest σ1 C1 N }) : WSs Z (st :: rest) σ C N := by
  intro σV H s pins sh I
  refine wpAny_execs_cons (thn (h σV H s pins sh I) fun f s1 q => ?_)
  cases f with
  | next =>
    obtain ⟨σV', H', I', σ1, C1, st1, w⟩ := q
    exact w σV' H' st1 pins s1 I'
  | ret v => exact q
  | brk => exact q
  | cont => exact q
theorem wss_one (h : WS Z st σ C N) : WSs Z [st] σ C N := fun σV H s => tSs_of (pss_one ps_self) (h σV H s)
structure EndsD.Le (N N' : EndsD) : Prop where
  nx : ∀ σ C, N.nx σ C → N'.nx σ C
  rt : ∀ d C, N.rt d C → N'.rt d C
  bk : ∀ σ C, N.bk σ C → N'.bk σ C
  ct : ∀ σ C, N.ct σ C → N'.ct σ C
theorem spV_mono {X : Cx} {pins : List (Addr × Obj)} {N' : EndsD} {f : Flow} {s : Shared} (h : SP Z.X pins (endsV Z N) f s) (k : N.Le N') : SP Z.X pins (endsV Z N') f s := by
  cases f with
  | next =>
    obtain ⟨σ', H', I', σ1, C1, st1, w⟩ := h
    exact ⟨σ', H', I', σ1, C1, st1, k.nx _ _ w⟩
  | brk =>
    obtain ⟨σ', H', I', σ1, C1, st1, w⟩ := h
    exact ⟨σ', H', I', σ1, C1, st1, k.bk _ _ w⟩
  | cont =>
    obtain ⟨σ', H', I', σ1, C1, st1, w⟩ := h
    exact ⟨σ', H', I', σ1, C1, st1, k.ct _ _ w⟩
  | ret v =>
    obtain ⟨v, σ', H', I', rv, d, C1, c1, e1, r1, w⟩ := h
    exact ⟨v, σ', H', I', rv, d, C1, c1, e1, r1, k.rt _ _ w⟩
theorem WS.mono {N' : EndsD} (h : WS Z st σ C N) (k : N.Le N') : WS Z st σ C N' := fun σV H s pins sh I => thn (h σV H s pins sh I) fun f s1 q => spV_mono (X := Z.X) q k
theorem WSs.mono {N' : EndsD} {sts : List Stmt} (h : WSs Z sts σ C N) (k : N.Le N') : WSs Z sts σ C N' := fun σV H s pins sh I => thn (h σV H s pins sh I) fun f s1 q => spV_mono (X := Z.X) q k
theorem StR.weak {σ' : Sl} {H : Hp} {σV : L2.St} (s : StR Z H σV C σ) (hl : σ'.length = σ.length) (h : ∀ (i : Nat) (d : D), σ'[i]? = some (some d) → σ[i]? = some (some d)) : StR Z H σV C σ' :=
  ⟨s.c, ⟨s.s.len.trans hl.symm, fun i d q => s.s.at_ i d (h i d q)⟩, s.g⟩
def thaw (a : Addr) (d : D) : Option D → Option D
  | some (.opq (.ref b)) => if b = a then some d else some (.opq (.ref b))
  | x => x
theorem StR.freeze {H : Hp} {σV : L2.St} (s : StR Z H σV C σ) {p : Addr} {ds : List D} (hp : C p = some (.lst ds)) : StR Z H σV (delC C p) (σ.map (thaw p (.lst ds))) := by
  obtain ⟨c, e, r⟩ := s.c.freeze hp
  refine ⟨c, ⟨by rw [List.length_map]; exact s.s.len, fun i d q => ?_⟩, s.g.trans e⟩
  rw [List.getElem?_map] at q
  cases h : σ[i]? with
  | none => rw [h] at q; cases q
  | some o =>
    rw [h] at q
    have q' : thaw p (.lst ds) o = some d := Option.some.inj q
    cases o with
    | none => cases q'
    | some d0 =>
      obtain ⟨v, h1, h2⟩ := s.s.at_ i d0 h
      refine ⟨v, h1, ?_⟩
      unfold thaw at q'
      split at q'
      · rename_i b hb
        cases hb
        split at q'
        · rename_i eb
          cases q'
          cases h2
          rw [eb]
          exact r
        · cases q'
          exact h2.ex e
      · cases q'
        exact h2.ex e
theorem StR.freezeI {H : Hp} {σV : L2.St} (s : StR Z H σV C σ) {p Cl : Addr} {fs : List (Str × D)} (hp : C p = some (.ins Cl fs)) : StR Z H σV (delC C p) (σ.map (thaw p (.obj Cl fs))) := by
  obtain ⟨c, e, r⟩ := s.c.freezeI hp
  refine ⟨c, ⟨by rw [List.length_map]; exact s.s.len, fun i d q => ?_⟩, s.g.trans e⟩
  rw [List.getElem?_map] at q
  cases h : σ[i]? with
  | none => rw [h] at q; cases q
  | some o =>
    rw [h] at q
    have q' : thaw p (.obj Cl fs) o = some d := Option.some.inj q
    cases o with
    | none => cases q'
    | some d0 =>
      obtain ⟨v, h1, h2⟩ := s.s.at_ i d0 h
      refine ⟨v, h1, ?_⟩
      unfold thaw at q'
      split at q'
      · rename_i b hb
        cases hb
        split at q'
        · rename_i eb
          cases q'
          cases h2
          rw [eb]
          exact r
        · cases q'
          exact h2.ex e
      · cases q'
        exact h2.ex e
theorem wss_freeze {sts : List Stmt} (p : Addr) (ds : List D) (hp : C p = some (.lst ds)) (h : WSs Z sts (σ.map (thaw p (.lst ds))) (delC C p) N) : WSs Z sts σ C N := fun σV H s => h σV H (s.freeze hp)
theorem wss_weak {sts : List Stmt} (σ' : Sl) (hl : σ'.length = σ.length) (hw : ∀ (i : Nat) (d : D), σ'[i]? = some (some d) → σ[i]? = some (some d)) (h : WSs Z sts σ' C N) : WSs Z sts σ C N := fun σV H s => h σV H (s.weak hl hw)
theorem we_freeze {Q : D → Cells → Prop} (h : WE Z e σ C fun d C1 => ∃ p ds, d = D.cell p ∧ C1 p = some (.lst ds) ∧ Q (.lst ds) (delC C1 p)) : WE Z e σ C Q := fun σV H s => tE_mono (h σV H s) fun v H1 ⟨d, C1, e1, st1, r1, p, ds, ed, hp, q⟩ => by
  subst ed
  obtain ⟨c, e2, r2⟩ := st1.c.freeze hp
  refine ⟨.lst ds, _, e1.trans e2, ⟨c, st1.s.ex e2, st1.g.trans e2⟩, ?_, q⟩
  cases r1
  exact r2
theorem ws_pass (q : N.nx σ C) : WS Z (.Pass pos) σ C N := fun σV H s => tS_of ps_pass ⟨σ, C, s, q⟩
theorem ws_break (q : N.bk σ C) : WS Z (.Break pos) σ C N := fun σV H s => tS_of ps_break ⟨σ, C, s, q⟩
theorem ws_continue (q : N.ct σ C) : WS Z (.Continue pos) σ C N := fun σV H s => tS_of ps_continue ⟨σ, C, s, q⟩
theorem ws_expr (h : WE Z e σ C fun _ C1 => N.nx σ C1) (hs : swapsWith e none pos.line Z.X.env = pure false := by rfl) : WS Z (.Expr e pos) σ C N := fun σV H s =>
  tS_of (ps_expr pe_self hs) (tE_mono (h σV H s) fun v H1 ⟨d, C1, e1, st1, r1, q⟩ => ⟨σ, C1, st1, q⟩)
theorem ws_ret (h : WE Z e σ C N.rt) : WS Z (.Return (some e) pos) σ C N := fun σV H s =>
  tS_of (ps_ret pe_self) (tE_mono (h σV H s) fun v H1 ⟨d, C1, e1, st1, r1, q⟩ => ⟨d, C1, st1.c, st1.g, r1, q⟩)
theorem ws_retN (h : N.rt .non C) : WS Z (.Return none pos) σ C N := fun σV H s => tS_of ps_retN ⟨.non, C, s.c, s.g, .non, h⟩
theorem ws_if {c : Expr} {p q : List Stmt} (h : WT Z c σ C fun k C1 => (k = true → WSs Z p σ C1 N) ∧ (k = false → WSs Z q σ C1 N)) : WS Z (.If c p q pos) σ C N := fun σV H s =>
  tS_of (ps_if pt_self pss_self pss_self) (tT_mono (h σV H s) fun k H1 ⟨C1, e1, st1, q1, q2⟩ => by
    cases k with
    | true => exact q1 rfl σV H1 st1
    | false => exact q2 rfl σV H1 st1)
def tG (X : Cx) (tg : Expr) : TG := fun v σ H Q => ∀ pins s u, Inv X pins σ H s → RelV v u → wpAny (model X.prog X.w) X.A (assign tg X.env u) (fun _ s' => ∃ σ' H', Inv X pins σ' H' s' ∧ Q σ' H') X.xe s
theorem pg_self {X : Cx} {tg : Expr} : PG X tg (tG X tg) := ⟨fun pins s σ H v u Q I r h => h pins s u I r⟩
theorem tG_of {X : Cx} {tg : Expr} {t : TG} (h : PG X tg t) {v : V} {σ : L2.St} {H : Hp} {Q : L2.St → Hp → Prop} (q : t v σ H Q) : tG X tg v σ H Q := fun pins s u I r => h.run pins s σ H v u Q I r q
theorem tG_mono {X : Cx} {tg : Expr} {v : V} {σ : L2.St} {H : Hp} {Q Q' : L2.St → Hp → Prop} (h : tG X tg v σ H Q) (k : ∀ σ' H', Q σ' H' → Q' σ' H') : tG X tg v σ H Q' := fun pins s u I r => thn (h pins s u I r) fun _ s' ⟨σ', H', I', q⟩ => ⟨σ', H', I', k _ _ q⟩
def PostG (Z : Zx) (H : Hp) (C : Cells) (Q : Sl → Cells → Prop) : L2.St → Hp → Prop := fun σV' H' => ∃ σ' C', Ex (mns H C) (mns H' C') ∧ StR Z H' σV' C' σ' ∧ Q σ' C'
def WG (Z : Zx) (tg : Expr) (d : D) (σ : Sl) (C : Cells) (Q : Sl → Cells → Prop) : Prop := ∀ σV H v, StR Z H σV C σ → Rep Z.X.K (mns H C) v d → tG Z.X tg v σV H (PostG Z H C Q)
theorem WG.mono {tg : Expr} {d : D} {Q Q' : Sl → Cells → Prop} (h : WG Z tg d σ C Q) (k : ∀ σ' C', Q σ' C' → Q' σ' C') : WG Z tg d σ C Q' := fun σV H v s r => tG_mono (h σV H v s r) fun σ' H' ⟨a, b, c, e, q⟩ => ⟨a, b, c, e, k _ _ q⟩
theorem wg_name (i : Nat) {x : Str} {d : D} {Q : Sl → Cells → Prop} (q : Q (σ.set i (some d)) C) (hN : Z.X.N.Nodup) (hi : Z.X.N[i]? = some x := by rfl) (hx : Loc Z.X.env.scope x := by first | exact Or.inl rfl | exact Or.inr rfl)
    (hf : Z.X.fn x = true ∨ Z.X.env.scope.names.lookup x = some .local := by first | exact .inl rfl | exact .inr rfl | assumption) : WG Z (.Name x pos) d σ C Q := fun σV H v s r =>
  tG_of (pg_name hN hi hx hf) ⟨_, C, Ex.refl _, ⟨s.c, s.s.set r i, s.g⟩, q⟩
def WGs (Z : Zx) : List Expr → List D → Sl → Cells → (Sl → Cells → Prop) → Prop
  | [], ds, σ, C, Q => ds = [] ∧ Q σ C
  | t :: ts, ds, σ, C, Q => ∃ d r, ds = d :: r ∧ WG Z t d σ C fun σ' C' => WGs Z ts r σ' C' Q
def tGs (X : Cx) : List Expr → TGs
  | [] => gNil
  | t :: ts => gCons (tG X t) (tGs X ts)
theorem pgs_selfN {X : Cx} : ∀ {ts : List Expr}, (∀ t ∈ ts, PySem.W.isStarred t = false) → PGs X ts (tGs X ts) := fun {ts} => by
  intro h
  induction ts with
  | nil => exact pgs_nil
  | cons t ts ih =>
    refine pgs_cons pg_self (ih fun u hu => h u (List.mem_cons_of_mem _ hu)) ?_
    have h0 := h t List.mem_cons_self
    cases t <;> first | rfl | cases h0
theorem wgs_run {Q : Sl → Cells → Prop} : ∀ {ts : List Expr} {ds : List D} {vs : List V} {σ : Sl} {C : Cells} {σV : L2.St} {H : Hp}, WGs Z ts ds σ C Q → StR Z H σV C σ → Reps Z.X.K (mns H C) vs ds → tGs Z.X ts vs σV H (PostG Z H C Q)
  | [], ds, vs, σ, C, σV, H, h, s, r => by
    obtain ⟨e, q⟩ := h
    subst e
    cases r
    exact ⟨rfl, σ, C, Ex.refl _, s, q⟩
  | t :: ts, ds, vs, σ, C, σV, H, h, s, r => by
    obtain ⟨d, rr, e, h⟩ := h
    subst e
    cases r with
    | cons r1 r2 =>
      refine ⟨_, _, rfl, tG_mono (h σV H _ s r1) fun σ' H' ⟨σ1, C1, e1, s1, w⟩ => ?_⟩
      have mono : ∀ {ts : List Expr} {vs : List V} {σ : L2.St} {H : Hp} {Q Q' : L2.St → Hp → Prop}, tGs Z.X ts vs σ H Q → (∀ a b, Q a b → Q' a b) → tGs Z.X ts vs σ H Q' := by
        intro ts
        induction ts with
        | nil => exact fun h k => ⟨h.1, k _ _ h.2⟩
        | cons t ts ih => exact fun ⟨v, r, e, h⟩ k => ⟨v, r, e, tG_mono h fun _ _ q => ih q k⟩
      exact mono (wgs_run w s1 (r2.ex e1)) fun a b ⟨σ2, C2, e2, s2, q⟩ => ⟨σ2, C2, e1.trans e2, s2, q⟩
theorem wg_tup {ts : List Expr} {k : Nat} {d : D} {ds : List D} {Q : Sl → Cells → Prop} (hd : d = .tup ds) (hl : ds.length = ts.length) (h : WGs Z ts ds σ C Q) (hc : Z.X.calm = true := by rfl) (hns : ts.all (fun t => !PySem.W.isStarred t) = true := by rfl)
    (hn : (assignEach ts Z.X.env).length = ts.length := by rfl) (hst : (assignEach ts Z.X.env).findIdx? (·.1) = none := by rfl) : WG Z (.Tuple ts k pos) d σ C Q := fun σV H v s r => by
  subst hd
  obtain ⟨p, vs, rfl, g1, h1, h2⟩ := tup_rd r
  exact tG_of (pg_tup (n := ts.length) hc (pgs_selfN fun t ht => by have := List.all_eq_true.mp hns t ht; simpa using this) hn hst) ⟨p, vs, rfl, h1, h2.length.trans hl, wgs_run h s h2⟩
theorem wg_sub {o i : Expr} {d : D} {Q : Sl → Cells → Prop} (h : WE Z o σ C fun x C1 => WE Z i σ C1 fun y C2 => ∃ p ds k j, x = .cell p ∧ y = .int k ∧ C2 p = some (.lst ds) ∧ ixN ds.length k = some j ∧ Q σ (setC C2 p (.lst (ds.set j d))))
    (ha : ∀ v, assign (.Subscript o i pos) Z.X.env v = (do
      let ov ← holding [v] (eval o Z.X.env)
      let iv ← holding [v, ov] (eval i Z.X.env)
      standAt pos
      holding [v, ov, iv] (setItem ov iv v)
      release [v, ov, iv] []) := by intro _; rfl) : WG Z (.Subscript o i pos) d σ C Q := fun σV H v s r =>
  tG_of (pg_sub pe_self pe_self set_list ha) (tE_mono (h σV H s) fun x H1 ⟨dx, C1, e1, s1, r1, w1⟩ => tE_mono (w1 σV H1 s1) fun y H2 ⟨dy, C2, e2, s2, r2, p, ds, k, j, ex, ey, hp, hj, q⟩ => by
    subst ex ey
    cases r1
    cases r2
    cases s2.c.ok p _ hp with
    | @lst vs _ h1 h2 =>
      have rd := (r.ex e1).ex e2
      obtain ⟨c3, e3⟩ := s2.put (c' := .lst (ds.set j d)) (o := .lst (vs.set j v)) hp (.lst upd_same (h2.set rd j))
      refine ⟨p, vs, k, j, rfl, rfl, h1, by rw [h2.length]; exact hj, σ, _, ?_, ⟨c3, ?_, ?_⟩, q⟩
      · rw [e3]; exact e1.trans e2
      · rw [e3]; exact s2.s
      · rw [e3]; exact s2.g)
theorem ws_asg {tg : Expr} (h : WE Z e σ C fun d C1 => WG Z tg d σ C1 fun σ2 C2 => N.nx σ2 C2) (hs : swapsWithSole [tg] e pos.line Z.X.env = pure false := by rfl) (hw : swappedStores [tg] e Z.X.env = pure none := by rfl) (h1 : (assignEach [tg] Z.X.env).map (·.2) = [assign tg Z.X.env] := by rfl) : WS Z (.Assign [tg] e pos) σ C N := fun σV H s =>
  tS_of (ps_asg pe_self pg_self hs hw h1) (tE_mono (h σV H s) fun v H1 ⟨d, C1, e1, s1, r1, w⟩ => tG_mono (w σV H1 v s1 r1) fun σ' H' ⟨σ2, C2, e2, s2, q⟩ => ⟨σ2, C2, s2, q⟩)
theorem ws_set (i : Nat) {x : Str} {pos' : Pos} (h : WE Z e σ C fun d C1 => N.nx (σ.set i (some d)) C1) (hN : Z.X.N.Nodup) (hi : Z.X.N[i]? = some x := by rfl) (hx : Loc Z.X.env.scope x := by first | exact Or.inl rfl | exact Or.inr rfl) (hs : swapsWith e (some (.Name x pos')) pos.line Z.X.env = pure false := by rfl)
    (hf : Z.X.fn x = true ∨ Z.X.env.scope.names.lookup x = some .local := by first | exact .inl rfl | exact .inr rfl | assumption) : WS Z (.Assign [.Name x pos'] e pos) σ C N := fun σV H s =>
  tS_of (ps_set hN hi hx pe_self hs hf) (tE_mono (h σV H s) fun v H1 ⟨d, C1, e1, s1, r1, q⟩ => ⟨_, C1, ⟨s1.c, s1.s.set r1 i, s1.g⟩, q⟩)
theorem ws_par (i j : Nat) {x y : Str} {px py pt : Pos} {kt k2 : Nat} {pt2 : Pos} (h : WA Z [a, b] σ C fun ds C1 => ∃ d e, ds = [d, e] ∧ N.nx ((σ.set i (some d)).set j (some e)) C1) (hN : Z.X.N.Nodup) (hi : Z.X.N[i]? = some x := by rfl) (hj : Z.X.N[j]? = some y := by rfl) (hij : i ≠ j := by decide)
    (hx : Z.X.env.scope.names.lookup x = some .local := by rfl) (hy : Z.X.env.scope.names.lookup y = some .local := by rfl)
    (hw : swappedStores [.Tuple [.Name x px, .Name y py] kt pt] (.Tuple [a, b] k2 pt2) Z.X.env = pure (some [x, y]) := by rfl) (hc : Z.X.calm = true := by rfl) : WS Z (.Assign [.Tuple [.Name x px, .Name y py] kt pt] (.Tuple [a, b] k2 pt2) pos) σ C N := fun σV H s =>
  tS_of (ps_par hc hN hi hj hij hx hy pa_self hw) (tA_mono (h σV H s) fun vs H1 ⟨ds, C1, e1, s1, r1, d, e, ed, q⟩ => by
    subst ed
    obtain ⟨v, u, rfl, r2, r3⟩ := reps2 r1
    exact ⟨v, u, rfl, _, C1, ⟨s1.c, (s1.s.set r2 i).set r3 j, s1.g⟩, q⟩)
end
end DW
set_option Elab.async false
set_option linter.all false
set_option maxRecDepth 100000
set_option maxHeartbeats 2000000
namespace DW
open PySem PySem.Spec PyProof.Rows L2 Evl
section
variable {Z : Zx} {σ : Sl} {C : Cells} {pos : Pos} {a b e : Expr} {es : List Expr} {N : EndsD}
def tI (X : Cx) (tg iter : Expr) : TI := fun σ H R => ∀ pins s, Inv X pins σ H s → wpAny (model X.prog X.w) X.A (eval iter X.env) (fun v s1 => wpAny (model X.prog X.w) X.A (pyIter v) (PIE X pins σ tg R) X.xe s1) X.xe s
theorem pi_self {X : Cx} {tg iter : Expr} : PI X tg iter (tI X tg iter) := ⟨fun pins s _ _ _ I h => h pins s I⟩
theorem tI_of {X : Cx} {tg iter : Expr} {t : TI} (h : PI X tg iter t) {σ : L2.St} {H : Hp} {R : It → Hp → Prop} (q : t σ H R) : tI X tg iter σ H R := fun pins s I => h.run pins s σ H R I q
theorem tI_mono {X : Cx} {tg iter : Expr} {σ : L2.St} {H : Hp} {R R' : It → Hp → Prop} (h : tI X tg iter σ H R) (k : ∀ J H', R J H' → R' J H') : tI X tg iter σ H R' := fun pins s I =>
  thn (h pins s I) fun v s1 h1 => thn h1 fun itv s2 ⟨it, fp, tn, J, H', e, I', T, t0, f, r⟩ => ⟨it, fp, tn, J, H', e, I', T, t0, f, k J H' r⟩
structure WalkD (K : PySem.W.Frag) (G : Hp) (J : It) (items : List D) : Prop where
  goes : ∀ i H, Ex G H → i < items.length → J.go i H
  stops : ∀ H, Ex G H → J.stop items.length H
  yields : ∀ i H x H', Ex G H → i < items.length → J.yld i H x H' → ∃ d, items[i]? = some d ∧ ((H' = H ∧ Rep K G x d) ∨ ∃ T u w p q, x = .ref T ∧ H T = none ∧ H' = upd H T (.tup [u, w]) ∧ d = .tup [p, q] ∧ Rep K G u p ∧ Rep K G w q)
def PostI (Z : Zx) (H : Hp) (σV : L2.St) (C : Cells) (σ : Sl) (R : List D → Cells → Prop) : It → Hp → Prop := fun J H' => ∃ ds C', Ex (mns H C) (mns H' C') ∧ StR Z H' σV C' σ ∧ WalkD Z.X.K (mns H' C') J ds ∧ R ds C'
def WI (Z : Zx) (tg iter : Expr) (σ : Sl) (C : Cells) (R : List D → Cells → Prop) : Prop := ∀ σV H, StR Z H σV C σ → tI Z.X tg iter σV H (PostI Z H σV C σ R)
theorem walk_reps {K : PySem.W.Frag} {G : Hp} {J : It} {n : Nat} {P : Hp → Prop} {vs : List V} {ds : List D} (w : Walk J n P (YAt vs)) (hn : n = ds.length) (hP : ∀ H, Ex G H → P H) (r : Reps K G vs ds) : WalkD K G J ds := by
  subst hn
  exact ⟨fun i H e hi => w.goes i H hi (hP H e), fun H e => w.stops H (hP H e), fun i H x H' e hi y => by
    obtain ⟨e1, e2⟩ := w.yields i H x H' hi (hP H e) y
    obtain ⟨d, h1, h2⟩ := r.getV e2
    exact ⟨d, h1, .inl ⟨e1, h2⟩⟩⟩
inductive Whole : D → List D → Prop
  | lst (ds : List D) : Whole (.lst ds) ds
  | rol (ds : List D) : Whole (.rol ds) ds
  | tup (ds : List D) : Whole (.tup ds) ds
theorem iter_l {X : Cx} {pins : List (Addr × Obj)} {σ : L2.St} {H : Hp} {s : Shared} {E : Value → Shared → Prop} {tg : Expr} {p : Addr} {vs : List V} {R : It → Hp → Prop} (I : Inv X pins σ H s) (hq : SqL X.K H p vs) (q : R (Itl X.K p) H) : wpAny (model X.prog X.w) X.A (pyIter (.ref p)) (PIE X pins σ tg R) E s := by
  obtain ⟨its, rv, pl, hz⟩ := I.list hq
  refine wpAny_pyIter_list pl.isList ?_
  refine ⟨s.heap.objs.size, [s.heap.objs.size], _, _, H, rfl, I.kept (t' := s.toks) fun b o e => Heap.get?_push_of_some _ e, turn_list p _, ⟨_, Heap.get?_push_size _ rfl, rfl, rfl⟩, fun b hb => ?_, q⟩
  have e : b = s.heap.objs.size := by simpa using hb
  subst e
  exact I.fpOk (Nat.le_refl _) (I.hok.fresh (Nat.le_refl _))
theorem iter_t {X : Cx} {pins : List (Addr × Obj)} {σ : L2.St} {H : Hp} {s : Shared} {E : Value → Shared → Prop} {tg : Expr} {p : Addr} {vs : List V} {R : It → Hp → Prop} (I : Inv X pins σ H s) (hq : SqT X.K H p vs) (q : R (Itt X.K p) H) : wpAny (model X.prog X.w) X.A (pyIter (.ref p)) (PIE X pins σ tg R) E s := by
  obtain ⟨its, rv, pl, hz⟩ := I.tuple hq
  refine wpAny_pyIter_tuple (show s.heap.IsTuple p its.toArray from pl) ?_
  refine ⟨s.heap.objs.size, [s.heap.objs.size], _, _, H, rfl, I.kept (t' := s.toks) fun b o e => Heap.get?_push_of_some _ e, turn_tuple p _, ⟨_, Heap.get?_push_size _ rfl, rfl, rfl⟩, fun b hb => ?_, q⟩
  have e : b = s.heap.objs.size := by simpa using hb
  subst e
  exact I.fpOk (Nat.le_refl _) (I.hok.fresh (Nat.le_refl _))
theorem wi_seq {tg : Expr} {R : List D → Cells → Prop} (h : WE Z e σ C fun d C1 => ∃ ds, Whole d ds ∧ R ds C1) : WI Z tg e σ C R := fun σV H s pins sh I => by
  refine thn (h σV H s pins sh I) fun v s1 ⟨x, H1, I1, rv, d, C1, e1, st1, r1, ds, w, q⟩ => ?_
  cases w with
  | lst ds =>
    cases r1 with
    | lst h1 h2 =>
      cases rv
      exact iter_l I1 (SqL.of (mns_of h1).1) ⟨ds, C1, e1, st1, walk_reps walk_list h2.length (fun H e => SqL.of (e _ _ h1)) h2, q⟩
  | rol ds =>
    cases r1 with
    | rol h1 h2 =>
      cases rv
      exact iter_l I1 (ex_l up_mns h1) ⟨ds, C1, e1, st1, walk_reps walk_list h2.length (fun H e => ex_l e h1) h2, q⟩
  | tup ds =>
    cases r1 with
    | tup h1 h2 =>
      cases rv
      exact iter_t I1 (ex_t up_mns h1) ⟨ds, C1, e1, st1, walk_reps walk_tup h2.length (fun H e => ex_t e h1) h2, q⟩
theorem wi_str {tg : Expr} {R : List D → Cells → Prop} (h : WE Z e σ C fun d C1 => ∃ x : Str, d = .str x ∧ R (x.cps.toList.map fun c => .str ⟨#[c]⟩) C1) : WI Z tg e σ C R := fun σV H s =>
  tI_of (pi_str pe_self) (tE_mono (h σV H s) fun v H1 ⟨d, C1, e1, st1, r1, x, ed, q⟩ => by
    subst ed
    cases r1
    refine ⟨x, rfl, _, C1, e1, st1, ?_, q⟩
    have hn : x.cps.size = (x.cps.toList.map fun c => D.str ⟨#[c]⟩).length := by simp
    refine ⟨fun i H e hi => walk_str.goes i H (by rw [hn]; exact hi) trivial, fun H e => ?_, fun i H x' H' e hi y => ?_⟩
    · rw [← hn]
      exact walk_str.stops H trivial
    · obtain ⟨e1, c, hc, rfl⟩ := walk_str.yields i H x' H' (by rw [hn]; exact hi) trivial y
      refine ⟨.str ⟨#[c]⟩, ?_, .inl ⟨e1, .str _⟩⟩
      rw [List.getElem?_map, Array.getElem?_toList, hc]
      rfl)
def rangeD (lo : Int) (n : Nat) : List D := (List.range n).map fun k => .int (lo + (k : Nat))
theorem walk_rangeD {K : PySem.W.Frag} {G : Hp} {lo : Int} {n : Nat} : WalkD K G (Itr lo n) (rangeD lo n) := by
  have hn : (rangeD lo n).length = n := by simp [rangeD]
  refine ⟨fun i H e hi => walk_range.goes i H (by rw [← hn]; exact hi) trivial, fun H e => ?_, fun i H x H' e hi y => ?_⟩
  · rw [hn]
    exact walk_range.stops H trivial
  · obtain ⟨e1, e2⟩ := walk_range.yields i H x H' (by rw [← hn]; exact hi) trivial y
    subst e2
    refine ⟨.int (lo + (i : Nat)), ?_, .inl ⟨e1, .int _⟩⟩
    unfold rangeD
    rw [List.getElem?_map, List.getElem?_range (by rw [← hn]; exact hi)]
    rfl
theorem wi_range1 {tg : Expr} {p : Pos} {R : List D → Cells → Prop} (hm : Z.X.mg "range" = none) (h : WA Z [a] σ C fun ds C1 => ∃ j, ds = [.int j] ∧ (-(2 ^ 62) ≤ j ∧ j < 2 ^ 62) ∧ R (rangeD 0 j.toNat) C1) (hg : Gl Z.X "range" := by rfl) (hs : starEach [a] Z.X.env = [(false, eval a Z.X.env)] := by rfl) : WI Z tg (.Call (.Name "range" p) [a] [] pos) σ C R := fun σV H s =>
  tI_of (pi_range1 hg hm pa_self hs) (tA_mono (h σV H s) fun vs H1 ⟨ds, C1, e1, st1, r1, j, ed, ⟨h1, h2⟩, q⟩ => by
    subst ed
    obtain ⟨v, rfl, r⟩ := reps1 r1
    cases r
    exact ⟨j, rfl, h1, h2, _, C1, e1, st1, walk_rangeD, q⟩)
theorem wi_range2 {tg : Expr} {p : Pos} {R : List D → Cells → Prop} (hm : Z.X.mg "range" = none) (h : WA Z [a, b] σ C fun ds C1 => ∃ i j, ds = [.int i, .int j] ∧ (-(2 ^ 62) ≤ i ∧ i < 2 ^ 62 ∧ -(2 ^ 62) ≤ j ∧ j < 2 ^ 62) ∧ R (rangeD i (j - i).toNat) C1) (hg : Gl Z.X "range" := by rfl)
    (hs : starEach [a, b] Z.X.env = [(false, eval a Z.X.env), (false, eval b Z.X.env)] := by rfl) (hs2 : starEach [b] Z.X.env = [(false, eval b Z.X.env)] := by rfl) : WI Z tg (.Call (.Name "range" p) [a, b] [] pos) σ C R := fun σV H s =>
  tI_of (pi_range2 hg hm pa_self hs hs2) (tA_mono (h σV H s) fun vs H1 ⟨ds, C1, e1, st1, r1, i, j, ed, hb, q⟩ => by
    subst ed
    obtain ⟨v, u, rfl, r, r2⟩ := reps2 r1
    cases r
    cases r2
    exact ⟨i, j, rfl, hb, _, C1, e1, st1, walk_rangeD, q⟩)
def rangeCD (lo c : Int) (n : Nat) : List D := (List.range n).map fun k => .int (lo + (k : Nat) * c)
theorem walk_rangeCD {K : PySem.W.Frag} {G : Hp} {lo c : Int} {n : Nat} : WalkD K G (Itc lo c n) (rangeCD lo c n) := by
  have hn : (rangeCD lo c n).length = n := by simp [rangeCD]
  refine ⟨fun i H e hi => walk_rangeC.goes i H (by rw [← hn]; exact hi) trivial, fun H e => ?_, fun i H x H' e hi y => ?_⟩
  · rw [hn]
    exact walk_rangeC.stops H trivial
  · obtain ⟨e1, e2⟩ := walk_rangeC.yields i H x H' (by rw [← hn]; exact hi) trivial y
    subst e2
    refine ⟨.int (lo + (i : Nat) * c), ?_, .inl ⟨e1, .int _⟩⟩
    unfold rangeCD
    rw [List.getElem?_map, List.getElem?_range (by rw [← hn]; exact hi)]
    rfl
theorem reps3 {K : PySem.W.Frag} {G : Hp} {vs : List V} {d e f : D} (r : Reps K G vs [d, e, f]) : ∃ v u w, vs = [v, u, w] ∧ Rep K G v d ∧ Rep K G u e ∧ Rep K G w f := by
  cases r with
  | cons r t =>
    obtain ⟨u, w, rfl, r2, r3⟩ := reps2 t
    exact ⟨_, _, _, rfl, r, r2, r3⟩
theorem wi_range3 {c : Expr} {tg : Expr} {p : Pos} {R : List D → Cells → Prop} (hm : Z.X.mg "range" = none) (h : WA Z [a, b, c] σ C fun ds C1 => ∃ i j k n, ds = [.int i, .int j, .int k] ∧ RgC i j k n ∧ R (rangeCD i k n) C1) (hg : Gl Z.X "range" := by rfl)
    (hs : starEach [a, b, c] Z.X.env = (false, eval a Z.X.env) :: starEach [b, c] Z.X.env := by rfl) (hpl : (backTo pos (starEach [b, c] Z.X.env)).any (·.1) = false := by rfl) : WI Z tg (.Call (.Name "range" p) [a, b, c] [] pos) σ C R := fun σV H s =>
  tI_of (pi_range3 hg hm pa_self hs hpl) (tA_mono (h σV H s) fun vs H1 ⟨ds, C1, e1, st1, r1, i, j, k, n, ed, hb, q⟩ => by
    subst ed
    obtain ⟨v, u, w, rfl, r, r2, r3⟩ := reps3 r1
    cases r
    cases r2
    cases r3
    exact ⟨i, j, k, n, rfl, hb, _, C1, e1, st1, walk_rangeCD, q⟩)
def pairD (p q : D) : D := .tup [p, q]
def enumD (ds : List D) : List D := (List.range ds.length).map fun (i : Nat) => pairD (.int (i : Nat)) (ds.getD i .non)
theorem walk_pairs {K : PySem.W.Frag} {G : Hp} {J : It} {n : Nat} {P : Hp → Prop} {f g : Nat → Option V} {items : List D} (w : Walk J n P (YPair f g)) (hn : n = items.length) (hP : ∀ H, Ex G H → P H)
    (r : ∀ i u w, i < n → f i = some u → g i = some w → ∃ p q, items[i]? = some (pairD p q) ∧ Rep K G u p ∧ Rep K G w q) : WalkD K G J items := by
  subst hn
  exact ⟨fun i H e hi => w.goes i H hi (hP H e), fun H e => w.stops H (hP H e), fun i H x H' e hi y => by
    obtain ⟨T, u, v, e1, e2, e3, e4, e5⟩ := w.yields i H x H' hi (hP H e) y
    obtain ⟨p, q, h1, h2, h3⟩ := r i u v hi e4 e5
    exact ⟨_, h1, .inr ⟨T, u, v, p, q, e1, e2, e3, rfl, h2, h3⟩⟩⟩
inductive WholeL : D → List D → Prop
  | lst (ds : List D) : WholeL (.lst ds) ds
  | rol (ds : List D) : WholeL (.rol ds) ds
theorem WholeL.rd {K : PySem.W.Frag} {G : Hp} {d : D} {ds : List D} (w : WholeL d ds) {v : V} (r : Rep K G v d) : ∃ p vs, v = .ref p ∧ SqL K G p vs ∧ Reps K G vs ds := by
  cases w with
  | lst ds =>
    cases r with
    | lst h1 h2 => exact ⟨_, _, rfl, SqL.of h1, h2⟩
  | rol ds =>
    cases r with
    | rol h1 h2 => exact ⟨_, _, rfl, h1, h2⟩
theorem wi_enum {elts : List Expr} {kk : Nat} {tpos p : Pos} {R : List D → Cells → Prop} (hm : Z.X.mg "enumerate" = none) (h : WA Z [a] σ C fun ds C1 => ∃ d xs, ds = [d] ∧ WholeL d xs ∧ R (enumD xs) C1) (hg : Gl Z.X "enumerate" := by rfl) (hs : starEach [a] Z.X.env = [(false, eval a Z.X.env)] := by rfl) :
    WI Z (.Tuple elts kk tpos) (.Call (.Name "enumerate" p) [a] [] pos) σ C R := fun σV H s =>
  tI_of (pi_enum hg hm pa_self hs) (tA_mono (h σV H s) fun vs H1 ⟨ds, C1, e1, st1, r1, d, xs, ed, w, q⟩ => by
    subst ed
    obtain ⟨v, rfl, r⟩ := reps1 r1
    obtain ⟨p, us, rfl, h1, h2⟩ := w.rd r
    refine ⟨p, us, rfl, ex_l up_mns h1, _, C1, e1, st1, walk_pairs walk_enum (by simp [enumD]; exact h2.length) (fun H e => ex_l e h1) (fun i u w hi f g => ?_), q⟩
    cases f
    obtain ⟨d, hd, rd⟩ := h2.getV g
    refine ⟨.int (i : Nat), d, ?_, .int _, rd⟩
    have hi' : i < xs.length := by rw [← h2.length]; exact hi
    unfold enumD
    rw [List.getElem?_map, List.getElem?_range hi']
    show some (pairD _ (xs.getD i .non)) = _
    rw [List.getD_eq_getElem?_getD, hd]
    rfl)
theorem wi_zip {elts : List Expr} {kk : Nat} {tpos p : Pos} {R : List D → Cells → Prop} (hm : Z.X.mg "zip" = none) (h : WA Z [a, b] σ C fun ds C1 => ∃ d e xs ys, ds = [d, e] ∧ WholeL d xs ∧ WholeL e ys ∧ R (List.zipWith pairD xs ys) C1) (hg : Gl Z.X "zip" := by rfl)
    (hs : starEach [a, b] Z.X.env = (false, eval a Z.X.env) :: starEach [b] Z.X.env := by rfl) (hpl : (backTo pos (starEach [b] Z.X.env)).any (·.1) = false := by rfl) : WI Z (.Tuple elts kk tpos) (.Call (.Name "zip" p) [a, b] [] pos) σ C R := fun σV H s =>
  tI_of (RZ.pi_zipA hg hm pa_self hs hpl) (tA_mono (h σV H s) fun vs H1 ⟨ds, C1, e1, st1, r1, d, e, xs, ys, ed, w1, w2, q⟩ => by
    subst ed
    obtain ⟨v, u, rfl, r, r2⟩ := reps2 r1
    obtain ⟨p, us, rfl, h1, h2⟩ := w1.rd r
    obtain ⟨p', us', rfl, h3, h4⟩ := w2.rd r2
    refine ⟨p, p', us, us', rfl, .inl ⟨ex_l up_mns h1, ex_l up_mns h3, _, C1, e1, st1, walk_pairs (walk_zip rfl) (by rw [List.length_zipWith, h2.length, h4.length]) (fun H e => ⟨ex_l e h1, ex_l e h3⟩) (fun i u w hi f g => ?_), q⟩⟩
    obtain ⟨d1, hd1, rd1⟩ := h2.getV f
    obtain ⟨d2, hd2, rd2⟩ := h4.getV g
    refine ⟨d1, d2, ?_, rd1, rd2⟩
    rw [List.getElem?_zipWith, hd1, hd2])
theorem StR.yield {H H' : Hp} {σV : L2.St} {G : Hp} {x : V} {d : D} (s : StR Z H σV C σ) (e : Ex G (mns H C)) (h : (H' = H ∧ Rep Z.X.K G x d) ∨ ∃ T u w p q, x = .ref T ∧ H T = none ∧ H' = upd H T (.tup [u, w]) ∧ d = .tup [p, q] ∧ Rep Z.X.K G u p ∧ Rep Z.X.K G w q) :
    Ex (mns H C) (mns H' C) ∧ StR Z H' σV C σ ∧ Rep Z.X.K (mns H' C) x d := by
  rcases h with ⟨rfl, r⟩ | ⟨T, u, w, p, q, rfl, hT, rfl, rfl, r1, r2⟩
  · exact ⟨Ex.refl _, s, r.ex e⟩
  · obtain ⟨c, e2, n⟩ := s.new (o := .tup [u, w]) hT
    exact ⟨e2, s.ex c e2, .tup (SqT.of n) (.cons ((r1.ex e).ex e2) (.cons ((r2.ex e).ex e2) .nil))⟩
def Zx.base (Z : Zx) (G : Hp) : Zx := { Z with G0 := G }
theorem StR.up {H : Hp} {σV : L2.St} {G : Hp} (s : StR Z H σV C σ) (e : Ex G (mns H C)) : StR (Z.base G) H σV C σ := ⟨s.c, s.s, e⟩
theorem StR.dn {H : Hp} {σV : L2.St} {G : Hp} (s : StR (Z.base G) H σV C σ) (e : Ex Z.G0 G) : StR Z H σV C σ := ⟨s.c, s.s, e.trans s.g⟩
theorem spV_dn {pins : List (Addr × Obj)} (N : EndsD) {f : Flow} {s : Shared} {G : Hp} {nx bk ct : L2.St → Hp → Prop} (h : SP Z.X pins (endsV (Z.base G) N) f s) (e : Ex Z.G0 G) (hn : ∀ σV H, nxV (Z.base G) N.nx σV H → nx σV H) (hb : ∀ σV H, nxV (Z.base G) N.bk σV H → bk σV H) (hc : ∀ σV H, nxV (Z.base G) N.ct σV H → ct σV H) :
    SP Z.X pins ⟨nx, rtV Z N.rt, bk, ct⟩ f s := by
  cases f with
  | next =>
    obtain ⟨σ', H', I', w⟩ := h
    exact ⟨σ', H', I', hn _ _ w⟩
  | brk =>
    obtain ⟨σ', H', I', w⟩ := h
    exact ⟨σ', H', I', hb _ _ w⟩
  | cont =>
    obtain ⟨σ', H', I', w⟩ := h
    exact ⟨σ', H', I', hc _ _ w⟩
  | ret v =>
    obtain ⟨v, σ', H', I', rv, d, C1, c1, e1, r1, w⟩ := h
    exact ⟨v, σ', H', I', rv, d, C1, c1, e.trans e1, r1, w⟩
theorem nxV_dn {N : Sl → Cells → Prop} {G : Hp} {σV : L2.St} {H : Hp} (e : Ex Z.G0 G) (h : nxV (Z.base G) N σV H) : nxV Z N σV H := by
  obtain ⟨σ, C, st, q⟩ := h
  exact ⟨σ, C, st.dn e, q⟩
theorem ws_for {tg iter : Expr} {body : List Stmt} (h : WI Z tg iter σ C fun items C1 => ∃ Pv : Nat → Sl → Cells → Prop, Pv 0 σ C1 ∧
      (∀ G, Ex Z.G0 G → ∀ i d σ' C', items[i]? = some d → Pv i σ' C' → WG (Z.base G) tg d σ' C' fun σ2 C2 => WSs (Z.base G) body σ2 C2 { N with nx := Pv (i + 1), ct := Pv (i + 1), bk := N.nx }) ∧ ∀ σ' C', Pv items.length σ' C' → N.nx σ' C')
    (hp : PassesOwn (model Z.X.prog Z.X.w) Z.X.A Z.X.env Z.X.xe) (hc : Z.X.calm = true := by rfl) (hs : ∀ x, foldedSetIterable iter Z.X.env x = pure x := by intro _; rfl) : WS Z (.For tg iter body [] pos) σ C N := fun σV H s =>
  tS_of (ps_for hp hc pi_self pg_self pss_self hs) (tI_mono (h σV H s) fun J H1 ⟨items, C1, e1, st1, w, Pv, p0, hb, hd⟩ => by
    have g1 := st1.g
    refine ⟨fun i m σV' H' => m = items.length - i ∧ i ≤ items.length ∧ nxV (Z.base (mns H1 C1)) (Pv i) σV' H', ⟨_, rfl, Nat.zero_le _, σ, C1, st1.up (Ex.refl _), p0⟩, ?_⟩
    rintro i m σV' H' ⟨rfl, hi, σ', C', st', pv⟩
    have eH : Ex (mns H1 C1) H' := st'.g.trans up_mns
    by_cases hlt : i < items.length
    · refine .inr ⟨w.goes i H' eH hlt, nxV (Z.base (mns H1 C1)) (Pv (i + 1)), fun σ2 H2 n => ⟨items.length - (i + 1), by omega, rfl, hlt, n⟩, fun x H2 y => ?_⟩
      obtain ⟨d, hd1, hy⟩ := w.yields i H' x H2 eH hlt y
      obtain ⟨e2, st2, r2⟩ := st'.yield st'.g hy
      refine tG_mono (hb (mns H1 C1) g1 i d σ' C' hd1 pv σV' H2 x st2 r2) fun σV3 H3 ⟨σ3, C3, e3, st3, w3⟩ => ?_
      intro pins sh I
      exact thn (w3 σV3 H3 st3 pins sh I) fun f s1 q => spV_dn { N with nx := Pv (i + 1), ct := Pv (i + 1), bk := N.nx } q g1 (fun _ _ z => z) (fun _ _ z => nxV_dn g1 z) (fun _ _ z => z)
    · have e : i = items.length := by omega
      subst e
      exact .inl ⟨w.stops H' eH, σ', C', st'.dn g1, hd σ' C' pv⟩)
theorem ws_while {c : Expr} {body : List Stmt} (Pv : Nat → Sl → Cells → Prop) (m0 : Nat) (h0 : Pv m0 σ C)
    (h : ∀ m σ' C', Pv m σ' C' → WT Z c σ' C' fun k C1 => (k = true → WSs Z body σ' C1 { N with nx := fun σ2 C2 => ∃ m', m' < m ∧ Pv m' σ2 C2, ct := fun σ2 C2 => ∃ m', m' < m ∧ Pv m' σ2 C2, bk := N.nx }) ∧ (k = false → N.nx σ' C1))
    (hp : PassesOwn (model Z.X.prog Z.X.w) Z.X.A Z.X.env Z.X.xe) : WS Z (.While c body [] pos) σ C N := fun σV H s =>
  tS_of (ps_while hp pt_self pss_self) (by
    refine ⟨fun m σV' H' => nxV Z (Pv m) σV' H', ⟨m0, σ, C, s, h0⟩, ?_⟩
    rintro m σV' H' ⟨σ', C', st', pv⟩
    refine tT_mono (h m σ' C' pv σV' H' st') fun k H1 ⟨C1, e1, st1, q1, q2⟩ => ?_
    cases k with
    | true =>
      refine ⟨nxV Z fun σ2 C2 => ∃ m', m' < m ∧ Pv m' σ2 C2, fun σ2 H2 ⟨σ3, C3, st3, m', hm, p3⟩ => ⟨m', hm, σ3, C3, st3, p3⟩, ?_⟩
      exact q1 rfl σV' H1 st1
    | false => exact ⟨σ', C1, st1, q2 rfl⟩)
end
end DW
set_option Elab.async false
set_option linter.all false
set_option maxRecDepth 100000
set_option maxHeartbeats 2000000
namespace DW
open PySem PySem.Spec PyProof.Rows L2 Evl
section
variable {Z : Zx} {σ : Sl} {C : Cells} {pos : Pos} {a b e : Expr} {es : List Expr} {N : EndsD}
def wipeD (σ : Sl) : List Nat → Sl
  | [] => σ
  | v :: vs => (wipeD σ vs).set v none
theorem SlR.none {K : PySem.W.Frag} {G : Hp} {σV : L2.St} {σ : Sl} (h : SlR K G σV σ) (i : Nat) : SlR K G (σV.set i none) (σ.set i none) := by
  refine ⟨by rw [List.length_set, List.length_set, h.len], fun j e q => ?_⟩
  by_cases hj : i = j
  · subst hj
    by_cases hi : i < σ.length
    · rw [List.getElem?_set_self hi] at q
      cases q
    · rw [List.getElem?_eq_none (by simpa using hi)] at q
      cases q
  · rw [List.getElem?_set_ne hj] at q ⊢
    exact h.at_ j e q
theorem SlR.wipe {K : PySem.W.Frag} {G : Hp} {σV : L2.St} {σ : Sl} (h : SlR K G σV σ) : ∀ vs : List Nat, SlR K G (wipe σV vs) (wipeD σ vs)
  | [] => h
  | v :: vs => by
    unfold L2.wipe wipeD
    exact (SlR.wipe h vs).none v
theorem wipe_set {σV : L2.St} {v : Option V} {i : Nat} : ∀ {vs : List Nat}, i ∈ vs → wipe (σV.set i v) vs = wipe σV vs
  | [], h => by cases h
  | j :: vs, h => by
    unfold L2.wipe
    by_cases e : i = j
    · subst e
      by_cases hm : i ∈ vs
      · rw [wipe_set hm]
      · have : ∀ (ws : List Nat) (s : L2.St), (∀ k ∈ ws, i ≠ k) → wipe (s.set i v) ws = (wipe s ws).set i v := by
          intro ws
          induction ws with
          | nil => intro s _; rfl
          | cons k ws ih =>
            intro s hk
            unfold L2.wipe
            rw [ih s fun z hz => hk z (List.mem_cons_of_mem _ hz), List.set_comm _ _ (hk k List.mem_cons_self)]
        rw [this vs σV fun k hk z => hm (z ▸ hk), List.set_set]
    · rcases List.mem_cons.mp h with z | z
      · exact absurd z e
      · rw [wipe_set z]
theorem wipe_wipe {σV : L2.St} : ∀ {vs : List Nat}, wipe (wipe σV vs) vs = wipe σV vs := fun {vs} => by
  have : ∀ (ws us : List Nat) (s : L2.St), (∀ k ∈ ws, k ∈ us) → wipe (wipe s ws) us = wipe s us := by
    intro ws
    induction ws with
    | nil => intro us s _; rfl
    | cons k ws ih =>
      intro us s hk
      show wipe ((wipe s ws).set k Option.none) us = wipe s us
      rw [wipe_set (hk k List.mem_cons_self)]
      exact ih us s fun z hz => hk z (List.mem_cons_of_mem _ hz)
  exact this vs vs σV fun _ h => h
def Zx.blk (Z : Zx) (s : Shared) (H : Hp) (scope : Scope) (cl : List (Str × Addr)) (Cc : Addr) (fp : List Addr) (G : Hp) : Zx := ⟨Z.X.blk s H scope (compEnvC scope cl Cc Z.X.env) fp, G, fun _ _ _ _ => False, Z.tt⟩
def gAll (X : Cx) (scope : Scope) (tg : Expr) : TG := fun v σ H Q => ∀ (s : Shared) (H0 : Hp) (Cc : Addr) (cl : List (Str × Addr)) (fp : List Addr), tG (X.blk s H0 scope (compEnvC scope cl Cc X.env) fp) tg v σ H Q
def eAll (X : Cx) (scope : Scope) (e : Expr) : TE := fun σ H Q => ∀ (s : Shared) (H0 : Hp) (Cc : Addr) (cl : List (Str × Addr)) (fp : List Addr), tE (X.blk s H0 scope (compEnvC scope cl Cc X.env) fp) e σ H Q
def tTs (X : Cx) (ifs : List Expr) : TT := fun σ H Q => ∀ pins s, Inv X pins σ H s →
    wpAny (model X.prog X.w) X.A (forIn ifs true fun c r => if r = true then do let ok ← isTrue c X.env (eval c X.env); pure (ForInStep.yield ok) else pure (ForInStep.yield r)) (TP X pins σ Q) X.xe s
theorem pts_self {X : Cx} {ifs : List Expr} : PTs X ifs (tTs X ifs) := ⟨fun pins s _ _ _ I h => h pins s I⟩
theorem tTs_of {X : Cx} {ifs : List Expr} {t : TT} (h : PTs X ifs t) {σ : L2.St} {H : Hp} {Q : Bool → Hp → Prop} (q : t σ H Q) : tTs X ifs σ H Q := fun pins s I => h.run pins s σ H Q I q
def tAll (X : Cx) (scope : Scope) (ifs : List Expr) : TT := fun σ H Q => ∀ (s : Shared) (H0 : Hp) (Cc : Addr) (cl : List (Str × Addr)) (fp : List Addr), tTs (X.blk s H0 scope (compEnvC scope cl Cc X.env) fp) ifs σ H Q
def WTs (Z : Zx) (ifs : List Expr) (σ : Sl) (C : Cells) (Q : Bool → Cells → Prop) : Prop := ∀ σV H, StR Z H σV C σ → tTs Z.X ifs σV H (PostT Z H σV C σ Q)
theorem wts_nil {Q : Bool → Cells → Prop} (q : Q true C) : WTs Z [] σ C Q := fun σV H s => tTs_of pts_nil ⟨C, Ex.refl _, s, q⟩
theorem wts_one {Q : Bool → Cells → Prop} (h : WT Z e σ C Q) : WTs Z [e] σ C Q := fun σV H s => tTs_of (pts_one pt_self) (h σV H s)
inductive Tgt : List Nat → D → Sl → Sl → Prop
  | one (i : Nat) (d : D) (σ : Sl) : Tgt [i] d σ (σ.set i (some d))
  | tup2 (i j : Nat) (d e : D) (σ : Sl) : Tgt [i, j] (.tup [d, e]) σ ((σ.set i (some d)).set j (some e))
  | tup3 (i j k : Nat) (d e f : D) (σ : Sl) : Tgt [i, j, k] (.tup [d, e, f]) σ (((σ.set i (some d)).set j (some e)).set k (some f))
structure TgtOk (X : Cx) (tg : Expr) (vs ws : List Nat) : Prop where
  sub : ∀ i ∈ ws, i ∈ vs
  run : ∀ (K : PySem.W.Frag) (G : Hp) (v : V) (d : D) (σV : L2.St) (σ σ2 : Sl) (H : Hp) (Q : L2.St → Hp → Prop), X.K = K → SlR K G σV σ → Rep K G v d → Ex G H → Tgt ws d σ σ2 → (∀ σV2, SlR K G σV2 σ2 → wipe σV2 vs = wipe σV vs → Q σV2 H) → tG X tg v σV H Q
theorem tgt_one {X : Cx} {i : Nat} {x : Str} {vs : List Nat} (hi : i ∈ vs) (hN : X.N.Nodup) (hx : X.N[i]? = some x := by rfl) (hl : Loc X.env.scope x := by first | exact Or.inl rfl | exact Or.inr rfl)
    (hf : X.fn x = true ∨ X.env.scope.names.lookup x = some .local := by first | exact .inl rfl | exact .inr rfl | assumption) : TgtOk X (.Name x pos) vs [i] :=
  ⟨fun j hj => by have e : j = i := by simpa using hj
                  exact e ▸ hi, fun K G v d σV σ σ2 H Q eK s r ex t q => by
    cases t
    exact tG_of (pg_name hN hx hl hf) (q _ (s.set r i) (wipe_set hi))⟩
theorem tgt_tup2 {X : Cx} {i j : Nat} {x y : Str} {p1 p2 : Pos} {k : Nat} {vs : List Nat} (hi : i ∈ vs) (hj : j ∈ vs) (hN : X.N.Nodup) (hc : X.calm = true := by rfl) (hx : X.N[i]? = some x := by rfl) (hy : X.N[j]? = some y := by rfl) (hl : Loc X.env.scope x := by first | exact Or.inl rfl | exact Or.inr rfl) (hl2 : Loc X.env.scope y := by first | exact Or.inl rfl | exact Or.inr rfl)
    (hf : X.fn x = true ∨ X.env.scope.names.lookup x = some .local := by first | exact .inl rfl | exact .inr rfl | assumption) (hf2 : X.fn y = true ∨ X.env.scope.names.lookup y = some .local := by first | exact .inl rfl | exact .inr rfl | assumption) : TgtOk X (.Tuple [.Name x p1, .Name y p2] k pos) vs [i, j] :=
  ⟨fun z hz => by
    rcases List.mem_cons.mp hz with e | e
    · exact e ▸ hi
    · have e : z = j := by simpa using e
      exact e ▸ hj, fun K G v d σV σ σ2 H Q eK s r ex t q => by
    cases t with
    | tup2 _ _ d e _ =>
      cases r with
      | tup h1 h2 =>
        obtain ⟨v1, v2, rfl, r1, r2⟩ := reps2 h2
        subst eK
        exact tG_of (pg_tup (n := 2) hc (pgs_cons (pg_name hN hx hl hf) (pgs_cons (pg_name hN hy hl2 hf2) pgs_nil))) ⟨_, _, rfl, ex_t ex h1, rfl, _, _, rfl, _, _, rfl, rfl, q _ ((s.set r1 i).set r2 j) (by rw [wipe_set hj, wipe_set hi])⟩⟩
theorem tgt_tup3 {X : Cx} {i j l : Nat} {x y z : Str} {p1 p2 p3 : Pos} {k : Nat} {vs : List Nat} (hi : i ∈ vs) (hj : j ∈ vs) (hk : l ∈ vs) (hN : X.N.Nodup) (hc : X.calm = true := by rfl) (hx : X.N[i]? = some x := by rfl) (hy : X.N[j]? = some y := by rfl) (hz : X.N[l]? = some z := by rfl) (hl : Loc X.env.scope x := by first | exact Or.inl rfl | exact Or.inr rfl) (hl2 : Loc X.env.scope y := by first | exact Or.inl rfl | exact Or.inr rfl) (hl3 : Loc X.env.scope z := by first | exact Or.inl rfl | exact Or.inr rfl)
    (hf : X.fn x = true ∨ X.env.scope.names.lookup x = some .local := by first | exact .inl rfl | exact .inr rfl | assumption) (hf2 : X.fn y = true ∨ X.env.scope.names.lookup y = some .local := by first | exact .inl rfl | exact .inr rfl | assumption) (hf3 : X.fn z = true ∨ X.env.scope.names.lookup z = some .local := by first | exact .inl rfl | exact .inr rfl | assumption) : TgtOk X (.Tuple [.Name x p1, .Name y p2, .Name z p3] k pos) vs [i, j, l] :=
  ⟨fun u hu => by
    rcases List.mem_cons.mp hu with e | e
    · exact e ▸ hi
    · rcases List.mem_cons.mp e with e | e
      · exact e ▸ hj
      · have e : u = l := by simpa using e
        exact e ▸ hk, fun K G v d σV σ σ2 H Q eK s r ex t q => by
    cases t with
    | tup3 _ _ _ d e f _ =>
      cases r with
      | tup h1 h2 =>
        obtain ⟨v1, v2, v3, rfl, r1, r2, r3⟩ := reps3 h2
        subst eK
        exact tG_of (pg_tup (n := 3) hc (pgs_cons (pg_name hN hx hl hf) (pgs_cons (pg_name hN hy hl2 hf2) (pgs_cons (pg_name hN hz hl3 hf3) pgs_nil)))) ⟨_, _, rfl, ex_t ex h1, rfl, _, _, rfl, _, _, rfl, _, _, rfl, rfl, q _ (((s.set r1 i).set r2 j).set r3 l) (by rw [wipe_set hk, wipe_set hj, wipe_set hi])⟩⟩
def LcR (Z : Zx) (scope : Scope) (vs ws : List Nat) (ifs : List Expr) (elt : Expr) (σ : Sl) (Q : D → Cells → Prop) (items : List D) (C1 : Cells) : Prop :=
  ∃ Pv : Nat → List D → Cells → Prop, Pv 0 [] C1 ∧
    (∀ i d acc C', items[i]? = some d → Pv i acc C' → ∃ σ2, Tgt ws d (wipeD σ vs) σ2 ∧ ∀ s H cl Cc fp G Dl, C' Dl = none →
      WTs (Z.blk s H scope cl Cc fp G) ifs σ2 (setC C' Dl (.lst acc)) fun k C3 => (k = false → ∃ C5, C5 Dl = none ∧ C3 = setC C5 Dl (.lst acc) ∧ Pv (i + 1) acc C5) ∧
        (k = true → ∀ s H cl Cc fp, WE (Z.blk s H scope cl Cc fp G) elt σ2 C3 fun y C4 => ∃ C5, C5 Dl = none ∧ C4 = setC C5 Dl (.lst acc) ∧ acc.length < sizeLine ∧ Pv (i + 1) (acc ++ [y]) C5)) ∧
    ∀ acc C', Pv items.length acc C' → ∀ Dl, C' Dl = none → ∃ d C2, ((d = .cell Dl ∧ C2 = setC C' Dl (.lst acc)) ∨ (d = .lst acc ∧ C2 = C')) ∧ Q d C2
theorem lc_run {tg iter elt : Expr} {ifs : List Expr} {scope : Scope} {vs ws : List Nat} {Q : D → Cells → Prop} (ht : ∀ s H cl Cc fp, TgtOk (Z.X.blk s H scope (compEnvC scope cl Cc Z.X.env) fp) tg vs ws)
    (h : WI Z tg iter σ C (LcR Z scope vs ws ifs elt σ Q)) {σV : L2.St} {H : Hp} (s : StR Z H σV C σ) {R : VK} (kR : ∀ v H', PostE Z H σV C σ Q v H' → R v H') : tLc (tI Z.X tg iter) (gAll Z.X scope tg) (tAll Z.X scope ifs) (eAll Z.X scope elt) vs σV H R := by
  refine tI_mono (h σV H s) fun J H1 ⟨items, C1, e1, st1, w, Pv, p0, hb, hd⟩ => fun Dl hDl => ?_
  have hDc : C1 Dl = none := st1.c.fresh hDl
  obtain ⟨c0, e0⟩ := st1.cell (a := Dl) (c := .lst []) (o := .lst []) hDl (.lst upd_same .nil)
  refine ⟨fun i m H' => m = items.length - i ∧ i ≤ items.length ∧ ∃ acc C', Pv i acc C' ∧ C' Dl = none ∧ StR (Z.base (mns H1 C1)) H' σV (setC C' Dl (.lst acc)) σ, ⟨_, rfl, Nat.zero_le _, [], C1, p0, hDc, ⟨c0, st1.s.ex e0, e0⟩⟩, ?_⟩
  rintro i m H' ⟨rfl, hi, acc, C', pv, hc', st'⟩
  have eH : Ex (mns H1 C1) H' := st'.g.trans up_mns
  by_cases hlt : i < items.length
  · refine .inr ⟨w.goes i H' eH hlt, fun H2 => ∃ acc C', Pv (i + 1) acc C' ∧ C' Dl = none ∧ StR (Z.base (mns H1 C1)) H2 σV (setC C' Dl (.lst acc)) σ, fun H2 ⟨acc2, C2, p2, hc2, st2⟩ => ⟨items.length - (i + 1), by omega, rfl, hlt, acc2, C2, p2, hc2, st2⟩, fun x H2 y => ?_⟩
    obtain ⟨d, hd1, hy⟩ := w.yields i H' x H2 eH hlt y
    obtain ⟨e2, st2, r2⟩ := st'.yield st'.g hy
    obtain ⟨σ2, tgt, hw⟩ := hb i d acc C' hd1 pv
    intro s0 H0 Cc cl fp
    refine (ht s0 H0 cl Cc fp).run Z.X.K _ x d (wipe σV vs) (wipeD σ vs) σ2 H2 _ rfl (st2.s.wipe vs) r2 up_mns tgt fun σV2 sl2 ew => ⟨by rw [ew, wipe_wipe], ?_⟩
    intro s3 H3 Cc3 cl3 fp3
    have stB : StR (Z.blk s3 H3 scope cl3 Cc3 fp3 (mns H1 C1)) H2 σV2 (setC C' Dl (.lst acc)) σ2 := ⟨st2.c, sl2, st2.g⟩
    refine fun pins sh I => thn (hw s3 H3 cl3 Cc3 fp3 (mns H1 C1) Dl hc' σV2 H2 stB pins sh I) fun k s1 ⟨H4, I4, C4, e4, st4, q1, q2⟩ => ⟨H4, I4, ?_⟩
    cases k with
    | false =>
      obtain ⟨C5, hc5, ec5, p5⟩ := q1 rfl
      subst ec5
      exact ⟨acc, C5, p5, hc5, st4.c, st'.s.ex (e2.trans e4), st4.g⟩
    | true =>
      intro s5 H5 Cc5 cl5 fp5
      have st5 : StR (Z.blk s5 H5 scope cl5 Cc5 fp5 (mns H1 C1)) H4 σV2 C4 σ2 := ⟨st4.c, st4.s, st4.g⟩
      refine tE_mono (q2 rfl s5 H5 cl5 Cc5 fp5 σV2 H4 st5) fun y H6 ⟨dy, C6, e6, st6, r6, C5, hc5, ec5, hz, p5⟩ => ?_
      subst ec5
      cases st6.c.ok Dl _ setC_same with
      | @lst vs0 _ g1 g2 =>
        have g3 : Reps Z.X.K (mns H6 (setC C5 Dl (.lst acc))) (vs0 ++ [y]) (acc ++ [dy]) := g2.append (.cons r6 .nil)
        obtain ⟨c7, e7⟩ := st6.put (c' := .lst (acc ++ [dy])) (o := .lst (vs0 ++ [y])) setC_same (.lst upd_same g3)
        rw [setC_setC] at c7 e7
        refine ⟨vs0, g1, by rw [g2.length]; exact hz, acc ++ [dy], C5, p5, hc5, c7, ?_, ?_⟩
        · rw [e7]
          exact st'.s.ex ((e2.trans e4).trans e6)
        · rw [e7]
          exact st6.g
  · have e : i = items.length := by omega
    subst e
    refine .inl ⟨w.stops H' eH, ?_⟩
    obtain ⟨d, C2, hk, q⟩ := hd acc C' pv Dl hc'
    have sub : Ex (mns H C) (mns H' (setC C' Dl (.lst acc))) := e1.trans st'.g
    rcases hk with ⟨rfl, rfl⟩ | ⟨rfl, rfl⟩
    · exact kR _ _ ⟨_, _, sub, st'.dn st1.g, .opq _, q⟩
    · obtain ⟨c2, e2, r2⟩ := st'.c.freeze (a := Dl) (ds := acc) setC_same
      rw [delC_setC hc'] at c2 e2 r2
      exact kR _ _ ⟨_, _, sub.trans e2, ⟨c2, st'.s.ex e2, (st1.g.trans st'.g).trans e2⟩, r2, q⟩
theorem we_lc {tg iter elt : Expr} {ifs : List Expr} {scope : Scope} (own : List (Str × Nat)) (ws : List Nat) {Q : D → Cells → Prop} (ht : ∀ s H cl Cc fp, TgtOk (Z.X.blk s H scope (compEnvC scope cl Cc Z.X.env) fp) tg (own.map (·.2)) ws)
    (hN : Z.X.N.Nodup) (ok : BlkOk Z.X.N Z.X.env.scope scope own) (h : WI Z tg iter σ C (LcR Z scope (own.map (·.2)) ws ifs elt σ Q)) (hc : Z.X.calm = true := by rfl) (hs : ∀ x, foldedSetIterable iter Z.X.env x = pure x := by intro _; rfl) :
    WE Z (.ListComp elt [⟨tg, iter, ifs, 0⟩] scope pos) σ C Q := fun σV H s =>
  tE_of (pe_lc (own := own) hc hN pi_self ok (g := gAll Z.X scope tg) (tt := tAll Z.X scope ifs) (te := eAll Z.X scope elt) (fun s H Cc cl fp => ⟨fun pins sh σ H v u Q I r h => h s _ Cc cl fp pins sh u I r⟩) (fun s H Cc cl fp => ⟨fun pins sh σ H Q I h => h s _ Cc cl fp pins sh I⟩) (fun s H Cc cl fp => ⟨fun pins sh σ H Q I h => h s _ Cc cl fp pins sh I⟩) hs) (lc_run ht h s fun _ _ q => q)
theorem ws_setLc (i : Nat) {y : Str} {py spos : Pos} {tg iter elt : Expr} {ifs : List Expr} {scope : Scope} (own : List (Str × Nat)) (ws : List Nat) (ht : ∀ s H cl Cc fp, TgtOk (Z.X.blk s H scope (compEnvC scope cl Cc Z.X.env) fp) tg (own.map (·.2)) ws)
    (hN : Z.X.N.Nodup) (ok : BlkOk Z.X.N Z.X.env.scope scope own) (h : WI Z tg iter σ C (LcR Z scope (own.map (·.2)) ws ifs elt σ fun d C1 => N.nx (σ.set i (some d)) C1)) (hy : Z.X.N[i]? = some y := by rfl) (hyl : Z.X.env.scope.names.lookup y = some .local := by rfl)
    (hsw : swapsWith (.ListComp elt [⟨tg, iter, ifs, 0⟩] scope pos) (some (.Name y py)) spos.line Z.X.env = pure true := by exact sw_true rfl rfl rfl (by decide +kernel)) (hc : Z.X.calm = true := by rfl) (hs : ∀ x, foldedSetIterable iter Z.X.env x = pure x := by intro _; rfl) :
    WS Z (.Assign [.Name y py] (.ListComp elt [⟨tg, iter, ifs, 0⟩] scope pos) spos) σ C N := fun σV H s =>
  tS_of (ps_setLc (own := own) hc hN hy hyl hsw pi_self ok (g := gAll Z.X scope tg) (tt := tAll Z.X scope ifs) (te := eAll Z.X scope elt) (fun s H Cc cl fp => ⟨fun pins sh σ H v u Q I r h => h s _ Cc cl fp pins sh u I r⟩) (fun s H Cc cl fp => ⟨fun pins sh σ H Q I h => h s _ Cc cl fp pins sh I⟩) (fun s H Cc cl fp => ⟨fun pins sh σ H Q I h => h s _ Cc cl fp pins sh I⟩) hs)
    (lc_run ht h s fun v H1 ⟨d, C1, e1, st1, r1, q⟩ => ⟨_, C1, ⟨st1.c, st1.s.set r1 i, st1.g⟩, q⟩)
end
end DW
set_option Elab.async false
set_option linter.all false
set_option maxRecDepth 100000
set_option maxHeartbeats 2000000
namespace DW
open PySem PySem.Spec PyProof.Rows L2 Evl
abbrev PreD := List D → Cells → (D → Cells → Prop) → (Addr → List (Str × D) → Cells → Prop) → Prop
def SpD (K : PySem.W.Frag) (T : List (Addr × Str)) (P : PreD) : Sp := fun vs H Q E => ∃ ds C R RX, COk K T H C ∧ Reps K (mns H C) vs ds ∧ P ds C R RX ∧
  (∀ v H' d C', Ex (mns H C) (mns H' C') → COk K T H' C' → Rep K (mns H' C') v d → R d C' → Q v H') ∧
  (∀ cx dd fsV fs H' C', Ex (mns H C) (mns H' C') → COk K T H' C' → H' dd = some (.xd fsV) → C' dd = none → RepF K (mns H' C') fsV fs → RX cx fs C' → E (.ref cx) (some dd) H')
def WZ (Z : Zx) : WX := fun cls d σV H' => ∃ cx dd fsV fs σ C', cls = .ref cx ∧ d = some dd ∧ StR Z H' σV C' σ ∧ H' dd = some (.xd fsV) ∧ C' dd = none ∧ RepF Z.X.K (mns H' C') fsV fs ∧ Z.xw cx fs σ C'
def TakesZ (Z : Zx) : Prop := Takes Z.X (WZ Z)
def zOf (P : Program) (w : World) (K : PySem.W.Frag) (mg : Str → Option Value) (base : Heap) (N : List Str) (qual : Str) (scope : Scope) (f : Addr) (cd : Value) (A : Around) (outer : List Env) (s : Shared) (H : Hp) (E : XK) (G0 : Hp) (xw : Addr → List (Str × D) → Sl → Cells → Prop) (T : List (Addr × Str)) : Zx :=
  ⟨cxOf (L2.CX P w) P w K mg base N qual scope f cd A outer s H E, G0, xw, T⟩
def startD (N : List Str) (ds : List D) : Sl := ds.map some ++ List.replicate (N.length - ds.length) none
theorem slR_start {K : PySem.W.Frag} {G : Hp} {N : List Str} {vs : List V} {ds : List D} (r : Reps K G vs ds) : SlR K G (L2.start N vs) (startD N ds) := by
  refine ⟨by simp [L2.start, startD, r.length], fun i d q => ?_⟩
  unfold startD at q
  unfold L2.start
  by_cases hi : i < ds.length
  · rw [List.getElem?_append_left (by simpa using hi), List.getElem?_map] at q
    cases e : ds[i]? with
    | none => rw [e] at q; cases q
    | some d0 =>
      rw [e] at q
      cases q
      obtain ⟨v, h1, h2⟩ := r.get e
      exact ⟨v, by rw [List.getElem?_append_left (by simpa [r.length] using hi), List.getElem?_map, h1]; rfl, h2⟩
  · rw [List.getElem?_append_right (by simpa using hi), List.getElem?_replicate] at q
    split at q <;> cases q
structure BodyOk (Z : Zx) (k : Nat) : Prop where
  tk : TakesZ Z
  po : PassesOwn (model Z.X.prog Z.X.w) Z.X.A Z.X.env Z.X.xe
  room : Room k Z.X.A
theorem BodyOk.hu {Z : Zx} {k : Nat} (b : BodyOk Z k) : Z.X.A.units + 64 < cLine := b.room.units
section
variable {P : Program} {w : World} {K : PySem.W.Frag} {mg : Str → Option Value} {base : Heap} {x qual : Str} {params : Arguments} {body : List Stmt} {scope : Scope} {dvs : List V} {kws : List (Str × V)} {f : Addr} {fd : FuncData}
theorem body_ok {T : List (Addr × Str)} {N ps : List Str} {k : Nat} {pre : PreD} (F : FunD K x qual params body scope dvs kws f fd) (S : FnScope N ps scope) (len : ∀ ds C R RX, pre ds C R RX → ds.length = ps.length)
    (h : ∀ (cdv : Value) (A : Around) (outer : List Env) (s : Shared) (H : Hp) (E : XK) (G0 : Hp) (ds : List D) (C : Cells) (R : D → Cells → Prop) (RX : Addr → List (Str × D) → Cells → Prop),
      BodyOk (zOf P w K mg base N qual scope f cdv A outer s H E G0 (fun cx fs _ C => RX cx fs C) T) k → pre ds C R RX → WSs (zOf P w K mg base N qual scope f cdv A outer s H E G0 (fun cx fs _ C => RX cx fs C) T) body (startD N ds) C { nx := fun _ C' => R .non C', rt := R }) :
    FnOk P w K mg base (L2.CX P w) (k + 1) f fd ps (SpD K T pre) := by
  refine F.ok S (fun vs H Q E ⟨ds, C, R, RX, _, r, p, _⟩ => r.length.trans (len ds C R RX p)) fun cdv A outer s H vs Q E hr hsp => ?_
  obtain ⟨ds, C, R, RX, c, r, p, hq, hx⟩ := hsp
  refine ⟨_, pss_self, ?_⟩
  have tk0 : Takes (cxOf (L2.CX P w) P w K mg base N qual scope f cdv A outer s H E) (fun cls d _ H => E cls d H) := takes_of rfl rfl rfl rfl
  have tk : TakesZ (zOf P w K mg base N qual scope f cdv A outer s H E (mns H C) (fun cx fs _ C => RX cx fs C) T) := Takes.imp tk0 fun cls d σV H' ⟨cx, dd, fsV, fs, σ, C', e1, e2, st, h1, h2, h3, h4⟩ => by
    subst e1 e2
    exact hx cx dd fsV fs H' C' st.g st.c h1 h2 h3 h4
  have po : PassesOwn (model P w) (cxOf (L2.CX P w) P w K mg base N qual scope f cdv A outer s H E).A (cxOf (L2.CX P w) P w K mg base N qual scope f cdv A outer s H E).env (cxOf (L2.CX P w) P w K mg base N qual scope f cdv A outer s H E).xe := passes_of (X := cxOf (L2.CX P w) P w K mg base N qual scope f cdv A outer s H E) rfl
  have hb := h cdv A outer s H E (mns H C) ds C R RX ⟨tk, po, hr⟩ p (L2.start N vs) H ⟨c, slR_start r, Ex.refl _⟩
  intro pins sh I
  refine thn (hb pins sh I) fun f s1 q => ?_
  cases f with
  | next =>
    obtain ⟨σ', H', I', σ1, C1, st1, q⟩ := q
    exact ⟨σ', H', I', hq .non H' .non C1 st1.g st1.c .non q⟩
  | ret u =>
    obtain ⟨v, σ', H', I', rv, d, C1, c1, e1, r1, q⟩ := q
    exact ⟨v, σ', H', I', rv, hq v H' d C1 e1 c1 r1 q⟩
  | brk =>
    obtain ⟨_, _, _, _, _, _, q⟩ := q
    exact False.elim q
  | cont =>
    obtain ⟨_, _, _, _, _, _, q⟩ := q
    exact False.elim q
structure HasF (P : Program) (w : World) (K : PySem.W.Frag) (T : List (Addr × Str)) (mg : Str → Option Value) (base : Heap) (x : Str) (ps : List Str) (k : Nat) (pre : PreD) : Prop where
  ex : ∃ f fd, mg x = some (.ref f) ∧ PySem.W.keepIn K (.ref f) = true ∧ Binds K fd ps [] ∧ FnOk P w K mg base (L2.CX P w) k f fd ps (SpD K T pre)
end
section
variable {Z : Zx} {σ : Sl} {C : Cells} {pos p : Pos} {e : Expr} {es : List Expr} {x : Str} {ps : List Str} {k j : Nat} {pre : PreD}
theorem we_call {Q : D → Cells → Prop} (F : HasF Z.X.prog Z.X.w Z.X.K Z.tt Z.X.mg Z.X.base x ps k pre) (hr : Room j Z.X.A) (hk : k ≤ j) (tk : TakesZ Z) (h : WA Z (e :: es) σ C fun ds C1 => pre ds C1 Q fun cx fs C2 => Z.xw cx fs σ C2) (hg : Gl Z.X x := by rfl) (hdb : (x == ("__debug__" : Str)) = false := by decide)
    (he : starEach (e :: es) Z.X.env = (false, eval e Z.X.env) :: starEach es Z.X.env := by rfl) (hpl : (backTo pos (starEach es Z.X.env)).any (·.1) = false := by rfl) : WE Z (.Call (.Name x p) (e :: es) [] pos) σ C Q := fun σV H s => by
  obtain ⟨f, fd, hm, kp, hb, hF⟩ := F.ex
  refine tE_of (pe_callSD (E := fun σV cls d H' => WZ Z cls d σV H') hF (hr.mono hk) hg hm kp hb .nil (fun σ' => ?_) pa_self hdb he hpl) (tA_mono (h σV H s) fun vs H1 ⟨ds, C1, e1, s1, r1, q⟩ => ?_)
  · intro pins H0 s0 e' s' I c
    exact tk e' s' (XE.of_call I (fun _ _ _ h => h) c)
  · rw [List.append_nil]
    exact ⟨ds, C1, Q, _, s1.c, r1, q, fun v H' d C' e2 c2 r2 q2 => ⟨d, C', e1.trans e2, s1.ex c2 e2, r2, q2⟩, fun cx dd fsV fs H' C' e2 c2 h1 h2 h3 h4 => ⟨cx, dd, fsV, fs, σ, C', rfl, rfl, s1.ex c2 e2, h1, h2, h3, h4⟩⟩
theorem takes_blk {s : Shared} {H : Hp} {scope : Scope} {cl : List (Str × Addr)} {Cc : Addr} {fp : List Addr} {G : Hp} : TakesZ (Z.blk s H scope cl Cc fp G) := fun u s' x => by
  obtain ⟨_, _, _, _, _, _, _, _, _, _, _, _, _, _, _, _, w⟩ := x
  obtain ⟨_, _, _, _, _, _, _, _, _, _, _, _, w⟩ := w
  exact w
theorem takes_base {G : Hp} (h : TakesZ Z) (e : Ex Z.G0 G) : TakesZ (Z.base G) := Takes.imp h fun cls d σV H' ⟨cx, dd, fsV, fs, σ, C', e1, e2, st, h1, h2, h3, h4⟩ => ⟨cx, dd, fsV, fs, σ, C', e1, e2, st.dn e, h1, h2, h3, h4⟩
theorem BodyOk.base (b : BodyOk Z k) {G : Hp} (e : Ex Z.G0 G) : BodyOk (Z.base G) k := ⟨takes_base b.tk e, b.po, b.room⟩
end
end DW
set_option Elab.async false
set_option linter.all false
set_option maxRecDepth 100000
set_option maxHeartbeats 2000000
namespace DW
open PySem PySem.Spec PyProof.Rows L2 Evl
def Cext (C C' : Cells) : Prop := ∀ a c, C a = some c → C' a = some c
theorem Cext.refl (C : Cells) : Cext C C := fun _ _ h => h
theorem Cext.set {C : Cells} {p : Addr} {c : Ct} (h : C p = none) : Cext C (setC C p c) := fun a c' e => by
  rw [setC_ne]
  · exact e
  · intro z
    rw [z, h] at e
    cases e
theorem setC_comm {C : Cells} {p q : Addr} {c d : Ct} (h : p ≠ q) : setC (setC C p c) q d = setC (setC C q d) p c := by
  funext b
  unfold setC
  by_cases h1 : b = p
  · by_cases h2 : b = q
    · exact absurd (h1.symm.trans h2) h
    · rw [if_neg h2, if_pos h1, if_pos h1]
  · by_cases h2 : b = q
    · rw [if_pos h2, if_neg h1, if_pos h2]
    · rw [if_neg h2, if_neg h1, if_neg h1, if_neg h2]
theorem ne_cell {C : Cells} {p q : Addr} {c : Ct} (h : C p = some c) (h' : C q = none) : p ≠ q := fun e => by rw [e, h'] at h; cases h
section
variable {Z : Zx} {σ : Sl} {C : Cells} {pos : Pos} {a b e elt : Expr} {es ifs : List Expr} {N : EndsD} {scope : Scope} {vs ws : List Nat} {items : List D} {Q : D → Cells → Prop}
theorem lc_map {α : Type} (xs : List α) (enc f : α → D) {σ2 : α → Sl} (hi : items = xs.map enc) (hz : xs.length ≤ sizeLine) (ht : ∀ x ∈ xs, Tgt ws (enc x) (wipeD σ vs) (σ2 x))
    (h : ∀ x ∈ xs, ∀ s H cl Cc fp G C', Cext C C' → WE (Z.blk s H scope cl Cc fp G) elt (σ2 x) C' fun y C4 => y = f x ∧ C4 = C') (q : Q (.lst (xs.map f)) C) : LcR Z scope vs ws [] elt σ Q items C := by
  subst hi
  refine ⟨fun i acc C' => i ≤ xs.length ∧ acc = (xs.take i).map f ∧ C' = C, ⟨Nat.zero_le _, rfl, rfl⟩, ?_, ?_⟩
  · rintro i d acc C' hi ⟨_, rfl, rfl⟩
    rw [List.getElem?_map] at hi
    cases ex : xs[i]? with
    | none => rw [ex] at hi; cases hi
    | some x =>
      rw [ex] at hi
      cases hi
      obtain ⟨hlt, ex2⟩ := List.getElem?_eq_some_iff.mp ex
      have hm : x ∈ xs := ex2 ▸ List.getElem_mem hlt
      refine ⟨σ2 x, ht x hm, fun s H cl Cc fp G Dl hD => wts_nil ⟨fun z => Bool.noConfusion z, fun _ s H cl Cc fp => ?_⟩⟩
      refine (h x hm s H cl Cc fp G _ (Cext.set hD)).mono fun y C4 ⟨ey, eC⟩ => ⟨C', hD, eC, ?_, hlt, ?_, rfl⟩
      · rw [List.length_map, List.length_take]
        omega
      · rw [ey, List.take_succ, ex]
        simp
  · rintro acc C' ⟨_, rfl, rfl⟩ Dl hD
    refine ⟨_, _, .inr ⟨rfl, rfl⟩, ?_⟩
    rw [List.length_map, List.take_length]
    exact q
theorem lc_filter {α : Type} (xs : List α) (enc f : α → D) (t : α → Bool) {σ2 : α → Sl} (hi : items = xs.map enc) (hz : xs.length ≤ sizeLine) (ht : ∀ x ∈ xs, Tgt ws (enc x) (wipeD σ vs) (σ2 x))
    (hp : ∀ x ∈ xs, ∀ s H cl Cc fp G C', Cext C C' → WTs (Z.blk s H scope cl Cc fp G) ifs (σ2 x) C' fun k C4 => k = t x ∧ C4 = C')
    (h : ∀ x ∈ xs, t x = true → ∀ s H cl Cc fp G C', Cext C C' → WE (Z.blk s H scope cl Cc fp G) elt (σ2 x) C' fun y C4 => y = f x ∧ C4 = C') (q : Q (.lst ((xs.filter t).map f)) C) : LcR Z scope vs ws ifs elt σ Q items C := by
  subst hi
  refine ⟨fun i acc C' => i ≤ xs.length ∧ acc = ((xs.take i).filter t).map f ∧ C' = C, ⟨Nat.zero_le _, rfl, rfl⟩, ?_, ?_⟩
  · rintro i d acc C' hi ⟨_, rfl, rfl⟩
    rw [List.getElem?_map] at hi
    cases ex : xs[i]? with
    | none => rw [ex] at hi; cases hi
    | some x =>
      rw [ex] at hi
      cases hi
      obtain ⟨hlt, ex2⟩ := List.getElem?_eq_some_iff.mp ex
      have hm : x ∈ xs := ex2 ▸ List.getElem_mem hlt
      refine ⟨σ2 x, ht x hm, fun s H cl Cc fp G Dl hD => ?_⟩
      refine (fun σV H0 st => ?_)
      have hw := hp x hm s H cl Cc fp G _ (Cext.set (c := .lst (((xs.take i).filter t).map f)) hD) σV H0 st
      refine fun pins sh I => thn (hw pins sh I) fun k s1 ⟨H4, I4, C4, e4, st4, ek, eC⟩ => ⟨H4, I4, C4, e4, st4, ?_⟩
      subst ek eC
      refine ⟨fun hk => ⟨C', hD, rfl, by omega, ?_, rfl⟩, fun hk s H cl Cc fp => ?_⟩
      · rw [List.take_succ, ex]
        simp [hk]
      · refine (h x hm hk s H cl Cc fp G _ (Cext.set hD)).mono fun y C4 ⟨ey, eC⟩ => ⟨C', hD, eC, ?_, by omega, ?_, rfl⟩
        · rw [List.length_map]
          have := List.length_filter_le t (xs.take i)
          rw [List.length_take] at this
          omega
        · rw [ey, List.take_succ, ex]
          simp [hk]
  · rintro acc C' ⟨_, rfl, rfl⟩ Dl hD
    refine ⟨_, _, .inr ⟨rfl, rfl⟩, ?_⟩
    rw [List.length_map, List.take_length]
    exact q
theorem ws_forL {tg iter : Expr} {body : List Stmt} (h : WI Z tg iter σ C fun items C1 => ∃ (α : Type) (xs : List α) (enc : α → D) (Pv : List α → Sl → Cells → Prop), items = xs.map enc ∧ Pv [] σ C1 ∧
      (∀ G, Ex Z.G0 G → ∀ pre x post σ' C', xs = pre ++ x :: post → Pv pre σ' C' → WG (Z.base G) tg (enc x) σ' C' fun σ2 C2 => WSs (Z.base G) body σ2 C2 { N with nx := Pv (pre ++ [x]), ct := Pv (pre ++ [x]), bk := N.nx }) ∧ ∀ σ' C', Pv xs σ' C' → N.nx σ' C')
    (hp : PassesOwn (model Z.X.prog Z.X.w) Z.X.A Z.X.env Z.X.xe) (hc : Z.X.calm = true := by rfl) (hs : ∀ x, foldedSetIterable iter Z.X.env x = pure x := by intro _; rfl) : WS Z (.For tg iter body [] pos) σ C N := by
  refine ws_for ?_ hp hc hs
  intro σV H st
  refine tI_mono (h σV H st) fun J H' ⟨items, C1, e1, st1, w, α, xs, enc, Pv, ei, p0, hb, hd⟩ => ⟨items, C1, e1, st1, w, fun i σ' C' => i ≤ xs.length ∧ Pv (xs.take i) σ' C', ⟨Nat.zero_le _, p0⟩, ?_, ?_⟩
  · rintro G hG i d σ' C' hi ⟨_, pv⟩
    rw [ei, List.getElem?_map] at hi
    cases ex : xs[i]? with
    | none => rw [ex] at hi; cases hi
    | some x =>
      rw [ex] at hi
      cases hi
      obtain ⟨hlt, ex2⟩ := List.getElem?_eq_some_iff.mp ex
      have es : xs.take (i + 1) = xs.take i ++ [x] := by rw [List.take_succ, ex]; rfl
      have sp : xs = xs.take i ++ x :: xs.drop (i + 1) := by
        have := List.take_append_drop i xs
        rw [List.drop_eq_getElem_cons hlt, ex2] at this
        exact this.symm
      refine (hb G hG _ x _ σ' C' sp pv).mono fun σ2 C2 w2 => w2.mono ⟨fun _ _ q => ⟨hlt, by rw [es]; exact q⟩, fun _ _ q => q, fun _ _ q => q, fun _ _ q => ⟨hlt, by rw [es]; exact q⟩⟩
  · rintro σ' C' ⟨_, pv⟩
    rw [ei, List.length_map, List.take_length] at pv
    exact hd σ' C' pv
theorem wss_cut {st : Stmt} {rest : List Stmt} {M : Sl → Cells → Prop} (h : WS Z st σ C { N with nx := M }) (k : ∀ σ' C', M σ' C' → WSs Z rest σ' C' N) : WSs Z (st :: rest) σ C N :=
  wss_cons (h.mono ⟨fun σ' C' q => k σ' C' q, fun _ _ q => q, fun _ _ q => q, fun _ _ q => q⟩)
structure CallOk (Z : Zx) (k : Nat) : Prop where
  tk : TakesZ Z
  room : Room k Z.X.A
theorem blkB {k : Nat} (b : BodyOk Z k) {s : Shared} {H : Hp} {cl : List (Str × Addr)} {Cc : Addr} {fp : List Addr} {G : Hp} : CallOk (Z.blk s H scope cl Cc fp G) k := ⟨takes_blk, b.room⟩
theorem blkC {k : Nat} (b : CallOk Z k) {s : Shared} {H : Hp} {cl : List (Str × Addr)} {Cc : Addr} {fp : List Addr} {G : Hp} : CallOk (Z.blk s H scope cl Cc fp G) k := ⟨takes_blk, b.room⟩
theorem sz {n : Nat} (h : n ≤ 16777216) : n ≤ sizeLine := by rw [sizeLine_eq]; exact h
theorem szlt {n : Nat} (h : n < 16777216) : n < sizeLine := by rw [sizeLine_eq]; exact h
theorem mulL {i j : Int} (h1 : -18446744073709551616 < i) (h2 : i < 18446744073709551616) : IntMulOk i j := .of_left (intBits_le_64 h1 h2)
theorem mulR {i j : Int} (h1 : -18446744073709551616 < j) (h2 : j < 18446744073709551616) : IntMulOk i j := .of_right (intBits_le_64 h1 h2)
theorem range_split {n : Nat} {pre post : List Nat} {x : Nat} (h : List.range n = pre ++ x :: post) : x = pre.length ∧ pre.length < n := by
  have hl : (List.range n).length = pre.length + (post.length + 1) := by rw [h, List.length_append, List.length_cons]
  rw [List.length_range] at hl
  have hlt : pre.length < n := by omega
  have h1 : (List.range n)[pre.length]? = some pre.length := List.getElem?_range hlt
  rw [h, List.getElem?_append_right (Nat.le_refl _), Nat.sub_self] at h1
  exact ⟨by simpa using h1, hlt⟩
theorem range_pre {n : Nat} {pre post : List Nat} {x : Nat} (h : List.range n = pre ++ x :: post) : pre = List.range x := by
  obtain ⟨e, hlt⟩ := range_split h
  subst e
  have h2 : (List.range n).take pre.length = pre := by rw [h, List.take_left]
  rw [← h2, List.take_range, Nat.min_eq_left (Nat.le_of_lt hlt), List.length_range]
theorem ixN_nat {n : Nat} {i : Int} (h0 : 0 ≤ i) (h1 : i < n) : ixN n i = some i.toNat := by
  unfold ixN
  rw [if_pos h0, if_pos h1]
theorem atI_map {α β : Type} (d0 : α) {f : α → β} {xs : List α} {i : Int} (h0 : 0 ≤ i) (h1 : i < xs.length) : atI (xs.map f) i = some (f (xs.getD i.toNat d0)) := by
  unfold atI
  rw [ixN_nat h0 (by rw [List.length_map]; exact h1)]
  show (xs.map f)[i.toNat]? = _
  have h2 : i.toNat < xs.length := by omega
  rw [List.getElem?_map, List.getD_eq_getElem?_getD, List.getElem?_eq_getElem h2]
  rfl
theorem atI_getD {α : Type} (d0 : α) {xs : List α} {i : Int} (h0 : 0 ≤ i) (h1 : i < xs.length) : atI xs i = some (xs.getD i.toNat d0) := by
  have := atI_map (f := id) d0 h0 h1
  rw [List.map_id] at this
  exact this
theorem rangeD0 (n : Nat) : rangeD 0 n = (List.range n).map fun k => D.int (k : Nat) := by
  unfold rangeD
  refine List.map_congr_left fun k _ => ?_
  rw [Int.zero_add]
end
end DW
set_option Elab.async false
set_option linter.all false
set_option maxRecDepth 100000
set_option maxHeartbeats 2000000
namespace DW
open PySem PySem.Spec PyProof.Rows L2 Evl
open LamX (Tabs TabS ExtN TabB CodeO)
def noT (H : Hp) : Hp := fun a => (H a).bind noTbl
theorem noT_ex {H : Hp} : Ex (noT H) H := fun a o h => by
  unfold noT at h
  cases q : H a with
  | none => rw [q] at h; cases h
  | some u =>
    rw [q] at h
    rw [(noTbl_some (show noTbl u = some o from h)).1]
theorem noT_extN {H H' : Hp} (e : ExtN H H') : Ex (noT H) (noT H') := fun a o h => by
  have h1 := noT_ex a o h
  unfold noT at h
  rw [h1] at h
  have n := (noTbl_some (show noTbl o = some o from h)).2
  unfold noT
  rw [e a o h1 n]
  exact noTbl_of n
theorem sqL_noT {K : PySem.W.Frag} {H : Hp} {a : Addr} {xs : List V} (h : SqL K H a xs) : SqL K (noT H) a xs := by
  rcases h with (h | ⟨o, h⟩) | h
  · exact .inl (.inl (by unfold noT; rw [h]; rfl))
  · exact .inl (.inr ⟨o, by unfold noT; rw [h]; rfl⟩)
  · exact .inr h
theorem sqT_noT {K : PySem.W.Frag} {H : Hp} {a : Addr} {xs : List V} (h : SqT K H a xs) : SqT K (noT H) a xs := by
  rcases h with (h | ⟨o, h⟩) | h
  · exact .inl (.inl (by unfold noT; rw [h]; rfl))
  · exact .inl (.inr ⟨o, by unfold noT; rw [h]; rfl⟩)
  · exact .inr h
theorem sqL_extN {K : PySem.W.Frag} {H H' : Hp} {a : Addr} {xs : List V} (e : ExtN H H') (h : SqL K H a xs) : SqL K H' a xs := ex_l ((noT_extN e).trans noT_ex) (sqL_noT h)
theorem sqT_extN {K : PySem.W.Frag} {H H' : Hp} {a : Addr} {xs : List V} (e : ExtN H H') (h : SqT K H a xs) : SqT K H' a xs := ex_t ((noT_extN e).trans noT_ex) (sqT_noT h)
theorem run_first {M : Model} {A : Around} {E : Value → Shared → Prop} {s : Shared} {env : Env} {x : Str} {p1 p2 p3 : Pos} {j : Nat} {m : Str → Option Value} {t : Addr} {its : Array Value} {v : Value} {Q : Value → Shared → Prop}
    (P : Program) (w : World) (hM : M = model P w) (hk : env.scope.kind = .function) (hl : env.kindOf x = some .local) (hn : s.heap.Ns env.locals m) (hv : m x = some (.ref t)) (ht : IsTup s.heap t its) (h0 : its[0]? = some v)
    (h : ∀ tk, Q v { s with toks := tk }) (hd : (x == ("__debug__" : Str)) = false) : wpAny M A (eval (.Subscript (.Name x p1) (.Constant (.int 0) j p2) p3) env) Q E s := by
  subst hM
  refine Subscript_ (wpAny_Name (wpAny_loadName_local hk hl hn hv (wpAny_Constant_int ?_)) hd)
  refine subscriptTail_builtinR (x := v) (T := "tuple") ?_ slot_tuple_getitem.lookup (getItem_tuple (s := { s with toks := s.toks + 1 }) (j := 0) ht (by decide) (by decide) ?_ h0 ⟨rfl, h _⟩)
  · exact (show ({ s with toks := s.toks + 1 } : Shared).TypeIs (.ref t) "tuple" from IsTup.typeIs (s := { s with toks := s.toks + 1 }) ht)
  · have hz : 0 < its.size := by
      rcases Nat.lt_or_ge 0 its.size with q | q
      · exact q
      · rw [Array.getElem?_eq_none q] at h0
        cases h0
    unfold seqIndex?
    simp [hz]
structure Lam1 (scope : Scope) (x : Str) : Prop where
  kind : scope.kind = .function
  co : scope.isCoroutine = false
  gen : scope.isGenerator = false
  loc : scope.names.lookup x = some .local
  nocell : ∀ y ∈ scope.names, y.2 ≠ .cell
  nofree : ∀ y ∈ scope.names, y.2 ≠ .free
theorem first_turn {P : Program} {w : World} {A : Around} {s : Shared} {f c' t : Addr} {q x : Str} {params : Arguments} {scope : Scope} {pm ctv : Value} {p1 p2 p3 : Pos} {j : Nat} {its : Array Value} {k : Int} {tk0 : Tok}
    (hf : s.heap.get? f = some (PySem.W.kla_obj "<lambda>" q params (.Subscript (.Name x p1) (.Constant (.int 0) j p2) p3) scope [] pm c' ctv)) (hcd : s.heap.CodeRec (.ref c') q) (lim : s.heap.NoLimit) (hroom : A.depth < recursionLimit) (L : Lam1 scope x)
    (hbind : ∀ v, bindArgs (PySem.W.kla_fn "<lambda>" q params (.Subscript (.Name x p1) (.Constant (.int 0) j p2) p3) scope [] pm (.ref c') ctv) ⟨[v], []⟩ = pure [(x, v)]) (ht : IsTup s.heap t its) (h0 : its[0]? = some (.int k tk0)) (hd : (x == ("__debug__" : Str)) = false) :
    wpAny (model P w) A (call (.ref f) [.ref t]) (PySem.W.KeyPure (.int k) s) (fun _ _ => False) s := by
  refine wpAny_call (PySem.W.kla_callFunE hroom hf rfl L.co L.gen rfl hcd ?_)
  rw [hbind]
  refine wpAny_pure (wpAny_newFunctionEnv L.nocell (fun y hy => ?_) (fun h₁ hns hsb => ⟨lim.fresh _ hsb, ?_⟩) L.kind)
  · have e : y = (x, Value.ref t) := by simpa using hy
    rw [e]
    exact L.loc
  · have kp : ∀ b o, s.heap.get? b = some o → h₁.get? b = some o := fun b o e => hsb.extBut b o (Nat.ne_of_lt (Heap.lt_size e)) (Heap.get?_push_of_some _ e)
    refine PySem.W.kla_codeExpr ?_
    refine run_first P w rfl L.kind L.loc hns (t := t) (its := its) (v := .int k tk0) (by simp) ?_ h0 (fun tk => ?_) hd
    · obtain ⟨o, ho, r⟩ := ht
      exact ⟨o, kp _ _ ho, r⟩
    · exact ⟨h₁, tk, rfl, kp, .int _ _⟩
def tSrtF (K : PySem.W.Frag) (T : List (Addr × Str)) (ta : TA) : TE := fun σ H Q => ta σ H fun vs H1 => Tabs T H1 ∧ ∃ (l : Addr) (bs : List (V × Int)), vs = [.ref l] ∧ SqL K H1 l (bs.map (·.1)) ∧ (∀ b ∈ bs, ∃ t ws, b.1 = .ref t ∧ SqT K H1 t (.int b.2 :: ws)) ∧
  ∀ H2 q, ExtN H1 H2 → Tabs T H2 → H2 q = none → Q (.ref q) (upd H2 q (.lst ((bs.mergeSort fun a b => decide (a.2 ≤ b.2)).map (·.1))))
theorem vals_each : ∀ {bs : List (V × Int)} {us : List Value}, Vals (bs.map (·.1)) us → PySem.W.EachIs (fun u (b : V × Int) => RelV b.1 u) us bs
  | [], _, r => by cases r; exact .nil
  | b :: bs, _, r => by
    cases r with
    | cons r t => exact .cons r (vals_each t)
theorem each_vals : ∀ {bs : List (V × Int)} {us : List Value}, PySem.W.EachIs (fun u (b : V × Int) => RelV b.1 u) us bs → Vals (bs.map (·.1)) us
  | [], _, r => by cases r; exact .nil
  | b :: bs, _, r => by
    cases r with
    | cons r t => exact .cons r (each_vals t)
section
variable {X : Cx}
theorem pe_sortedFirst {T : List (Addr × Str)} {c P : Addr} {nm x : Str} {a : Expr} {ta : TA} {params : Arguments} {scope : Scope} {p p1 p2 p3 lpos kpos pos : Pos} {j k : Nat} (hcalm : X.calm = true) (TB : TabB X.base X.mg c P) (hcode : X.env.code = .ref c) (hmT : (P, X.env.qual ++ "<lambda>") ∈ T)
    (hu : ∀ p ∈ T, p.1 = P → p.2 = X.env.qual ++ "<lambda>") (L : Lam1 scope x) (hdef : defaultsOf params X.env = ([], [])) (hr : Room k X.A) (hg : Gl X nm) (hm : X.mg nm = none) (hv : bootBuiltins nm = some (.builtin "sorted")) (ha : PA X [a] ta)
    (hbind : ∀ (q : Str) (pm cv ctv v : Value), bindArgs (PySem.W.kla_fn "<lambda>" q params (.Subscript (.Name x p1) (.Constant (.int 0) j p2) p3) scope [] pm cv ctv) ⟨[v], []⟩ = pure [(x, v)]) (hcl : cloFrom X.env.cells scope.names [] = [])
    (hd : (x == ("__debug__" : Str)) = false) (hn : nm ≠ "__name__" := by decide) (hdb : (nm == ("__debug__" : Str)) = false := by decide)
    (he : backTo pos (starEach [a] X.env) = (false, eval a X.env) :: backTo pos (starEach [] X.env) := by rfl) (hpl : (backTo pos (starEach [a] X.env)).any (·.1) = false := by rfl) :
    PE X (.Call (.Name nm p) [a] [⟨some "key", .Lambda params (.Subscript (.Name x p1) (.Constant (.int 0) j p2) p3) scope lpos, kpos⟩] pos) (tSrtF X.K T ta) := by
  refine ⟨fun pins s σ H Q I h => ?_⟩
  refine wpAny_Call_Name_kw (ld_blt I hg hm hv ?_ hn hdb)
  refine PyProof.Rows.callWith_kw (thn (ha.run pos pins s σ H _ I h) fun us s1 ⟨vs, H1, I1, r1, q1⟩ => ?_) he hpl rfl rfl
  obtain ⟨hT, l, bs, ev, hs, hb, hq⟩ := q1
  subst ev
  obtain rfl := Vals.ref1 r1
  show wpAny _ _ (evalAll [do let v ← eval (.Lambda params (.Subscript (.Name x p1) (.Constant (.int 0) j p2) p3) scope lpos) X.env; standAt pos; pure v]) _ _ s1
  refine wpAny_evalAll_cons (wpAny_bind (LamX.lam_make2 I1 TB hcode hmT hu hT hdef (fun y hy e => absurd e (L.nofree y hy)) fun f c' pm ctv H2 s2 I2 eN T2 hf hfn hfr hco => wpAny_bind (wpAny_standAt (wpAny_pure (wpAny_evalAll_nil ?_)))))
  rw [hcl] at hf
  show wpAny _ _ (call (.builtin "sorted") [.ref l] [(Str.ofString "key", .ref f)]) _ _ s2
  have hs2 := sqL_extN eN hs
  obtain ⟨its, rv, pl, hz⟩ := I2.list hs2
  have hrec : s2.heap.CodeRec (.ref c') (X.env.qual ++ "<lambda>") := by
    obtain ⟨⟨oc, vs, t, hoc, hdc, hvc⟩, _, _⟩ := I2.hok c' _ hco
    exact ⟨c', oc, vs, t, rfl, hoc, hdc, hvc⟩
  refine PySem.W.sorted_key_data (b := false) (β := V × Int) (bs := bs) (R := fun u b => RelV b.1 u) (fun b => .int b.2) pl.isList (vals_each rv) (PySem.W.AllAlike.of fun _ _ => by simp [PySem.W.alike]) (PySem.W.Sortable.others fun _ => ⟨fun z => (by cases z), fun _ z => (by cases z)⟩)
    (by rw [List.length_map] at hz; exact hz) (fun b _ => ?_) (ksk_s1 _ _) (fun _ => ksk_l1 _ _) (fun _ => ksk_t1 _ _) (fun v b hR hbm h tk kp => ?_) fun out cc h' tk kp _ hD hlen eo => ?_
  · have := hr.units
    simp [PyData.depth]
    omega
  · obtain ⟨t, ws, et, ht⟩ := hb b hbm
    rw [et] at hR
    obtain rfl : v = Value.ref t := hR
    obtain ⟨its2, rv2, pl2, _⟩ := I2.tuple (sqT_extN eN ht)
    cases rv2 with
    | @cons _ u0 _ us2 r0 rr =>
      obtain ⟨tk0, rfl⟩ := r0
      refine first_turn (its := (Value.int b.2 tk0 :: us2).toArray) (tk0 := tk0) (s := { s2 with heap := h, toks := tk }) (kp _ _ hf) (hrec.keeps kp) (I2.nolimit.keeps kp) hr.depth L (fun v => hbind _ _ _ _ v) ?_ (by simp) hd
      obtain ⟨o, ho, r⟩ := pl2
      exact ⟨o, kp _ _ ho, r⟩
  · rw [PySem.W.dataLe_int (β := V × Int) (fun b => b.2)] at eo
    refine ⟨.ref _, upd H2 (s2.heap.objs.size + 1) (.lst ((bs.mergeSort fun a b => decide (a.2 ≤ b.2)).map (·.1))), I2.laid (t' := tk) kp (Nat.le_succ _) ⟨?_, out, cc, each_vals eo, hD⟩, rfl, hq H2 _ eN T2 (I2.hok.fresh (Nat.le_succ _))⟩
    rw [List.length_map, List.length_mergeSort]
    rw [List.length_map] at hz
    exact hz
end
theorem COk.extN {K : PySem.W.Frag} {T : List (Addr × Str)} {H H2 : Hp} {C : Cells} (c : COk K T H C) (e : ExtN H H2) (t : Tabs T H2) : COk K T H2 C ∧ Ex (mns H C) (mns H2 C) := by
  have ex : Ex (mns H C) (mns H2 C) := fun a o q => by
    obtain ⟨q1, q2, q3⟩ := mns_of3 q
    exact mns_none q2 (e a o q1 q3) q3
  refine ⟨⟨fun a ct q => ?_, c.tb, c.tn⟩, ex⟩
  cases c.ok a ct q with
  | lst h1 h2 => exact .lst (e a _ h1 fun _ z => nomatch z) (h2.ex ex)
  | ins h1 h2 => exact .ins (e a _ h1 fun _ z => nomatch z) (h2.ex ex)
  | dk0 h1 => exact .dk0 (e a _ h1 fun _ z => nomatch z)
  | tab h1 => exact .tab (t _ (c.tn _ _ q))
theorem COk.tabs {K : PySem.W.Frag} {T : List (Addr × Str)} {H : Hp} {C : Cells} (c : COk K T H C) : Tabs T H := fun p hp => by
  cases c.ok p.1 _ (c.tb p hp) with
  | tab h => exact h
theorem reps_mem {K : PySem.W.Frag} {G : Hp} {α : Type} {f : α → V} {g : α → D} : ∀ {ts : List α}, (∀ t ∈ ts, Rep K G (f t) (g t)) → Reps K G (ts.map f) (ts.map g)
  | [], _ => .nil
  | t :: ts, h => .cons (h t List.mem_cons_self) (reps_mem fun u hu => h u (List.mem_cons_of_mem _ hu))
theorem reps_zip {K : PySem.W.Frag} {G : Hp} : ∀ {vs : List V} {kds : List (Int × D)}, Reps K G vs (kds.map (·.2)) → ∃ ts : List (V × Int × D), vs = ts.map (·.1) ∧ kds = ts.map (·.2) ∧ ∀ t ∈ ts, Rep K G t.1 t.2.2
  | _, [], h => by
    cases h
    exact ⟨[], rfl, rfl, fun _ h => by cases h⟩
  | _, kd :: kds, h => by
    cases h with
    | @cons v _ _ _ r t =>
      obtain ⟨ts, h1, h2, h3⟩ := reps_zip t
      refine ⟨(v, kd) :: ts, by rw [h1]; rfl, by rw [h2]; rfl, fun u hu => ?_⟩
      rcases List.mem_cons.mp hu with e | e
      · rw [e]
        exact r
      · exact h3 u e
section
variable {Z : Zx} {σ : Sl} {C : Cells}
theorem we_sortedFirst {c P : Addr} {nm x : Str} {a : Expr} {params : Arguments} {scope : Scope} {p p1 p2 p3 lpos kpos pos : Pos} {j k : Nat} {Q : D → Cells → Prop} (TB : TabB Z.X.base Z.X.mg c P) (hcode : Z.X.env.code = .ref c) (hmT : (P, Z.X.env.qual ++ "<lambda>") ∈ Z.tt)
    (hu : ∀ p ∈ Z.tt, p.1 = P → p.2 = Z.X.env.qual ++ "<lambda>") (L : Lam1 scope x) (hr : Room k Z.X.A) (hm : Z.X.mg nm = none)
    (h : WA Z [a] σ C fun ds C1 => ∃ (v : D) (kds : List (Int × D)), ds = [v] ∧ LstIn C1 v (kds.map (·.2)) ∧ (∀ kd ∈ kds, ∃ r, kd.2 = .tup (.int kd.1 :: r)) ∧ Q (.lst ((kds.mergeSort fun a b => decide (a.1 ≤ b.1)).map (·.2))) C1)
    (hbind : ∀ (q : Str) (pm cv ctv v : Value), bindArgs (PySem.W.kla_fn "<lambda>" q params (.Subscript (.Name x p1) (.Constant (.int 0) j p2) p3) scope [] pm cv ctv) ⟨[v], []⟩ = pure [(x, v)] := by intros; rfl) (hcl : cloFrom Z.X.env.cells scope.names [] = [] := by rfl) (hdef : defaultsOf params Z.X.env = ([], []) := by rfl)
    (hcalm : Z.X.calm = true := by rfl) (hg : Gl Z.X nm := by rfl) (hv : bootBuiltins nm = some (.builtin "sorted") := by decide +kernel)
    (hd : (x == ("__debug__" : Str)) = false := by decide) (hn : nm ≠ "__name__" := by decide) (hdb : (nm == ("__debug__" : Str)) = false := by decide)
    (he : backTo pos (starEach [a] Z.X.env) = (false, eval a Z.X.env) :: backTo pos (starEach [] Z.X.env) := by rfl) (hpl : (backTo pos (starEach [a] Z.X.env)).any (·.1) = false := by rfl) :
    WE Z (.Call (.Name nm p) [a] [⟨some "key", .Lambda params (.Subscript (.Name x p1) (.Constant (.int 0) j p2) p3) scope lpos, kpos⟩] pos) σ C Q := fun σV H st => by
  refine tE_of (pe_sortedFirst hcalm TB hcode hmT hu L hdef hr hg hm hv pa_self hbind hcl hd hn hdb he hpl) (tA_mono (h σV H st) fun vs H1 ⟨ds, C1, e1, st1, r1, v, kds, ed, l, hk, q⟩ => ?_)
  subst ed
  obtain ⟨v0, rfl, r⟩ := reps1 r1
  obtain ⟨pl, ws, rfl, h1, h2⟩ := l.rd st1.c r
  obtain ⟨ts, rfl, rfl, h3⟩ := reps_zip h2
  refine ⟨st1.c.tabs, pl, ts.map fun t => (t.1, t.2.1), rfl, ?_, fun b hb => ?_, fun H2 q2 eN t2 hq2 => ?_⟩
  · rw [List.map_map]
    exact SqL.of h1
  · obtain ⟨t, ht, rfl⟩ := List.mem_map.mp hb
    obtain ⟨rr, er⟩ := hk t.2 (List.mem_map_of_mem ht)
    have rt := h3 t ht
    rw [er] at rt
    obtain ⟨at_, vt, e, _, g1, g2⟩ := tup_rd rt
    cases g2 with
    | cons ga gb =>
      cases ga
      exact ⟨at_, _, e, g1⟩
  · obtain ⟨c2, e2⟩ := st1.c.extN eN t2
    have st2 : StR Z H2 σV C1 σ := st1.ex c2 e2
    have es : (List.mergeSort (ts.map fun t => (t.1, t.2.1)) fun a b => decide (a.2 ≤ b.2)).map (·.1) = (ts.mergeSort fun a b => decide (a.2.1 ≤ b.2.1)).map (·.1) := by
      rw [← List.map_mergeSort (r := fun a b : V × Int × D => decide (a.2.1 ≤ b.2.1)) (fun a _ b _ => rfl), List.map_map]
      rfl
    have ek : (List.mergeSort (ts.map (·.2)) fun a b => decide (a.1 ≤ b.1)).map (·.2) = (ts.mergeSort fun a b => decide (a.2.1 ≤ b.2.1)).map (·.2.2) := by
      rw [← List.map_mergeSort (r := fun a b : V × Int × D => decide (a.2.1 ≤ b.2.1)) (fun a _ b _ => rfl), List.map_map]
      rfl
    rw [es]
    rw [ek] at q
    obtain ⟨c3, e3, n3⟩ := st2.new (o := .lst ((ts.mergeSort fun a b => decide (a.2.1 ≤ b.2.1)).map (·.1))) hq2
    refine ⟨_, C1, (e1.trans e2).trans e3, st2.ex c3 e3, .lst n3 (reps_mem fun t ht => ?_), q⟩
    exact (h3 t ((List.mergeSort_perm _ _).mem_iff.mp ht)).ex (e2.trans e3)
end
end DW
set_option Elab.async false
set_option linter.all false
set_option maxRecDepth 100000
set_option maxHeartbeats 2000000
namespace DW
open PySem PySem.Spec PyProof.Rows L2 Evl
section
variable {X : Cx}
theorem cr_lcm : CallR X (.builtin "math.lcm") (fun vs H Q => ∃ a b : Int, vs = [.int a, .int b] ∧ a.natAbs < 2 ^ 64 ∧ b.natAbs < 2 ^ 64 ∧ Q (.int ((Nat.lcm a.natAbs b.natAbs : Nat) : Int)) H) := by
  intro pins s σ H vs us Q I r h
  obtain ⟨a, b, rfl, h1, h2, q⟩ := h
  obtain ⟨t, u, rfl⟩ := Vals.int2 r
  exact PySem.W.mc_lcm h1 h2 fun _ => ⟨.int _, H, I.tok _, ⟨_, rfl⟩, q⟩
theorem cr_comb : CallR X (.builtin "math.comb") (fun vs H Q => ∃ a b : Int, vs = [.int a, .int b] ∧ 0 ≤ a ∧ 0 ≤ b ∧ a < 2 ^ 64 ∧ b ≤ 9000 ∧ Q (.int (PySem.W.mcComb a b)) H) := by
  intro pins s σ H vs us Q I r h
  obtain ⟨a, b, rfl, h1, h2, h3, h4, q⟩ := h
  obtain ⟨t, u, rfl⟩ := Vals.int2 r
  exact PySem.W.mc_comb h1 h2 h3 (.inl h4) fun _ => ⟨.int _, H, I.tok _, ⟨_, rfl⟩, q⟩
end
inductive FunR : String → List D → D → Prop
  | gcd (i j : Int) : FunR "math.gcd" [.int i, .int j] (.int ((Nat.gcd i.natAbs j.natAbs : Nat) : Int))
  | lcm (i j : Int) : i.natAbs < 2 ^ 64 → j.natAbs < 2 ^ 64 → FunR "math.lcm" [.int i, .int j] (.int ((Nat.lcm i.natAbs j.natAbs : Nat) : Int))
  | comb (a b : Int) : 0 ≤ a → 0 ≤ b → a < 2 ^ 64 → b ≤ 9000 → FunR "math.comb" [.int a, .int b] (.int (PySem.W.mcComb a b))
section
variable {Z : Zx} {σ : Sl} {C : Cells} {pos p apos : Pos} {a b e o : Expr} {es : List Expr} {x : Str} {id : String}
theorem funR {ds : List D} {z : D} (h : FunR id ds z) : GoesC Z (.builtin id) C ds z := by
  cases h with
  | gcd i j =>
    refine .old fun H vs Q c r => ?_
    obtain ⟨v, u, rfl, r1, r2⟩ := reps2 r
    cases r1
    cases r2
    exact ⟨_, .int _, fun q => rC_of cr_gcd ⟨_, _, rfl, q⟩⟩
  | lcm i j h1 h2 =>
    refine .old fun H vs Q c r => ?_
    obtain ⟨v, u, rfl, r1, r2⟩ := reps2 r
    cases r1
    cases r2
    exact ⟨_, .int _, fun q => rC_of cr_lcm ⟨_, _, rfl, h1, h2, q⟩⟩
  | comb i j h1 h2 h3 h4 =>
    refine .old fun H vs Q c r => ?_
    obtain ⟨v, u, rfl, r1, r2⟩ := reps2 r
    cases r1
    cases r2
    exact ⟨_, .int _, fun q => rC_of cr_comb ⟨_, _, rfl, h1, h2, h3, h4, q⟩⟩
theorem we_fun {Q : D → Cells → Prop} (hm : Z.X.mg x = some (.builtin id)) (h : WA Z (e :: es) σ C fun ds C1 => ∃ z, FunR id ds z ∧ Q z C1) (hg : Gl Z.X x := by rfl) (hdb : (x == ("__debug__" : Str)) = false := by decide)
    (he : starEach (e :: es) Z.X.env = (false, eval e Z.X.env) :: starEach es Z.X.env := by rfl) (hpl : (backTo pos (starEach es Z.X.env)).any (·.1) = false := by rfl) : WE Z (.Call (.Name x p) (e :: es) [] pos) σ C Q :=
  goesC_we (pe_callBfun rC_ok hg hm pa_self hdb he hpl) (h.mono fun ds C1 ⟨z, g, q⟩ => ⟨z, funR g, q⟩)
inductive FmtR : D → Str → Prop
  | str (y : Str) : y.length ≤ sizeLine → FmtR (.str y) y
  | int (i : Int) : i.natAbs.log2 < 1920 → FmtR (.int i) (toString i)
theorem we_fmt {Q : D → Cells → Prop} (h : WE Z e σ C fun d C1 => ∃ y, FmtR d y ∧ Q (.str y) C1) : WE Z (.FormattedValue e (-1) none pos) σ C Q := fun σV H st =>
  tE_of (pe_fmt pe_self) (tE_mono (h σV H st) fun v H1 ⟨d, C1, e1, st1, r1, y, f, q⟩ => by
    cases f with
    | str y hz =>
      cases r1
      exact .inl ⟨_, rfl, hz, _, C1, e1, st1, .str _, q⟩
    | int i hz =>
      cases r1
      exact .inr ⟨_, rfl, hz, _, C1, e1, st1, .str _, q⟩)
def WJ (Z : Zx) : List Expr → Str → Sl → Cells → (Str → Cells → Prop) → Prop
  | [], acc, σ, C, Q => Q acc C
  | e :: es, acc, σ, C, Q => WE Z e σ C fun d C1 => ∃ y, d = .str y ∧ (acc ++ y).length ≤ sizeLine ∧ WJ Z es (acc ++ y) σ C1 Q
theorem pj_self {X : Cx} : ∀ {es : List Expr}, PJ X es (es.map (tE X))
  | [] => .nil
  | _ :: _ => .cons pe_self pj_self
theorem wj_run : ∀ {es : List Expr} {acc : Str} {C : Cells} {Q : Str → Cells → Prop} {σV : L2.St} {H H0 : Hp} {C0 : Cells} {R : Str → Hp → Prop}, WJ Z es acc σ C Q → StR Z H σV C σ → Ex (mns H0 C0) (mns H C) →
    (∀ y H1 C1, Ex (mns H0 C0) (mns H1 C1) → StR Z H1 σV C1 σ → Q y C1 → R y H1) → tJs (es.map (tE Z.X)) acc σV H R
  | [], acc, C, Q, σV, H, H0, C0, R, h, st, ex, k => k acc H C ex st h
  | e :: es, acc, C, Q, σV, H, H0, C0, R, h, st, ex, k => tE_mono (h σV H st) fun v H1 ⟨d, C1, e1, st1, r1, y, ed, hz, w⟩ => by
    subst ed
    cases r1
    exact ⟨y, rfl, hz, wj_run w st1 (ex.trans e1) k⟩
theorem we_fstr {v1 v2 : Expr} {rest : List Expr} {Q : D → Cells → Prop} (h : WJ Z (v1 :: v2 :: rest) Str.empty σ C fun y C1 => Q (.str y) C1) : WE Z (.JoinedStr (v1 :: v2 :: rest) pos) σ C Q := fun σV H st =>
  tE_of (pe_joined pj_self) (wj_run h st (Ex.refl _) fun y H1 C1 ex st1 q => ⟨.str y, C1, ex, st1, .str _, q⟩)
theorem we_fstr1 {Q : D → Cells → Prop} (h : WE Z e σ C Q) : WE Z (.JoinedStr [e] pos) σ C Q := fun σV H st => tE_of (pe_joined1 pe_self) (h σV H st)
inductive StrR (C : Cells) : String → Str → D → D → Prop
  | join (a : Str) {y : D} (ys : List Str) : LstIn C y (ys.map D.str) → (ys.map (·.length)).sum + ys.length * a.length ≤ 16777216 → StrR C "str.join" a y (.str (Txt.join a ys))
  | split (a b : Str) : (b.length == 0) = false → a.length + 2 ≤ sizeLine → StrR C "str.split" a (.str b) (.lst ((Txt.split a b).map D.str))
  | partition (a b : Str) : (b.length == 0) = false → a.length ≤ sizeLine → StrR C "str.partition" a (.str b) (.tup [.str (Txt.partition a b).1, .str (Txt.partition a b).2.1, .str (Txt.partition a b).2.2])
  | strip (a b : Str) : a.length ≤ sizeLine → StrR C "str.strip" a (.str b) (.str (Txt.stripChars a b))
  | startswith (a b : Str) : StrR C "str.startswith" a (.str b) (.bl (Txt.startswith a b))
def rM (X : Cx) (id : String) : V → List V → Hp → VK → Prop := fun x xs H Q => ∀ pins s σ v us, Inv X pins σ H s → RelV x v → Vals xs us → wpAny (model X.prog X.w) X.A (call (.builtin id) (v :: us)) (EP X pins σ Q) X.xe s
theorem rM_ok {X : Cx} : MtR X id (rM X id) := fun pins s σ H x xs v us Q I r1 r2 h => h pins s σ v us I r1 r2
theorem rM_of {X : Cx} {r : V → List V → Hp → VK → Prop} (h : MtR X id r) {y : V} {ys : List V} {H : Hp} {Q : VK} (q : r y ys H Q) : rM X id y ys H Q := fun pins s σ v us I r1 r2 => h pins s σ H y ys v us Q I r1 r2 q
theorem we_m1 {Q : D → Cells → Prop} (slot : Slot "str" x id) (ty : typeOf (.builtin id) = pure (.type "method_descriptor")) (h : WE Z o σ C fun d C1 => ∃ a, d = .str a ∧ WE Z e σ C1 fun y C2 => ∃ z, StrR C2 id a y z ∧ Q z C2)
    (hs : starEach [e] Z.X.env = [(false, eval e Z.X.env)] := by rfl) (hbase : attributeBase o x Z.X.env (eval o Z.X.env) = eval o Z.X.env := by rfl) (hline : (apos.endLine == pos.line) = true := by rfl) : WE Z (.Call (.Attribute o x apos) [e] [] pos) σ C Q := fun σV H st =>
  tE_of (pe_m1 slot ty rM_ok pe_self pe_self hs hbase hline) (tE_mono (h σV H st) fun v H1 ⟨d, C1, e1, st1, r1, a, ed, w⟩ => by
    subst ed
    cases r1
    refine ⟨⟨a, rfl⟩, tE_mono (w σV H1 st1) fun u H2 ⟨y, C2, e2, st2, r2, z, g, q⟩ => ?_⟩
    have ex := e1.trans e2
    cases g with
    | join _ ys l hz =>
      obtain ⟨p, vs, rfl, h1, h2⟩ := l.rd st2.c r2
      have ev := reps_strs h2
      subst ev
      exact rM_of mt_join ⟨_, _, ys, rfl, rfl, .inl (SqL.of h1), hz, _, C2, ex, st2, .str _, q⟩
    | split _ b h1 h2 =>
      cases r2
      refine rM_of mt_split ⟨_, _, rfl, rfl, h1, h2, fun p hp => ?_⟩
      obtain ⟨c, e3, n⟩ := st2.new (o := .lst ((Txt.split a b).map V.str)) hp
      exact ⟨_, C2, ex.trans e3, st2.ex c e3, .lst n (reps_mem fun t _ => .str t), q⟩
    | partition _ b h1 h2 =>
      cases r2
      refine rM_of mt_partition ⟨_, _, rfl, rfl, h1, h2, fun p hp => ?_⟩
      obtain ⟨c, e3, n⟩ := st2.new (o := .tup [.str (Txt.partition a b).1, .str (Txt.partition a b).2.1, .str (Txt.partition a b).2.2]) hp
      exact ⟨_, C2, ex.trans e3, st2.ex c e3, .tup (SqT.of n) (.cons (.str _) (.cons (.str _) (.cons (.str _) .nil))), q⟩
    | strip _ b h1 =>
      cases r2
      exact rM_of mt_stripChars ⟨_, _, rfl, rfl, h1, _, C2, ex, st2, .str _, q⟩
    | startswith _ b =>
      cases r2
      exact rM_of mt_startswith ⟨_, _, rfl, rfl, _, C2, ex, st2, .bl _, q⟩)
end
end DW
set_option Elab.async false
set_option linter.all false
set_option maxRecDepth 100000
set_option maxHeartbeats 2000000
namespace DW
open PySem PySem.Spec PyProof.Rows L2 Evl
def strRep (x : Str) (n : Int) : Str := if n < 1 then Str.empty else if (n == 1 || x.length == 0) = true then x else ⟨(List.replicate n.toNat x.cps).foldl (· ++ ·) #[]⟩
theorem foldl_size {α : Type} (a : Array α) : ∀ (k : Nat) (b : Array α), ((List.replicate k a).foldl (· ++ ·) b).size = b.size + k * a.size
  | 0, b => by simp
  | k + 1, b => by
    rw [List.replicate_succ, List.foldl_cons, foldl_size a k, Array.size_append, Nat.succ_mul]
    omega
theorem op_mulS {X : Cx} : OpR X (binaryOp .Mult) (fun x y H Q => ∃ (i : Str) (j : Int), x = .str i ∧ y = .int j ∧ i.length ≤ 1000 ∧ -1000 ≤ j ∧ j ≤ 1000 ∧ Q (.str (strRep i j)) H) := by
  intro pins s σ H x y v u Q I rx ry h
  obtain ⟨i, j, rfl, rfl, h1, h2, h3, q⟩ := h
  obtain ⟨t, rfl⟩ := rx
  obtain ⟨t', rfl⟩ := ry
  have fin : ∀ tk tk2, EP X pins σ Q (.str (strRep i j) tk) { s with toks := tk2 } := fun tk tk2 => ⟨.str (strRep i j), H, I.tok _, ⟨_, rfl⟩, q⟩
  refine PySem.P.mul_str ?_ (fun g1 g2 => ?_) (fun g1 g2 => ?_) ?_
  · rw [decide_eq_false (by omega), decide_eq_false (by omega)]
    rfl
  · intro g
    have hj : 0 < j := by omega
    have h7 : ((2 : Int) ^ 63 - 1) = 9223372036854775807 := by decide
    have g' : ((i.length : Nat) : Int) > (2 ^ 63 - 1) / j := g
    rw [h7] at g'
    have h4 : (1000 : Int) ≤ 9223372036854775807 / j := Int.le_ediv_of_mul_le hj (by omega)
    omega
  · have h4 : i.length * j.toNat ≤ 1000 * 1000 := Nat.mul_le_mul h1 (by omega)
    have h5 := sizeLine_eq
    exact decide_eq_false (by omega)
  · by_cases g1 : j < 1
    · rw [if_pos g1]
      have e : strRep i j = Str.empty := if_pos g1
      rw [e] at fin
      exact ⟨by decide, fin _ _⟩
    · rw [if_neg g1]
      by_cases g2 : (j == 1 || i.length == 0) = true
      · rw [if_pos g2]
        have e : strRep i j = i := by unfold strRep; rw [if_neg g1, if_pos g2]
        rw [e] at fin
        exact fin t s.toks
      · rw [if_neg g2]
        have e : strRep i j = ⟨(List.replicate j.toNat i.cps).foldl (· ++ ·) #[]⟩ := by unfold strRep; rw [if_neg g1, if_neg g2]
        rw [e] at fin
        refine ⟨?_, fin _ _⟩
        have h4 : j.toNat * i.length ≤ 1000 * 1000 := Nat.mul_le_mul (by omega) h1
        have h5 := sizeLine_eq
        have h6 := foldl_size i.cps j.toNat #[]
        have h7 : i.cps.size = i.length := rfl
        rw [h7] at h6
        show Array.size _ ≤ sizeLine
        rw [h6]
        simp
        omega
section
variable {Z : Zx} {σ : Sl} {C : Cells} {pos p apos : Pos} {a b e o : Expr} {es : List Expr} {x : Str} {id : String}
theorem we_repS {Q : D → Cells → Prop} (h : WE Z a σ C fun x C1 => WE Z b σ C1 fun y C2 => ∃ i j, x = .str i ∧ y = .int j ∧ i.length ≤ 1000 ∧ -1000 ≤ j ∧ j ≤ 1000 ∧ Q (.str (strRep i j)) C2) : WE Z (.BinOp a .Mult b pos) σ C Q :=
  goesB_we (r := fun r => tOp r (tE Z.X a) (tE Z.X b)) (pe_op rB_op pe_self pe_self) (h.mono fun x C1 h1 => h1.mono fun y C2 ⟨i, j, ex, ey, h2, h3, h4, q⟩ => ⟨_, .old fun H v u Q c r1 r2 => by
    subst ex ey
    cases r1
    cases r2
    exact ⟨_, .str _, fun q => rB_of op_mulS ⟨i, j, rfl, rfl, h2, h3, h4, q⟩⟩, q⟩)
inductive TyD (K : PySem.W.Frag) (C : Cells) : D → Value → Prop
  | non : TyD K C .non (.type "NoneType")
  | bl (b : Bool) : TyD K C (.bl b) (.type "bool")
  | int (i : Int) : TyD K C (.int i) (.type "int")
  | str (x : Str) : TyD K C (.str x) (.type "str")
  | tup (ds : List D) : TyD K C (.tup ds) (.type "tuple")
  | lst {d : D} {ds : List D} : LstIn C d ds → TyD K C d (.type "list")
  | rol (ds : List D) : TyD K C (.rol ds) (.type "list")
  | dic (fs : List (Str × D)) : TyD K C (.dic fs) (.type "dict")
theorem tyX_sqT {K : PySem.W.Frag} {H : Hp} {a : Addr} {xs : List V} (h : SqT K H a xs) : TyX K H (.ref a) (.type "tuple") := by
  rcases h with (h | ⟨o, h⟩) | ⟨o, its, n, h1, h2, _⟩
  · exact .base (.tup h)
  · exact .fTuple h
  · exact .kTuple h1 h2
theorem tyX_sqL {K : PySem.W.Frag} {H : Hp} {a : Addr} {xs : List V} (h : SqL K H a xs) : TyX K H (.ref a) (.type "list") := by
  rcases h with (h | ⟨o, h⟩) | ⟨o, its, n, h1, h2, _⟩
  · exact .base (.lst h)
  · exact .base (.frz h)
  · exact .kList h1 h2
theorem TyD.rd {K : PySem.W.Frag} {T : List (Addr × Str)} {H : Hp} {d : D} {t : Value} (h : TyD K C d t) (c : COk K T H C) {v : V} (r : Rep K (mns H C) v d) : TyX K H v t := by
  cases h with
  | non => cases r; exact .base .non
  | bl b => cases r; exact .base (.bl _)
  | int b => cases r; exact .base (.int _)
  | str b => cases r; exact .base (.str _)
  | tup ds =>
    obtain ⟨p, vs, rfl, _, h1, _⟩ := tup_rd r
    exact tyX_sqT h1
  | lst l =>
    obtain ⟨p, vs, rfl, h1, _⟩ := l.rd c r
    exact .base (.lst h1)
  | rol ds =>
    cases r with
    | rol h1 _ => exact tyX_sqL (ex_l up_mns h1)
  | dic fs =>
    cases r with
    | dic h1 _ => exact .base (.dK (up_mns _ _ h1))
theorem pe_bty {X : Cx} {T : String} (hg : Gl X x) (hm : X.mg x = none) (hv : bootBuiltins x = some (.type T)) (hn : x ≠ "__name__") (hdb : (x == ("__debug__" : Str)) = false) : PE X (.Name x pos) (tC (.ty T)) :=
  ⟨fun pins s σ H Q I h => ld_blt I hg hm hv ⟨.ty T, H, I, rfl, h⟩ hn hdb⟩
theorem we_bty {T : String} {Q : D → Cells → Prop} (hm : Z.X.mg x = none) (q : Q (.opq (.ty T)) C) (hv : bootBuiltins x = some (.type T) := by decide +kernel) (hg : Gl Z.X x := by rfl) (hn : x ≠ "__name__" := by decide) (hdb : (x == ("__debug__" : Str)) = false := by decide) : WE Z (.Name x pos) σ C Q :=
  we_const (pe_bty hg hm hv hn hdb) (fun _ => .opq _) q
theorem we_isi {Q : D → Cells → Prop} (hm : Z.X.mg "isinstance" = none) (h : WA Z [a, b] σ C fun ds C1 => ∃ d c t u k, ds = [d, .opq c] ∧ ClsV c u ∧ TyD Z.X.K C1 d t ∧ PySem.W.kitOne Z.X.K t u = some k ∧ Q (.bl k) C1) (hv : bootBuiltins "isinstance" = some (.builtin "isinstance") := by decide +kernel) (hg : Gl Z.X "isinstance" := by rfl)
    (he : starEach [a, b] Z.X.env = (false, eval a Z.X.env) :: starEach [b] Z.X.env := by rfl) (hpl : (backTo pos (starEach [b] Z.X.env)).any (·.1) = false := by rfl) : WE Z (.Call (.Name "isinstance" p) [a, b] [] pos) σ C Q :=
  goesC_we (pe_callB rC_ok hg hm hv pa_self (by decide) (by decide) he hpl) (h.mono fun ds C1 ⟨d, c, t, u, k, ed, hc, ht, hk, q⟩ => ⟨.bl k, .old fun H vs Q c1 r => by
    subst ed
    obtain ⟨v, w, rfl, r1, r2⟩ := reps2 r
    cases r2
    exact ⟨_, .bl _, fun q => rC_of call_isi ⟨v, c, t, u, k, rfl, hc, ht.rd c1 r1, hk, q⟩⟩, q⟩)
theorem we_append {Q : D → Cells → Prop} (h : WE Z o σ C fun x C1 => ∃ q, x = .cell q ∧ (∃ ds, C1 q = some (.lst ds)) ∧ WE Z e σ C1 fun y C2 => ∃ ds, C2 q = some (.lst ds) ∧ ds.length < sizeLine ∧ Q .non (setC C2 q (.lst (ds ++ [y]))))
    (hbase : attributeBase o "append" Z.X.env (eval o Z.X.env) = eval o Z.X.env := by rfl) (hline : (apos.endLine == pos.line) = true := by rfl)
    (hfew : ((backTo pos (starEach [e] Z.X.env)).all (fun x => !x.1) && (backToKw pos (keywordEach [] Z.X.env)).all (fun x => x.1.isSome) && decide ([e].length + ([] : List Keyword).length + (if ([] : List Keyword).isEmpty then 0 else 1) < 30)) = true := by rfl)
    (hs : starEach [e] Z.X.env = (false, eval e Z.X.env) :: starEach [] Z.X.env := by rfl) : WE Z (.Call (.Attribute o "append" apos) [e] [] pos) σ C Q := fun σV H st =>
  tE_of (pe_bm PySem.F.plainAttrs_list PySem.F.slot_list_append PySem.F.type_list_append mt_append pe_self (pa_cons pe_self pa_nil hs) hbase hfew hline hs rfl) (tE_mono (h σV H st) fun v H1 ⟨x, C1, e1, st1, r1, q, ex, ⟨ds0, h0⟩, w⟩ => by
    subst ex
    cases r1
    refine ⟨?_, tE_mono (w σV H1 st1) fun u H2 ⟨y, C2, e2, st2, r2, ds, hq, hz, qq⟩ => ?_⟩
    · cases st1.c.ok q _ h0 with
      | lst g1 _ => exact .inl ⟨rfl, _, SqL.of g1⟩
    · cases st2.c.ok q _ hq with
      | @lst vs _ g1 g2 =>
        obtain ⟨c3, e3⟩ := st2.put (c' := .lst (ds ++ [y])) (o := .lst (vs ++ [u])) hq (.lst upd_same (g2.append (.cons r2 .nil)))
        refine ⟨q, vs, u, rfl, rfl, g1, by rw [g2.length]; exact hz, .non, _, ?_, ⟨c3, ?_, ?_⟩, .non, qq⟩
        · rw [e3]
          exact e1.trans e2
        · rw [e3]
          exact st2.s
        · rw [e3]
          exact st2.g)
theorem valV_str {k : Str} : ∀ vs : List (Str × V), valV (κ := L2.Key) (vs.map fun q => (.inr q.1, q.2)) (.inr k) = vs.lookup k
  | [] => rfl
  | (f, v) :: r => by
    rw [List.map_cons, List.lookup_cons]
    by_cases e : f = k
    · subst e
      rw [valV_pos rfl]
      simp
    · have e2 : (k == f) = false := by simpa using fun z => e z.symm
      rw [valV_neg (fun z => e (Sum.inr.inj z)), e2]
      exact valV_str r
theorem we_dget {Q : D → Cells → Prop} (hu : Z.X.A.units + 64 < cLine) (h : WE Z a σ C fun x C1 => WE Z b σ C1 fun y C2 => ∃ fs k d, x = .dic fs ∧ y = .str k ∧ fs.lookup k = some d ∧ Q d C2) (hs : NoSl b := by exact fun _ _ => rfl) : WE Z (.Subscript a b pos) σ C Q := fun σV H st =>
  tE_of (pe_dget (by omega) pe_self pe_self hs) (tE_mono (seq2 h st) fun v H1 q1 => tE_mono q1 fun u H2 ⟨x, y, C2, e2, st2, r1, r2, fs, k, d, ex, ey, hl, q⟩ => by
    subst ex ey
    cases r2
    cases r1 with
    | @dic a vs _ g1 g2 =>
      obtain ⟨w, hw, rw⟩ := g2.lookup hl
      refine ⟨a, w, rfl, .inl ⟨_, .inr k, .inl (up_mns _ _ g1), rfl, ?_⟩, d, C2, e2, st2, rw, q⟩
      rw [valV_str, hw])
theorem we_kget {Q : D → Cells → Prop} (h : WE Z a σ C fun x C1 => WE Z b σ C1 fun y C2 => ∃ t k v d, x = .cell t ∧ y = .str k ∧ KDct Z.X.K Z.X.w t k v ∧ (∀ G, Rep Z.X.K G v d) ∧ Q d C2) (hs : PlainIx b := by exact fun _ _ => rfl) : WE Z (.Subscript a b pos) σ C Q := fun σV H st =>
  tE_of (pe_ix ix_kdict pe_self pe_self hs) (tE_mono (seq2 h st) fun v H1 q1 => tE_mono q1 fun u H2 ⟨x, y, C2, e2, st2, r1, r2, t, k, w, d, ex, ey, hk, hr, q⟩ => by
    subst ex ey
    cases r1
    cases r2
    exact ⟨t, k, w, rfl, rfl, hk, d, C2, e2, st2, hr _, q⟩)
theorem wt_kni {Q : Bool → Cells → Prop} {t : Addr} {es' : Array DictEntry} {n : Nat} (Dk : KDict Z.X.K Z.X.w t es' n) (h : WE Z a σ C fun x C1 => WE Z b σ C1 fun y C2 => ∃ k r, x = .str k ∧ y = .cell t ∧ PySem.W.nsIn Z.X.K t k = some r ∧ Q (!r.isSome) C2) (hm : behindInMarks .NotIn b = false := by rfl) : WE Z (.Compare a [.NotIn] [b] pos) σ C fun d C2 => ∃ k, d = .bl k ∧ Q k C2 := fun σV H st =>
  tE_of (pe_cmpR (op_notIn_kd Dk) pe_self pe_self hm) (tE_mono (seq2 h st) fun v H1 q1 => tE_mono q1 fun u H2 ⟨x, y, C2, e2, st2, r1, r2, k, r, ex, ey, hk, q⟩ => by
    subst ex ey
    cases r1
    cases r2
    exact ⟨k, r, rfl, rfl, hk, _, C2, e2, st2, .bl _, _, rfl, q⟩)
end
end DW
set_option Elab.async false
set_option linter.all false
set_option maxRecDepth 100000
set_option maxHeartbeats 2000000
namespace DW
open PySem PySem.Spec PyProof.Rows L2 Evl
section
variable {Z : Zx} {σ : Sl} {C : Cells} {pos p apos : Pos} {a b e o : Expr} {es : List Expr} {x f : Str} {id : String} {N : EndsD}
theorem wt_kni' {Q : Bool → Cells → Prop} {t : Addr} {es' : Array DictEntry} {n : Nat} (Dk : KDict Z.X.K Z.X.w t es' n) (h : WE Z a σ C fun x C1 => WE Z b σ C1 fun y C2 => ∃ k r, x = .str k ∧ y = .cell t ∧ PySem.W.nsIn Z.X.K t k = some r ∧ Q (!r.isSome) C2) (hm : behindInMarks .NotIn b = false := by rfl) : WT Z (.Compare a [.NotIn] [b] pos) σ C Q := fun σV H st =>
  tT_of (pt_cmpR (op_notIn_kd Dk) pe_self pe_self hm) (tE_mono (seq2 h st) fun v H1 q1 => tE_mono q1 fun u H2 ⟨x, y, C2, e2, st2, r1, r2, k, r, ex, ey, hk, q⟩ => by
    subst ex ey
    cases r1
    cases r2
    exact ⟨k, r, rfl, rfl, hk, _, rfl, C2, e2, st2, q⟩)
inductive InsIn (C : Cells) : D → Addr → List (Str × D) → Prop
  | v (Cl : Addr) (fs : List (Str × D)) : InsIn C (.obj Cl fs) Cl fs
  | c {q Cl : Addr} {fs : List (Str × D)} : C q = some (.ins Cl fs) → InsIn C (.cell q) Cl fs
theorem InsIn.rd {K : PySem.W.Frag} {T : List (Addr × Str)} {H : Hp} {d : D} {Cl : Addr} {fs : List (Str × D)} (l : InsIn C d Cl fs) (c : COk K T H C) {v : V} (r : Rep K (mns H C) v d) : ∃ q dx vs, v = .ref q ∧ H q = some (.ins Cl dx vs) ∧ RepF K (mns H C) vs fs := by
  cases l with
  | v =>
    cases r with
    | obj h1 h2 => exact ⟨_, _, _, rfl, up_mns _ _ h1, h2⟩
  | @c q _ _ e =>
    cases r
    cases c.ok q _ e with
    | ins h1 h2 => exact ⟨_, _, _, rfl, h1, h2⟩
theorem we_fld {Q : D → Cells → Prop} (h : WE Z o σ C fun x C1 => ∃ Cl fs d, InsIn C1 x Cl fs ∧ Cls Z.X.K Cl ∧ NoAttr Z.X.K Cl f ∧ fs.lookup f = some d ∧ Q d C1) (hb : attributeBase o f Z.X.env (eval o Z.X.env) = eval o Z.X.env := by rfl) : WE Z (.Attribute o f pos) σ C Q := fun σV H st =>
  tE_of (pe_fld pe_self hb) (tE_mono (h σV H st) fun v H1 ⟨x, C1, e1, st1, r1, Cl, fs, d, i, hc, hn, hl, q⟩ => by
    obtain ⟨w, dx, vs, rfl, g1, g2⟩ := i.rd st1.c r1
    obtain ⟨u, hu, ru⟩ := g2.lookup hl
    exact ⟨w, Cl, dx, vs, u, rfl, g1, hc, hn, hu, d, C1, e1, st1, ru, q⟩)
def putD (f : Str) (d : D) : List (Str × D) → List (Str × D)
  | [] => [(f, d)]
  | (g, x) :: r => if g = f then (g, d) :: r else (g, x) :: putD f d r
theorem repF_put {K : PySem.W.Frag} {G : Hp} {v : V} {d : D} (r : Rep K G v d) : ∀ {vs : List (Str × V)} {fs : List (Str × D)}, RepF K G vs fs → RepF K G (putF f v vs) (putD f d fs)
  | _, _, .nil => .cons r .nil
  | _, _, .cons (f := g) q t => by
    unfold putF putD
    by_cases e : g = f
    · rw [if_pos e, if_pos e]
      exact .cons r t
    · rw [if_neg e, if_neg e]
      exact .cons q (repF_put r t)
theorem RepF.length {K : PySem.W.Frag} {G : Hp} : ∀ {vs : List (Str × V)} {fs : List (Str × D)}, RepF K G vs fs → vs.length = fs.length
  | _, _, .nil => rfl
  | _, _, .cons _ t => by rw [List.length_cons, List.length_cons, RepF.length t]
theorem ws_setf {pos' : Pos} (h : WE Z e σ C fun y C1 => WE Z o σ C1 fun x C2 => ∃ q Cl fs, x = .cell q ∧ C2 q = some (.ins Cl fs) ∧ Cls Z.X.K Cl ∧ NoAttr Z.X.K Cl f ∧ fs.length < 1000 ∧ N.nx σ (setC C2 q (.ins Cl (putD f y fs)))) (hs : swapsWith e (some (.Attribute o f pos')) pos.line Z.X.env = pure false := by rfl) :
    WS Z (.Assign [.Attribute o f pos'] e pos) σ C N := fun σV H st =>
  tS_of (ps_fld pe_self pe_self hs) (tE_mono (seq2 h st) fun v H1 q1 => tE_mono q1 fun u H2 ⟨y, x, C2, e2, st2, r1, r2, q, Cl, fs, ex, hq, hc, hn, hl, qq⟩ => by
    subst ex
    cases r2
    cases st2.c.ok q _ hq with
    | @ins _ dx vs _ g1 g2 =>
      obtain ⟨c3, e3⟩ := st2.put (c' := .ins Cl (putD f y fs)) (o := .ins Cl dx (putF f v vs)) hq (.ins upd_same (repF_put r1 g2))
      refine ⟨q, Cl, dx, vs, rfl, g1, hc, hn, by rw [g2.length]; exact hl, σ, _, ⟨c3, ?_, ?_⟩, qq⟩
      · rw [e3]
        exact st2.s
      · rw [e3]
        exact st2.g)
def WKs (Z : Zx) : List Keyword → Sl → Cells → (List D → Cells → Prop) → Prop
  | [], σ, C, Q => Q [] C
  | k :: ks, σ, C, Q => WE Z k.value σ C fun d C1 => WKs Z ks σ C1 fun ds C2 => Q (d :: ds) C2
def tKs (X : Cx) : List Keyword → TA
  | [] => tNil
  | k :: ks => tCons (tE X k.value) (tKs X ks)
theorem pk_self {X : Cx} : ∀ {kws : List Keyword}, PK X kws (tKs X kws)
  | [] => pk_nil
  | ⟨_, _, _⟩ :: _ => pk_cons pe_self pk_self
theorem wks_run : ∀ {kws : List Keyword} {C : Cells} {Q : List D → Cells → Prop} {σV : L2.St} {H H0 : Hp} {C0 : Cells} {R : List V → Hp → Prop}, WKs Z kws σ C Q → StR Z H σV C σ → Ex (mns H0 C0) (mns H C) →
    (∀ vs ds H1 C1, Ex (mns H0 C0) (mns H1 C1) → Ex (mns H C) (mns H1 C1) → StR Z H1 σV C1 σ → Reps Z.X.K (mns H1 C1) vs ds → Q ds C1 → R vs H1) → tKs Z.X kws σV H R
  | [], C, Q, σV, H, H0, C0, R, h, st, ex, k => k [] [] H C ex (Ex.refl _) st .nil h
  | kw :: kws, C, Q, σV, H, H0, C0, R, h, st, ex, k => tE_mono (h σV H st) fun v H1 ⟨d, C1, e1, st1, r1, w⟩ => wks_run w st1 (ex.trans e1) fun vs ds H2 C2 ex2 e2 st2 r2 q => k (v :: vs) (d :: ds) H2 C2 ex2 (e1.trans e2) st2 (.cons (r1.ex e2) r2) q
end
structure KwB (K : PySem.W.Frag) (fd : FuncData) (ps : List Str) (n : Nat) (ks : List Str) (gD : List D → List D → List D) : Prop where
  ex : ∃ (g : List Value → List Value → List Value) (gV : List V → List V → List V), KBn K fd ps n ks g gV ∧ ∀ G vs ds zs es, Reps K G vs ds → Reps K G zs es → Reps K G (gV vs zs) (gD ds es)
theorem kwb_all {K : PySem.W.Frag} {x qual : Str} {params : Arguments} {body : List Stmt} {scope : Scope} {f : Addr} {fd : FuncData} {ps : List Str} {n : Nat} {ks : List Str} (g : {α : Type} → List α → List α → List α) (F : FunD K x qual params body scope [] [] f fd)
    (h : ∀ (kV doc pm : Value) (an : Option Addr) (cdv ct : Value) (us ws : List Value), us.length = n → ws.length = ks.length → bindArgs (PySem.W.fnOf x qual params body scope .none kV doc pm an cdv ct) ⟨us, ks.zip ws⟩ = pure (ps.zip (g us ws)))
    (hv : ∀ {vs zs : List V} {us ws : List Value}, Vals vs us → Vals zs ws → Vals (g vs zs) (g us ws)) (hd : ∀ (G : Hp) (vs : List V) (ds : List D) (zs : List V) (es : List D), Reps K G vs ds → Reps K G zs es → Reps K G (g vs zs) (g ds es)) : KwB K fd ps n ks (fun ds es => g ds es) := by
  obtain ⟨oc, od, dV, kV, doc, pm, an, cdv, ct, osl, rfl, lk, hcd, hD, hK⟩ := F.ex
  rcases hD with ⟨_, rfl⟩ | ⟨e, _⟩
  · exact ⟨fun us ws => g us ws, fun vs zs => g vs zs, ⟨fun s us ws X l1 l2 => .of_eq (h kV doc pm an cdv ct us ws l1 l2), hv⟩, hd⟩
  · exact absurd rfl e
structure HasK (P : Program) (w : World) (K : PySem.W.Frag) (T : List (Addr × Str)) (mg : Str → Option Value) (base : Heap) (x : Str) (n : Nat) (ks : List Str) (gD : List D → List D → List D) (k : Nat) (pre : PreD) : Prop where
  ex : ∃ f fd ps, mg x = some (.ref f) ∧ PySem.W.keepIn K (.ref f) = true ∧ KwB K fd ps n ks gD ∧ FnOk P w K mg base (L2.CX P w) k f fd ps (SpD K T pre)
section
variable {X : Cx} {CX : CXT} {k n : Nat} {f : Addr} {fd : FuncData} {ps ks : List Str} {sp : Sp} {E : L2.St → XK} {x : Str} {p pos : Pos} {e : Expr} {es : List Expr} {kws : List Keyword} {t tk : TA} {g : List Value → List Value → List Value} {gV : List V → List V → List V}
theorem run_kw {pins : List (Addr × Obj)} {σ : L2.St} {H : Hp} {s : Shared} {Q : VK} {us ws : List Value} {vs zs : List V} (F : FnOk X.prog X.w X.K X.mg X.base CX k f fd ps sp) (hr : Room k X.A) (hb : KBn X.K fd ps n ks g gV) (hx : PassesAt CX X σ (E σ))
    (I : Inv X pins σ H s) (r : Vals vs us) (rz : Vals zs ws) (l1 : vs.length = n) (l2 : zs.length = ks.length) (h : sp (gV vs zs) H Q (E σ)) : wpAny (model X.prog X.w) X.A (call (.ref f) us (ks.zip ws)) (EP X pins σ Q) X.xe s := by
  have r2 := hb.rel r rz
  refine wpAny_call (codeAny_mono (F.run X.A X.stack s H ⟨us, ks.zip ws⟩ (g us ws) (gV vs zs) Q (E σ) hr I.env0 (hb.to s us ws I.kIn (r.length.symm.trans l1) (rz.length.symm.trans l2)) r2 h) fun r s' hq => ?_)
  cases r with
  | error e => exact hx pins H s e s' I hq
  | ok fl =>
    cases fl with
    | ret u => exact I.after hq
    | next => exact False.elim hq
    | brk => exact False.elim hq
    | cont => exact False.elim hq
def tCallKw (n m : Nat) (sp : Sp) (gV : List V → List V → List V) (E : L2.St → XK) (t tk : TA) : TE := fun σ H Q => t σ H fun vs H1 => tk σ H1 fun zs H2 => vs.length = n ∧ zs.length = m ∧ sp (gV vs zs) H2 Q (E σ)
theorem pe_callKw0 (F : FnOk X.prog X.w X.K X.mg X.base CX k f fd ps sp) (hr : Room k X.A) (hg : Gl X x) (hm : X.mg x = some (.ref f)) (hk : PySem.W.keepIn X.K (.ref f) = true) (hb : KBn X.K fd ps 0 ks g gV) (hx : ∀ σ, PassesAt CX X σ (E σ)) (hkw : PK X kws tk)
    (hall : (backToKw pos (keywordEach kws X.env)).all (·.1.isSome) = true := by rfl) (hks : (backToKw pos (keywordEach kws X.env)).filterMap (·.1) = ks := by rfl) (hdb : (x == ("__debug__" : Str)) = false := by decide)
    (hpl : ((backTo pos (starEach [] X.env)).any (·.1) || (backToKw pos (keywordEach kws X.env)).any (·.1.isNone)) = false := by rfl) : PE X (.Call (.Name x p) [] kws pos) (tCallKw 0 ks.length sp gV E tNil tk) := by
  refine ⟨fun pins s σ H Q I h => ?_⟩
  refine wpAny_Call_Name_kw (ld_glob I hg hm ?_ hdb)
  refine PySem.W.callWith_KW0 (h₀ := X.base) I.ok.mod.kin hk hall ?_ hpl
  refine thn (hkw.run pos pins s σ H _ I h) fun ws s2 ⟨zs, H2, I2, rz, l1, l2, q2⟩ => ⟨I2.kIn, ?_⟩
  rw [hks]
  exact run_kw (us := []) (vs := []) F hr hb (hx σ) I2 .nil rz rfl l2 q2
theorem pe_callKw (F : FnOk X.prog X.w X.K X.mg X.base CX k f fd ps sp) (hr : Room k X.A) (hg : Gl X x) (hm : X.mg x = some (.ref f)) (hk : PySem.W.keepIn X.K (.ref f) = true) (hb : KBn X.K fd ps n ks g gV) (hx : ∀ σ, PassesAt CX X σ (E σ)) (ha : PA X (e :: es) t) (hkw : PK X kws tk)
    (hall : (backToKw pos (keywordEach kws X.env)).all (·.1.isSome) = true := by rfl) (hks : (backToKw pos (keywordEach kws X.env)).filterMap (·.1) = ks := by rfl) (hdb : (x == ("__debug__" : Str)) = false := by decide)
    (he : starEach (e :: es) X.env = (false, eval e X.env) :: starEach es X.env := by rfl) (hpl : ((backTo pos (starEach (e :: es) X.env)).any (·.1) || (backToKw pos (keywordEach kws X.env)).any (·.1.isNone)) = false := by rfl) :
    PE X (.Call (.Name x p) (e :: es) kws pos) (tCallKw n ks.length sp gV E t tk) := by
  refine ⟨fun pins s σ H Q I h => ?_⟩
  refine wpAny_Call_Name_kw (ld_glob I hg hm ?_ hdb)
  refine PySem.W.callWith_KW (h₀ := X.base) I.ok.mod.kin hk hall (thn (ha.run pos pins s σ H _ I h) fun us s1 ⟨vs, H1, I1, r, q⟩ => ?_) hpl he
  refine thn (hkw.run pos pins s1 σ H1 _ I1 q) fun ws s2 ⟨zs, H2, I2, rz, l1, l2, q2⟩ => ⟨I2.kIn, ?_⟩
  rw [hks]
  exact run_kw F hr hb (hx σ) I2 r rz l1 l2 q2
end
section
variable {Z : Zx} {σ : Sl} {C : Cells} {pos p : Pos} {e : Expr} {es : List Expr} {x : Str} {k j n : Nat} {ks : List Str} {gD : List D → List D → List D} {pre : PreD} {kws : List Keyword}
theorem pass_tz (tk : TakesZ Z) (σV : L2.St) : PassesAt (L2.CX Z.X.prog Z.X.w) Z.X σV ((fun σV cls d H' => WZ Z cls d σV H') σV) := fun pins H0 s0 e' s' I c => tk e' s' (XE.of_call I (fun _ _ _ h => h) c)
theorem we_callKw0 {Q : D → Cells → Prop} (F : HasK Z.X.prog Z.X.w Z.X.K Z.tt Z.X.mg Z.X.base x 0 ks gD k pre) (hr : Room j Z.X.A) (hk : k ≤ j) (tk : TakesZ Z) (h : WKs Z kws σ C fun zs C1 => zs.length = ks.length ∧ pre (gD [] zs) C1 Q fun cx fs C2 => Z.xw cx fs σ C2) (hg : Gl Z.X x := by rfl) (hdb : (x == ("__debug__" : Str)) = false := by decide)
    (hall : (backToKw pos (keywordEach kws Z.X.env)).all (·.1.isSome) = true := by rfl) (hks : (backToKw pos (keywordEach kws Z.X.env)).filterMap (·.1) = ks := by rfl)
    (hpl : ((backTo pos (starEach [] Z.X.env)).any (·.1) || (backToKw pos (keywordEach kws Z.X.env)).any (·.1.isNone)) = false := by rfl) : WE Z (.Call (.Name x p) [] kws pos) σ C Q := fun σV H s => by
  obtain ⟨f, fd, ps, hm, kp, ⟨g, gV, hb, hgr⟩, hF⟩ := F.ex
  refine tE_of (pe_callKw0 (E := fun σV cls d H' => WZ Z cls d σV H') hF (hr.mono hk) hg hm kp hb (pass_tz tk) pk_self hall hks hdb hpl) (wks_run h s (Ex.refl _) fun zs es H1 C1 e1 _ s1 r1 ⟨hl, q⟩ => ⟨rfl, by rw [r1.length]; exact hl, ?_⟩)
  exact ⟨_, C1, Q, _, s1.c, hgr _ _ _ _ _ .nil r1, q, fun v H' d C' e2 c2 r2 q2 => ⟨d, C', e1.trans e2, s1.ex c2 e2, r2, q2⟩, fun cx dd fsV fs H' C' e2 c2 h1 h2 h3 h4 => ⟨cx, dd, fsV, fs, σ, C', rfl, rfl, s1.ex c2 e2, h1, h2, h3, h4⟩⟩
theorem we_callKw {Q : D → Cells → Prop} (F : HasK Z.X.prog Z.X.w Z.X.K Z.tt Z.X.mg Z.X.base x n ks gD k pre) (hr : Room j Z.X.A) (hk : k ≤ j) (tk : TakesZ Z) (h : WA Z (e :: es) σ C fun ds C0 => WKs Z kws σ C0 fun zs C1 => ds.length = n ∧ zs.length = ks.length ∧ pre (gD ds zs) C1 Q fun cx fs C2 => Z.xw cx fs σ C2) (hg : Gl Z.X x := by rfl) (hdb : (x == ("__debug__" : Str)) = false := by decide)
    (hall : (backToKw pos (keywordEach kws Z.X.env)).all (·.1.isSome) = true := by rfl) (hks : (backToKw pos (keywordEach kws Z.X.env)).filterMap (·.1) = ks := by rfl)
    (he : starEach (e :: es) Z.X.env = (false, eval e Z.X.env) :: starEach es Z.X.env := by rfl) (hpl : ((backTo pos (starEach (e :: es) Z.X.env)).any (·.1) || (backToKw pos (keywordEach kws Z.X.env)).any (·.1.isNone)) = false := by rfl) : WE Z (.Call (.Name x p) (e :: es) kws pos) σ C Q := fun σV H s => by
  obtain ⟨f, fd, ps, hm, kp, ⟨g, gV, hb, hgr⟩, hF⟩ := F.ex
  refine tE_of (pe_callKw (E := fun σV cls d H' => WZ Z cls d σV H') hF (hr.mono hk) hg hm kp hb (pass_tz tk) pa_self pk_self hall hks hdb he hpl) (tA_mono (h σV H s) fun vs H0 ⟨ds, C0, e0, s0, r0, w⟩ => wks_run w s0 e0 fun zs es H1 C1 e1 e01 s1 r1 ⟨h0, hl, q⟩ => ⟨by rw [r0.length]; exact h0, by rw [r1.length]; exact hl, ?_⟩)
  exact ⟨_, C1, Q, _, s1.c, hgr _ _ _ _ _ (r0.ex e01) r1, q, fun v H' d C' e2 c2 r2 q2 => ⟨d, C', e1.trans e2, s1.ex c2 e2, r2, q2⟩, fun cx dd fsV fs H' C' e2 c2 h1 h2 h3 h4 => ⟨cx, dd, fsV, fs, σ, C', rfl, rfl, s1.ex c2 e2, h1, h2, h3, h4⟩⟩
end
end DW
set_option Elab.async false
set_option linter.all false
set_option maxRecDepth 100000
set_option maxHeartbeats 2000000
namespace DW
open PySem PySem.Spec PyProof.Rows L2 Evl
structure HasC (P : Program) (w : World) (K : PySem.W.Frag) (T : List (Addr × Str)) (mg : Str → Option Value) (base : Heap) (x : Str) (Cl : Addr) (n : Nat) (ks : List Str) (gD : List D → List D → List D) (k : Nat) (pre : PreD) : Prop where
  ex : ∃ f fd ps, mg x = some (.ref Cl) ∧ Mk K Cl f ∧ KwB K fd ps (n + 1) ks gD ∧ FnOk P w K mg base (L2.CX P w) k f fd ps (SpD K T pre)
theorem pass_no {X : Cx} : Passes (L2.CX X.prog X.w) X (fun _ _ _ => False) := fun pins σ H s e s' I c => by
  obtain ⟨_, _, _, _, _, _, _, _, _, _, _, _, h⟩ := c
  exact h.elim
section
variable {Z : Zx} {σ : Sl} {C : Cells} {pos p apos : Pos} {a b e o : Expr} {es : List Expr} {x f : Str} {id : String} {N : EndsD} {k j n : Nat} {ks : List Str} {gD : List D → List D → List D} {pre : PreD} {kws : List Keyword} {Cl : Addr}
theorem StR.made {H : Hp} {σV : L2.St} (st : StR Z H σV C σ) {q dx : Addr} (hq : H q = none) (hdx : H dx = none) (hne : dx ≠ q) : C q = none ∧ COk Z.X.K Z.tt (upd (upd H dx (.own q)) q (.ins Cl dx [])) (setC C q (.ins Cl [])) ∧ Ex (mns H C) (mns (upd (upd H dx (.own q)) q (.ins Cl dx [])) (setC C q (.ins Cl []))) := by
  obtain ⟨c1, e1, _⟩ := st.new (o := .own q) hdx
  have st1 := st.ex c1 e1
  have hq1 : upd H dx (.own q) q = none := by rw [upd_ne (Ne.symm hne)]; exact hq
  obtain ⟨c2, e2⟩ := st1.cell (a := q) (c := .ins Cl []) (o := .ins Cl dx []) hq1 (.ins upd_same .nil)
  exact ⟨st.c.fresh hq, c2, e1.trans e2⟩
theorem we_makeK {Q : D → Cells → Prop} (F : HasC Z.X.prog Z.X.w Z.X.K Z.tt Z.X.mg Z.X.base x Cl n ks gD k pre) (hr : Room j Z.X.A) (hk : k + 1 ≤ j) (h : WA Z (e :: es) σ C fun ds C0 => WKs Z kws σ C0 fun zs C1 => ds.length = n ∧ zs.length = ks.length ∧
      ∀ q, C1 q = none → pre (gD (.cell q :: ds) zs) (setC C1 q (.ins Cl [])) (fun d C2 => d = .non ∧ ∃ fs, C2 q = some (.ins Cl fs) ∧ Q (.obj Cl fs) (delC C2 q)) (fun _ _ _ => False)) (hg : Gl Z.X x := by rfl) (hdb : (x == ("__debug__" : Str)) = false := by decide)
    (hall : (backToKw pos (keywordEach kws Z.X.env)).all (·.1.isSome) = true := by rfl) (hks : (backToKw pos (keywordEach kws Z.X.env)).filterMap (·.1) = ks := by rfl)
    (he : starEach (e :: es) Z.X.env = (false, eval e Z.X.env) :: starEach es Z.X.env := by rfl) (hpl : ((backTo pos (starEach (e :: es) Z.X.env)).any (·.1) || (backToKw pos (keywordEach kws Z.X.env)).any (·.1.isNone)) = false := by rfl) : WE Z (.Call (.Name x p) (e :: es) kws pos) σ C Q := fun σV H s => by
  obtain ⟨f, fd, ps, hm, hM, ⟨g, gV, hb, hgr⟩, hF⟩ := F.ex
  refine tE_of (pe_makeK hM hF (hr.mono hk) hg hm hb pass_no pa_self pk_self hall hks hdb he hpl) (tA_mono (h σV H s) fun vs H0 ⟨ds, C0, e0, s0, r0, w⟩ => wks_run w s0 e0 fun zs es H1 C1 e1 e01 s1 r1 ⟨h0, hl, q⟩ => ⟨by rw [r0.length]; exact h0, by rw [r1.length]; exact hl, fun a dx ha hdx hne => ?_⟩)
  obtain ⟨hc, c2, e2⟩ := s1.made (Cl := Cl) ha hdx hne
  refine ⟨_, setC C1 a (.ins Cl []), _, _, c2, hgr _ _ _ _ _ (.cons (.opq _) ((r0.ex e01).ex e2)) (r1.ex e2), q a hc, fun v H' d C' e3 c3 r3 ⟨ed, fs, hf, q2⟩ => ?_, fun cx dd fsV fs H' C' _ _ _ _ _ h => h.elim⟩
  subst ed
  cases r3
  obtain ⟨c4, e4, r4⟩ := c3.freezeI hf
  exact ⟨rfl, .obj Cl fs, _, ((e1.trans e2).trans e3).trans e4, s1.ex c4 ((e2.trans e3).trans e4), r4, q2⟩
def spX2 (C : Addr) (f g : Str) : Sp := fun vs H Q _ => ∃ a x y, vs = [.ref a, x, y] ∧ H a = some (exo a C none) ∧ ∀ dx, H dx = none → dx ≠ a → Q .non (upd (upd (upd H dx (exd dx [(f, x)])) a (exo a C (some dx))) dx (exd dx [(g, y), (f, x)]))
def spX1 (C : Addr) (f : Str) : Sp := fun vs H Q _ => ∃ a x, vs = [.ref a, x] ∧ H a = some (exo a C none) ∧ ∀ dx, H dx = none → dx ≠ a → Q .non (upd (upd H dx (exd dx [(f, x)])) a (exo a C (some dx)))
theorem exInit2 {P : Program} {w : World} {K : PySem.W.Frag} {mg : Str → Option Value} {base : Heap} {fI C : Addr} {fd : FuncData} {qual : Str} {params : Arguments} {scope : Scope} {s a b f g : Str} {p1 p2 p3 p4 p5 p6 p7 p8 : Pos}
    (F : FunD K "__init__" qual params [.Assign [.Attribute (.Name s p1) f p2] (.Name a p3) p4, .Assign [.Attribute (.Name s p5) g p6] (.Name b p7) p8] scope [] [] fI fd) (S : FnScope [s, a, b] [s, a, b] scope) (T : OexC K C) (nf : PySem.W.findIn K (.ref C) f = some none) (ng : PySem.W.findIn K (.ref C) g = some none)
    (ls : scope.names.lookup s = some .local) (va : scope.names.lookup a = some .local) (vb : scope.names.lookup b = some .local) (d1 : (s == ("__debug__" : Str)) = false) (d2 : (a == ("__debug__" : Str)) = false) (d3 : (b == ("__debug__" : Str)) = false) (c1 : (s == ("__classdict__" : Str)) = false) (c2 : (a == ("__classdict__" : Str)) = false) (c3 : (b == ("__classdict__" : Str)) = false)
    (h1 : ∀ env, swapsWith (.Name a p3) (some (.Attribute (.Name s p1) f p2)) p4.line env = pure false) (h2 : ∀ env, swapsWith (.Name b p7) (some (.Attribute (.Name s p5) g p6)) p8.line env = pure false) :
    FnOk P w K mg base (L2.CX P w) 1 fI fd [s, a, b] (spX2 C f g) := by
  refine F.ok S (fun vs H Q E h => ?_) (fun cdv A outer sh H vs Q E hr h => ⟨_, pss_cons (ps_ost (pe_var (i := 0) rfl (.inl ?_) d1 c1) (pe_var (i := 1) rfl (.inl ?_) d2 c2) (h1 _)) (pss_one (ps_ost (pe_var (i := 0) rfl (.inl ?_) d1 c1) (pe_var (i := 2) rfl (.inl ?_) d3 c3) (h2 _))), ?_⟩)
  · obtain ⟨_, _, _, rfl, _⟩ := h
    rfl
  · exact ls
  · exact va
  · exact ls
  · exact vb
  · obtain ⟨ad, x, y, rfl, ha, hq⟩ := h
    refine ⟨x, rfl, .ref ad, rfl, ad, C, rfl, T, nf, .inl ⟨ha, fun dx hdx hne => ?_⟩⟩
    refine ⟨y, rfl, .ref ad, rfl, ad, C, rfl, T, ng, .inr ⟨dx, [(f, x)], upd_same, ?_, by simp, hq dx hdx hne⟩⟩
    rw [upd_ne hne, upd_same]
theorem exInit1 {P : Program} {w : World} {K : PySem.W.Frag} {mg : Str → Option Value} {base : Heap} {fI C : Addr} {fd : FuncData} {qual : Str} {params : Arguments} {scope : Scope} {s a f : Str} {p1 p2 p3 p4 : Pos}
    (F : FunD K "__init__" qual params [.Assign [.Attribute (.Name s p1) f p2] (.Name a p3) p4] scope [] [] fI fd) (S : FnScope [s, a] [s, a] scope) (T : OexC K C) (nf : PySem.W.findIn K (.ref C) f = some none)
    (ls : scope.names.lookup s = some .local) (va : scope.names.lookup a = some .local) (d1 : (s == ("__debug__" : Str)) = false) (d2 : (a == ("__debug__" : Str)) = false) (c1 : (s == ("__classdict__" : Str)) = false) (c2 : (a == ("__classdict__" : Str)) = false)
    (h1 : ∀ env, swapsWith (.Name a p3) (some (.Attribute (.Name s p1) f p2)) p4.line env = pure false) :
    FnOk P w K mg base (L2.CX P w) 1 fI fd [s, a] (spX1 C f) := by
  refine F.ok S (fun vs H Q E h => ?_) (fun cdv A outer sh H vs Q E hr h => ⟨_, pss_one (ps_ost (pe_var (i := 0) rfl (.inl ?_) d1 c1) (pe_var (i := 1) rfl (.inl ?_) d2 c2) (h1 _)), ?_⟩)
  · obtain ⟨_, _, rfl, _⟩ := h
    rfl
  · exact ls
  · exact va
  · obtain ⟨ad, x, rfl, ha, hq⟩ := h
    exact ⟨x, rfl, .ref ad, rfl, ad, C, rfl, T, nf, .inl ⟨ha, fun dx hdx hne => hq dx hdx hne⟩⟩
structure HasX2 (P : Program) (w : World) (K : PySem.W.Frag) (mg : Str → Option Value) (base : Heap) (x : Str) (Cl : Addr) (f g : Str) : Prop where
  ex : ∃ fI fd ps, mg x = some (.ref Cl) ∧ OexC K Cl ∧ PySem.W.findIn K (.ref Cl) "__init__" = some (some (.ref fI)) ∧ PySem.W.typeIn K (.ref fI) = some (.type "function") ∧ FnOk P w K mg base (L2.CX P w) 1 fI fd ps (spX2 Cl f g) ∧ Binds K fd ps []
structure HasX1 (P : Program) (w : World) (K : PySem.W.Frag) (mg : Str → Option Value) (base : Heap) (x : Str) (Cl : Addr) (f : Str) : Prop where
  ex : ∃ fI fd ps, mg x = some (.ref Cl) ∧ OexC K Cl ∧ PySem.W.findIn K (.ref Cl) "__init__" = some (some (.ref fI)) ∧ PySem.W.typeIn K (.ref fI) = some (.type "function") ∧ FnOk P w K mg base (L2.CX P w) 1 fI fd ps (spX1 Cl f) ∧ Binds K fd ps []
theorem del_upd {H : Hp} {a : Addr} {o : HO} (h : H a = none) : del (upd H a o) a = H := by
  funext b
  by_cases hb : b = a
  · rw [hb, del_same, h]
  · rw [del_ne hb, upd_ne hb]
theorem upd_comm {H : Hp} {a b : Addr} {o u : HO} (h : a ≠ b) : upd (upd H a o) b u = upd (upd H b u) a o := by
  funext c
  by_cases h1 : c = b
  · rw [h1, upd_same, upd_ne (Ne.symm h), upd_same]
  · by_cases h2 : c = a
    · rw [h2, upd_ne h, upd_same, upd_same]
    · rw [upd_ne h1, upd_ne h2, upd_ne h2, upd_ne h1]
theorem upd_upd {H : Hp} {a : Addr} {o u : HO} : upd (upd H a o) a u = upd H a u := by
  funext c
  by_cases h2 : c = a
  · rw [h2, upd_same, upd_same]
  · rw [upd_ne h2, upd_ne h2, upd_ne h2]
theorem ws_raise2 {g : Str} {b' : Expr} {rp : Pos} (F : HasX2 Z.X.prog Z.X.w Z.X.K Z.X.mg Z.X.base x Cl f g) (hr : Room j Z.X.A) (hk : 2 ≤ j) (tk : TakesZ Z) (h : WA Z [a, b] σ C fun ds C1 => ∃ d1 d2, ds = [d1, d2] ∧ Z.xw Cl [(g, d2), (f, d1)] σ C1) (hc : Z.X.calm = true := by rfl) (hg : Gl Z.X x := by rfl) (hdb : (x == ("__debug__" : Str)) = false := by decide)
    (he : starEach [a, b] Z.X.env = (false, eval a Z.X.env) :: starEach [b] Z.X.env := by rfl) (hpl : (backTo pos (starEach [b] Z.X.env)).any (·.1) = false := by rfl) : WS Z (.Raise (some (.Call (.Name x p) [a, b] [] pos)) none rp) σ C N := fun σV H st => by
  obtain ⟨fI, fd, ps, hm, T, iC, tI, hF, hb⟩ := F.ex
  refine tS_of (ps_raise hc tk (pmk_oex T iC tI hF (hr.mono hk) hb .nil pass_no hg hm pa_self hdb he hpl)) (tA_mono (h σV H st) fun vs H1 ⟨ds, C1, e1, st1, r1, d1, d2, ed, q⟩ => ?_)
  subst ed
  obtain ⟨v, u, rfl, ra, rb⟩ := reps2 r1
  refine ⟨by simp, fun ad had => ⟨ad, v, u, rfl, upd_same, fun dx hdx hne => ⟨rfl, dx, [(g, u), (f, v)], ?_, upd_same, ?_, ?_⟩⟩⟩
  · rw [upd_ne (Ne.symm hne), upd_same]
  · rw [upd_ne hne] at hdx
    exact hdx
  · rw [upd_ne hne] at hdx
    have e0 : upd (del (upd (upd (upd (upd H1 ad (exo ad Cl none)) dx (exd dx [(f, v)])) ad (exo ad Cl (some dx))) dx (exd dx [(g, u), (f, v)])) ad) dx (.xd [(g, u), (f, v)]) = upd H1 dx (.xd [(g, u), (f, v)]) := by
      funext c
      by_cases h1 : c = dx
      · rw [h1, upd_same, upd_same]
      · rw [upd_ne h1, upd_ne h1]
        by_cases h2 : c = ad
        · rw [h2, del_same, had]
        · rw [del_ne h2, upd_ne h1, upd_ne h2, upd_ne h1, upd_ne h2]
    rw [e0]
    obtain ⟨c2, e2, _⟩ := st1.new (o := .xd [(g, u), (f, v)]) hdx
    exact ⟨Cl, dx, _, _, σ, C1, rfl, rfl, st1.ex c2 e2, upd_same, st1.c.fresh hdx, .cons (rb.ex e2) (.cons (ra.ex e2) .nil), q⟩
theorem ws_raise1 {rp : Pos} (F : HasX1 Z.X.prog Z.X.w Z.X.K Z.X.mg Z.X.base x Cl f) (hr : Room j Z.X.A) (hk : 2 ≤ j) (tk : TakesZ Z) (h : WA Z [a] σ C fun ds C1 => ∃ d1, ds = [d1] ∧ Z.xw Cl [(f, d1)] σ C1) (hc : Z.X.calm = true := by rfl) (hg : Gl Z.X x := by rfl) (hdb : (x == ("__debug__" : Str)) = false := by decide)
    (he : starEach [a] Z.X.env = (false, eval a Z.X.env) :: starEach [] Z.X.env := by rfl) (hpl : (backTo pos (starEach [] Z.X.env)).any (·.1) = false := by rfl) : WS Z (.Raise (some (.Call (.Name x p) [a] [] pos)) none rp) σ C N := fun σV H st => by
  obtain ⟨fI, fd, ps, hm, T, iC, tI, hF, hb⟩ := F.ex
  refine tS_of (ps_raise hc tk (pmk_oex T iC tI hF (hr.mono hk) hb .nil pass_no hg hm pa_self hdb he hpl)) (tA_mono (h σV H st) fun vs H1 ⟨ds, C1, e1, st1, r1, d1, ed, q⟩ => ?_)
  subst ed
  obtain ⟨v, rfl, ra⟩ := reps1 r1
  refine ⟨by simp, fun ad had => ⟨ad, v, rfl, upd_same, fun dx hdx hne => ⟨rfl, dx, [(f, v)], upd_same, ?_, ?_, ?_⟩⟩⟩
  · rw [upd_ne hne, upd_same]
  · rw [upd_ne hne] at hdx
    exact hdx
  · rw [upd_ne hne] at hdx
    have e0 : upd (del (upd (upd (upd H1 ad (exo ad Cl none)) dx (exd dx [(f, v)])) ad (exo ad Cl (some dx))) ad) dx (.xd [(f, v)]) = upd H1 dx (.xd [(f, v)]) := by
      funext c
      by_cases h1 : c = dx
      · rw [h1, upd_same, upd_same]
      · rw [upd_ne h1, upd_ne h1]
        by_cases h2 : c = ad
        · rw [h2, del_same, had]
        · rw [del_ne h2, upd_ne h2, upd_ne h1, upd_ne h2]
    rw [e0]
    obtain ⟨c2, e2, _⟩ := st1.new (o := .xd [(f, v)]) hdx
    exact ⟨Cl, dx, _, _, σ, C1, rfl, rfl, st1.ex c2 e2, upd_same, st1.c.fresh hdx, .cons (ra.ex e2) .nil, q⟩
def Zx.nox (Z : Zx) : Zx := ⟨Z.X.nox, Z.G0, fun _ _ _ _ => False, Z.tt⟩
theorem takes_nox : TakesZ Z.nox := fun u s' x => by
  obtain ⟨_, _, _, _, _, _, _, _, _, _, _, _, _, _, _, _, w⟩ := x
  obtain ⟨_, _, _, _, _, _, _, _, _, _, _, _, w⟩ := w
  exact w
theorem BodyOk.nox (B : BodyOk Z k) : BodyOk Z.nox k := ⟨takes_nox, fun e s h => h.elim, B.room⟩
theorem StR.wish {Z' : Zx} {H : Hp} {σV : L2.St} (s : StR Z H σV C σ) (hK : Z'.X.K = Z.X.K) (hG : Z'.G0 = Z.G0) (hT : Z'.tt = Z.tt) : StR Z' H σV C σ := by
  obtain ⟨c, s, g⟩ := s
  exact ⟨by rw [hK, hT]; exact c, by rw [hK]; exact s, by rw [hG]; exact g⟩
theorem spV_wish {Z Z' : Zx} {X : Cx} {pins : List (Addr × Obj)} {N : EndsD} {f : Flow} {s : Shared} (h : SP X pins (endsV Z N) f s) (hK : Z'.X.K = Z.X.K) (hG : Z'.G0 = Z.G0) (hT : Z'.tt = Z.tt) : SP X pins (endsV Z' N) f s := by
  cases f with
  | next =>
    obtain ⟨σ', H', I', σ1, C1, st1, w⟩ := h
    exact ⟨σ', H', I', σ1, C1, st1.wish hK hG hT, w⟩
  | brk =>
    obtain ⟨σ', H', I', σ1, C1, st1, w⟩ := h
    exact ⟨σ', H', I', σ1, C1, st1.wish hK hG hT, w⟩
  | cont =>
    obtain ⟨σ', H', I', σ1, C1, st1, w⟩ := h
    exact ⟨σ', H', I', σ1, C1, st1.wish hK hG hT, w⟩
  | ret v =>
    obtain ⟨v, σ', H', I', rv, d, C1, c1, e1, r1, w⟩ := h
    exact ⟨v, σ', H', I', rv, d, C1, by rw [hK, hT]; exact c1, by rw [hG]; exact e1, by rw [hK]; exact r1, w⟩
theorem ws_try0 {body : List Stmt} {h₀ : ExceptHandler} {hs : List ExceptHandler} (h : WSs Z.nox body σ C N) : WS Z (.Try body (h₀ :: hs) [] [] pos) σ C N := fun σV H st =>
  tS_of (ps_try_thru0 (pss_self (X := Z.X.nox))) (fun pins s I => thn (h σV H (st.wish rfl rfl rfl) pins s I) fun f s1 q => spV_wish q rfl rfl rfl)
end
end DW
set_option Elab.async false
set_option linter.all false
set_option maxRecDepth 100000
set_option maxHeartbeats 2000000
namespace DW
open PySem PySem.Spec PyProof.Rows L2 Evl
section
variable {Z : Zx} {σ : Sl} {C : Cells} {pos p apos : Pos} {a b e o : Expr} {es : List Expr} {x f : Str} {id : String} {N : EndsD}
theorem StR.settle {H : Hp} {σV : L2.St} (h : StR Z H σV C σ) {q : Addr} {c : Ct} {o : HO} (hq : C q = some c) (hp : c.plain = true := by rfl) (ho : ∀ ps, o ≠ .tbl ps := by exact fun _ z => nomatch z) :
    COk Z.X.K Z.tt (upd H q o) (delC C q) ∧ Ex (mns H C) (mns (upd H q o) (delC C q)) ∧ mns (upd H q o) (delC C q) q = some o := by
  have e : Ex (mns H C) (mns (upd H q o) (delC C q)) := fun b u z => by
    obtain ⟨q1, q2, q3⟩ := mns_of3 z
    have hb : b ≠ q := fun z => by rw [z, hq] at q2; cases q2
    exact mns_none (by rw [delC_ne hb]; exact q2) (by rw [upd_ne hb]; exact q1) q3
  refine ⟨⟨fun b cb z => ?_, tb_del h.c.tb (plain_ne hq hp), tn_del h.c.tn⟩, e, mns_none delC_same upd_same ho⟩
  by_cases hb : b = q
  · rw [hb, delC_same] at z
    cases z
  · rw [delC_ne hb] at z
    cases h.c.ok b cb z with
    | lst h1 h2 => exact .lst (by rw [upd_ne hb]; exact h1) (h2.ex e)
    | ins h1 h2 => exact .ins (by rw [upd_ne hb]; exact h1) (h2.ex e)
    | dk0 h1 => exact .dk0 (by rw [upd_ne hb]; exact h1)
    | tab h1 =>
      cases h.c.ok q c hq with
      | dk0 g1 => exact .tab (tabS_put h1 g1 (fun _ z => by cases z) fun _ z => by cases z)
      | lst g1 _ => exact .tab (tabS_put h1 g1 (fun _ z => by cases z) fun _ z => by cases z)
      | ins g1 _ => exact .tab (tabS_put h1 g1 (fun _ z => by cases z) fun _ z => by cases z)
      | tab _ => cases hp
def WPs (Z : Zx) : List (Option Expr) → List Expr → Sl → Cells → (List (Str × D) → Cells → Prop) → Prop
  | some k :: ks, v :: vs, σ, C, Q => WE Z k σ C fun dk C1 => ∃ s, dk = .str s ∧ WE Z v σ C1 fun dv C2 => WPs Z ks vs σ C2 fun r C3 => Q ((s, dv) :: r) C3
  | [], [], _, C, Q => Q [] C
  | _, _, _, _, _ => False
def tPsl (X : Cx) : List (Option Expr) → List Expr → List (TE × TE)
  | some k :: ks, v :: vs => (tE X k, tE X v) :: tPsl X ks vs
  | _, _ => []
def okPs : List (Option Expr) → List Expr → Bool
  | some _ :: ks, _ :: vs => okPs ks vs
  | [], [] => true
  | _, _ => false
theorem pps_self {X : Cx} {pos : Pos} : ∀ {ks : List (Option Expr)} {vs : List Expr}, okPs ks vs = true → PPs X pos ks vs (tPsl X ks vs)
  | some _ :: _, _ :: _, h => pps_cons pe_self pe_self (pps_self h)
  | [], [], _ => pps_nil
  | none :: _, _, h => by simp [okPs] at h
  | some _ :: _, [], h => by simp [okPs] at h
  | [], _ :: _, h => by simp [okPs] at h
theorem wps_run : ∀ {ks : List (Option Expr)} {vs : List Expr} {C : Cells} {Q : List (Str × D) → Cells → Prop} {σV : L2.St} {H H0 : Hp} {C0 : Cells} {R : List (V × V) → Hp → Prop}, WPs Z ks vs σ C Q → StR Z H σV C σ → Ex (mns H0 C0) (mns H C) →
    (∀ (us : List (Str × V)) fs H1 C1, Ex (mns H0 C0) (mns H1 C1) → Ex (mns H C) (mns H1 C1) → StR Z H1 σV C1 σ → RepF Z.X.K (mns H1 C1) us fs → Q fs C1 → R (us.map fun q => (V.str q.1, q.2)) H1) → tPairs (tPsl Z.X ks vs) σV H R
  | some k :: ks, v :: vs, C, Q, σV, H, H0, C0, R, h, st, ex, kk => tE_mono (h σV H st) fun u H1 ⟨d, C1, e1, st1, r1, s, ed, w⟩ => by
    subst ed
    cases r1
    exact tE_mono (w σV H1 st1) fun u2 H2 ⟨d2, C2, e2, st2, r2, w2⟩ => wps_run w2 st2 ((ex.trans e1).trans e2) fun us fs H3 C3 ex3 e3 st3 r3 q => kk ((s, u2) :: us) ((s, d2) :: fs) H3 C3 ex3 ((e1.trans e2).trans e3) st3 (.cons (r2.ex e3) r3) q
  | [], [], C, Q, σV, H, H0, C0, R, h, st, ex, kk => kk [] [] H C ex (Ex.refl _) st .nil h
  | none :: _, _, C, Q, σV, H, H0, C0, R, h, st, ex, kk => h.elim
  | some _ :: _, [], C, Q, σV, H, H0, C0, R, h, st, ex, kk => h.elim
  | [], _ :: _, C, Q, σV, H, H0, C0, R, h, st, ex, kk => h.elim
theorem mergeK_new : ∀ (more acc : List (L2.Key × V)), ((acc ++ more).map (·.1)).Nodup → mergeK acc more = acc ++ more
  | [], acc, _ => by rw [List.append_nil]; rfl
  | kv :: more, acc, h => by
    have hn : valV acc kv.1 = none := by
      have : ∀ l : List (L2.Key × V), kv.1 ∉ l.map (·.1) → valV l kv.1 = none := by
        intro l
        induction l with
        | nil => intro _; rfl
        | cons q r ih =>
          intro hq
          rw [List.map_cons, List.mem_cons, not_or] at hq
          rw [valV_neg (fun z => hq.1 z.symm)]
          exact ih hq.2
      refine this acc fun hm => ?_
      rw [List.map_append, List.map_cons] at h
      exact (List.nodup_append.mp h).2.2 _ hm _ List.mem_cons_self rfl
    show mergeK (putK acc kv.1 kv.2) more = _
    rw [putK_new _ hn, mergeK_new more _ (by rw [List.append_assoc]; exact h), List.append_assoc]
    rfl
theorem repF_keys {K : PySem.W.Frag} {G : Hp} : ∀ {vs : List (Str × V)} {fs : List (Str × D)}, RepF K G vs fs → vs.map (·.1) = fs.map (·.1)
  | _, _, .nil => rfl
  | _, _, .cons _ t => by rw [List.map_cons, List.map_cons, repF_keys t]
theorem we_dict {keys : List (Option Expr)} {vals : List Expr} {Q : D → Cells → Prop} (h : ∀ q, C q = none → WPs Z keys vals σ (setC C q .dk0) fun fs C3 => ∃ C5, C5 q = none ∧ C3 = setC C5 q .dk0 ∧ (fs.map (·.1)).Nodup ∧ fs.length ≤ 15 ∧ Q (.dic fs) C5)
    (hok : okPs keys vals = true := by rfl) (hall : keys.all (·.isSome) = true := by rfl) (hl : keys.length = vals.length := by rfl) (h0 : keys ≠ [] := by simp) (h15 : keys.length ≤ 15 := by decide) : WE Z (.Dict keys vals pos) σ C Q := fun σV H st => by
  refine tE_of (pe_disp (pps_self hok) hall hl h0 h15) fun q hq => ?_
  have hc := st.c.fresh hq
  obtain ⟨c1, e1⟩ := st.cell (a := q) (c := .dk0) (o := .dK []) hq (.dk0 upd_same)
  refine wps_run (h q hc) (st.ex c1 e1) e1 fun us fs H1 C1 ex _ st1 r1 ⟨C5, h5, eC, hnd, hz, qq⟩ => ?_
  subst eC
  have hq1 : H1 q = some (.dK []) := by
    cases st1.c.ok q _ setC_same with
    | dk0 g => exact g
  obtain ⟨c2, e2, n2⟩ := st1.settle (o := .dK (us.map fun q => (.inr q.1, q.2))) setC_same
  rw [delC_setC h5] at c2 e2 n2
  have ek := repF_keys r1
  refine ⟨hq1, us.map fun q => (.inr q.1, q.2), by rw [List.map_map]; rfl, by rw [List.length_map, RepF.length r1]; exact hz, ?_⟩
  rw [mergeK_new _ _ ?_]
  · exact ⟨.dic fs, C5, ex.trans e2, st.ex c2 (ex.trans e2), .dic n2 (r1.ex e2), qq⟩
  · rw [List.nil_append, List.map_map]
    have e3 : (us.map ((fun q : L2.Key × V => q.1) ∘ fun q : Str × V => ((.inr q.1, q.2) : L2.Key × V))) = (us.map (·.1)).map Sum.inr := by rw [List.map_map]; rfl
    rw [e3, ek]
    exact List.Pairwise.map Sum.inr (fun a b h z => h (Sum.inr.inj z)) hnd
theorem we_maxL {Q : D → Cells → Prop} (hm : Z.X.mg "max" = none) (h : WA Z [e] σ C fun ds C1 => ∃ (d : D) (ns : List Int) (m : Int), ds = [d] ∧ LstIn C1 d (ns.map D.int) ∧ m ∈ ns ∧ (∀ y ∈ ns, y ≤ m) ∧ Q (.int m) C1) (hc : Z.X.calm = true := by rfl) (hg : Gl Z.X "max" := by rfl)
    (he : starEach [e] Z.X.env = (false, eval e Z.X.env) :: starEach [] Z.X.env := by rfl) (hpl : (backTo pos (starEach [] Z.X.env)).any (·.1) = false := by rfl) : WE Z (.Call (.Name "max" p) [e] [] pos) σ C Q :=
  goesC_we (pe_callB (id := "max") rC_ok hg hm (by decide +kernel) pa_self (by decide) (by decide) he hpl) (h.mono fun ds C1 ⟨d, ns, m, ed, l, h1, h2, q⟩ => ⟨.int m, .old fun H vs Q c r => by
    subst ed
    obtain ⟨v, rfl, r1⟩ := reps1 r
    obtain ⟨q, us, rfl, g1, g2⟩ := l.rd c r1
    have eu := reps_ints g2
    subst eu
    refine ⟨_, .int _, fun k => rC_of (cr_max hc) ⟨_, ns, rfl, SqL.of g1, List.length_pos_of_mem h1, fun m' h3 h4 => ?_⟩⟩
    have e : m' = m := Int.le_antisymm (h2 m' h3) (h4 m h1)
    rw [e]
    exact k, q⟩)
theorem we_intS {Q : D → Cells → Prop} (hm : Z.X.mg "int" = none) (h : WA Z [e] σ C fun ds C1 => ∃ a n, ds = [.str a] ∧ PySem.intText? a = some n ∧ a.length ≤ 640 ∧ Q (.int n) C1) (hg : Gl Z.X "int" := by rfl)
    (he : starEach [e] Z.X.env = (false, eval e Z.X.env) :: starEach [] Z.X.env := by rfl) (hpl : (backTo pos (starEach [] Z.X.env)).any (·.1) = false := by rfl) : WE Z (.Call (.Name "int" p) [e] [] pos) σ C Q :=
  goesC_we (pe_callTy (T := "int") rC_ok hg hm (by decide +kernel) pa_self (by decide) (by decide) he hpl) (h.mono fun ds C1 ⟨a, n, ed, h1, h2, q⟩ => ⟨.int n, .old fun H vs Q c r => by
    subst ed
    obtain ⟨v, rfl, r1⟩ := reps1 r
    cases r1
    exact ⟨_, .int _, fun k => rC_of call_int_str ⟨a, n, rfl, h1, h2, k⟩⟩, q⟩)
end
end DW
set_option Elab.async false
set_option linter.all false
set_option maxRecDepth 100000
set_option maxHeartbeats 2000000
namespace DW
open PySem PySem.Spec PyProof.Rows L2 Evl
section
variable {Z : Zx} {σ : Sl} {C : Cells} {pos p apos : Pos} {a b e o : Expr} {es : List Expr} {x f : Str} {id : String} {N : EndsD}
def iAll (X : Cx) (scope : Scope) (tg iter : Expr) : TI := fun σ H R => ∀ (s : Shared) (H0 : Hp) (Cc : Addr) (cl : List (Str × Addr)) (fp : List Addr), tI (X.blk s H0 scope (compEnvC scope cl Cc X.env) fp) tg iter σ H R
def Lc2R (Z : Zx) (scope : Scope) (vs ws vs1 ws1 : List Nat) (tg1 iter1 elt : Expr) (σ : Sl) (Q : D → Cells → Prop) (items : List D) (C1 : Cells) : Prop :=
  ∃ (α β : Type) (xs : List α) (enc : α → D) (ys : α → List β) (enc1 : α → β → D) (f : α → β → D) (σ2 : α → Sl) (σ3 : α → β → Sl), items = xs.map enc ∧ (xs.flatMap ys).length ≤ sizeLine ∧ (∀ x ∈ xs, Tgt ws (enc x) (wipeD σ vs) (σ2 x)) ∧
    (∀ x ∈ xs, ∀ s H cl Cc fp G C', Cext C1 C' → WI (Z.blk s H scope cl Cc fp G) tg1 iter1 (σ2 x) C' fun items1 C2 => C2 = C' ∧ items1 = (ys x).map (enc1 x)) ∧
    (∀ x ∈ xs, ∀ y ∈ ys x, Tgt ws1 (enc1 x y) (wipeD (σ2 x) vs1) (σ3 x y)) ∧
    (∀ x ∈ xs, ∀ y ∈ ys x, ∀ s H cl Cc fp G C', Cext C1 C' → WE (Z.blk s H scope cl Cc fp G) elt (σ3 x y) C' fun d C4 => d = f x y ∧ C4 = C') ∧ Q (.lst (xs.flatMap fun x => (ys x).map (f x))) C1
theorem lc2_run {tg iter tg1 iter1 elt : Expr} {scope : Scope} {vs ws vs1 ws1 : List Nat} {Q : D → Cells → Prop} (hv : ∀ i ∈ vs1, i ∈ vs) (ht : ∀ s H cl Cc fp, TgtOk (Z.X.blk s H scope (compEnvC scope cl Cc Z.X.env) fp) tg vs ws) (ht1 : ∀ s H cl Cc fp, TgtOk (Z.X.blk s H scope (compEnvC scope cl Cc Z.X.env) fp) tg1 vs1 ws1)
    (h : WI Z tg iter σ C (Lc2R Z scope vs ws vs1 ws1 tg1 iter1 elt σ Q)) {σV : L2.St} {H : Hp} (s : StR Z H σV C σ) {R : VK} (kR : ∀ v H', PostE Z H σV C σ Q v H' → R v H') : tLc2 (tI Z.X tg iter) (gAll Z.X scope tg) (tAll Z.X scope []) (iAll Z.X scope tg1 iter1) (gAll Z.X scope tg1) (tAll Z.X scope []) (eAll Z.X scope elt) vs vs1 σV H R := by
  refine tI_mono (h σV H s) fun J H1 ⟨items, C1, e1, st1, w, α, β, xs, enc, ys, enc1, f, σ2, σ3, ei, hz, hT, hI, hT1, hE, hq⟩ => fun Dl hDl => ?_
  subst ei
  have hDc : C1 Dl = none := st1.c.fresh hDl
  obtain ⟨c0, e0⟩ := st1.cell (a := Dl) (c := .lst []) (o := .lst []) hDl (.lst upd_same .nil)
  refine ⟨fun i m H' => m = xs.length - i ∧ i ≤ xs.length ∧ StR (Z.base (mns H1 C1)) H' σV (setC C1 Dl (.lst ((xs.take i).flatMap fun x => (ys x).map (f x)))) σ, ⟨_, rfl, Nat.zero_le _, c0, st1.s.ex e0, e0⟩, ?_⟩
  rintro i m H' ⟨rfl, hi, st'⟩
  have eH : Ex (mns H1 C1) H' := st'.g.trans up_mns
  by_cases hlt : i < xs.length
  · have hx : xs[i]? = some xs[i] := List.getElem?_eq_getElem hlt
    have hm : xs[i] ∈ xs := List.getElem_mem hlt
    generalize xs[i] = xi at hx hm
    have htk : xs.take (i + 1) = xs.take i ++ [xi] := by rw [List.take_succ, hx]; rfl
    refine .inr ⟨w.goes i H' eH (by rw [List.length_map]; exact hlt), fun H2 => StR (Z.base (mns H1 C1)) H2 σV (setC C1 Dl (.lst ((xs.take (i + 1)).flatMap fun x => (ys x).map (f x)))) σ, fun H2 st2 => ⟨xs.length - (i + 1), by omega, rfl, hlt, st2⟩, fun x H2 y => ?_⟩
    obtain ⟨d, hd1, hy⟩ := w.yields i H' x H2 eH (by rw [List.length_map]; exact hlt) y
    rw [List.getElem?_map, hx] at hd1
    cases hd1
    obtain ⟨e2, st2, r2⟩ := st'.yield st'.g hy
    intro s0 H0 Cc cl fp
    refine (ht s0 H0 cl Cc fp).run Z.X.K _ x _ (wipe σV vs) (wipeD σ vs) (σ2 xi) H2 _ rfl (st2.s.wipe vs) r2 up_mns (hT xi hm) fun σV2 sl2 ew => ⟨by rw [ew, wipe_wipe], ?_⟩
    intro s3 H3 Cc3 cl3 fp3
    refine tTs_of pts_nil ?_
    show iAll _ _ _ _ _ _ _
    intro s4 H4 Cc4 cl4 fp4
    have stB : StR (Z.blk s4 H4 scope cl4 Cc4 fp4 (mns H1 C1)) H2 σV2 (setC C1 Dl (.lst ((xs.take i).flatMap fun x => (ys x).map (f x)))) (σ2 xi) := ⟨st2.c, sl2, st2.g⟩
    refine tI_mono (hI xi hm s4 H4 cl4 Cc4 fp4 (mns H1 C1) _ (Cext.set hDc) σV2 H2 stB) fun J1 H5 ⟨items1, C5, e5, st5, w5, ec5, ei5⟩ => ?_
    subst ec5 ei5
    refine ⟨fun j k H6 => k = (ys xi).length - j ∧ j ≤ (ys xi).length ∧ StR (Z.blk s4 H4 scope cl4 Cc4 fp4 (mns H5 (setC C1 Dl (.lst ((xs.take i).flatMap fun x => (ys x).map (f x)))))) H6 σV2 (setC C1 Dl (.lst (((xs.take i).flatMap fun x => (ys x).map (f x)) ++ ((ys xi).take j).map (f xi)))) (σ2 xi), ⟨_, rfl, Nat.zero_le _, ?_⟩, ?_⟩
    · rw [List.take_zero, List.map_nil, List.append_nil]
      exact ⟨st5.c, st5.s, Ex.refl _⟩
    rintro j k H6 ⟨rfl, hj, st6⟩
    have eH6 : Ex (mns H5 (setC C1 Dl (.lst ((xs.take i).flatMap fun x => (ys x).map (f x))))) H6 := st6.g.trans up_mns
    by_cases hjl : j < (ys xi).length
    · have hyj : (ys xi)[j]? = some (ys xi)[j] := List.getElem?_eq_getElem hjl
      have hmy : (ys xi)[j] ∈ ys xi := List.getElem_mem hjl
      generalize (ys xi)[j] = yj at hyj hmy
      have htj : (ys xi).take (j + 1) = (ys xi).take j ++ [yj] := by rw [List.take_succ, hyj]; rfl
      refine .inr ⟨w5.goes j H6 eH6 (by rw [List.length_map]; exact hjl), fun H7 => StR (Z.blk s4 H4 scope cl4 Cc4 fp4 (mns H5 (setC C1 Dl (.lst ((xs.take i).flatMap fun x => (ys x).map (f x)))))) H7 σV2 (setC C1 Dl (.lst (((xs.take i).flatMap fun x => (ys x).map (f x)) ++ ((ys xi).take (j + 1)).map (f xi)))) (σ2 xi), fun H7 st7 => ⟨_, by omega, rfl, hjl, st7⟩, fun x7 H7 y7 => ?_⟩
      obtain ⟨d7, hd7, hy7⟩ := w5.yields j H6 x7 H7 eH6 (by rw [List.length_map]; exact hjl) y7
      rw [List.getElem?_map, hyj] at hd7
      cases hd7
      obtain ⟨e7, st7, r7⟩ := st6.yield st6.g hy7
      intro s8 H8 Cc8 cl8 fp8
      refine (ht1 s8 H8 cl8 Cc8 fp8).run Z.X.K _ x7 _ (wipe σV2 vs1) (wipeD (σ2 xi) vs1) (σ3 xi yj) H7 _ rfl (st7.s.wipe vs1) r7 up_mns (hT1 xi hm yj hmy) fun σV3 sl3 ew3 => ⟨by rw [ew3, wipe_wipe], ?_⟩
      intro s9 H9 Cc9 cl9 fp9
      refine tTs_of pts_nil ?_
      show eAll _ _ _ _ _ _
      intro sA HA CcA clA fpA
      have stA : StR (Z.blk sA HA scope clA CcA fpA (mns H5 (setC C1 Dl (.lst ((xs.take i).flatMap fun x => (ys x).map (f x)))))) H7 σV3 (setC C1 Dl (.lst (((xs.take i).flatMap fun x => (ys x).map (f x)) ++ ((ys xi).take j).map (f xi)))) (σ3 xi yj) := ⟨st7.c, sl3, st7.g⟩
      refine tE_mono (hE xi hm yj hmy sA HA clA CcA fpA _ _ (Cext.set hDc) σV3 H7 stA) fun yv HB ⟨dB, CB, eB, stB2, rB, edB, ecB⟩ => ?_
      subst edB ecB
      cases stB2.c.ok Dl _ setC_same with
      | @lst us _ g1 g2 =>
        have g3 := g2.append (.cons rB .nil)
        obtain ⟨cC, eC⟩ := stB2.put (c' := .lst ((((xs.take i).flatMap fun x => (ys x).map (f x)) ++ ((ys xi).take j).map (f xi)) ++ [f xi yj])) (o := .lst (us ++ [yv])) setC_same (.lst upd_same g3)
        rw [setC_setC] at cC eC
        have ea : (((xs.take i).flatMap fun x => (ys x).map (f x)) ++ ((ys xi).take j).map (f xi)) ++ [f xi yj] = ((xs.take i).flatMap fun x => (ys x).map (f x)) ++ ((ys xi).take (j + 1)).map (f xi) := by
          rw [htj, List.map_append, List.append_assoc]
          rfl
        rw [ea] at cC eC
        refine ⟨us, g1, ?_, cC, ?_, ?_⟩
        · have hl1 : (us ++ [yv]).length = us.length + 1 := by simp
          have hl2 : us.length + 1 ≤ (xs.flatMap ys).length := by
            rw [g2.length]
            have e3 : (((xs.take i).flatMap fun x => (ys x).map (f x)) ++ ((ys xi).take j).map (f xi)).length + 1 ≤ ((xs.take (i + 1)).flatMap ys).length := by
              have e4 : ((xs.take i).flatMap fun x => (ys x).map (f x)).length = ((xs.take i).flatMap ys).length := by
                rw [List.length_flatMap, List.length_flatMap]
                congr 1
                exact List.map_congr_left fun x _ => List.length_map ..
              rw [htk, List.flatMap_append, List.length_append, List.length_append, e4, List.flatMap_singleton, List.length_map, List.length_take]
              omega
            have e5 : ((xs.take (i + 1)).flatMap ys).length ≤ (xs.flatMap ys).length := by
              have e6 : (xs.flatMap ys) = ((xs.take (i + 1)).flatMap ys) ++ ((xs.drop (i + 1)).flatMap ys) := by rw [← List.flatMap_append, List.take_append_drop]
              rw [e6, List.length_append]
              omega
            omega
          omega
        · rw [eC]
          exact st6.s.ex (e7.trans eB)
        · rw [eC]
          exact stB2.g
    · have ej : j = (ys xi).length := by omega
      subst ej
      refine .inl ⟨?_, ?_⟩
      · have := w5.stops H6 eH6
        rw [List.length_map] at this
        exact this
      · have c6 := st6.c
        have g6 := st6.g
        rw [List.take_length] at c6 g6
        have ea : ((xs.take (i + 1)).flatMap fun x => (ys x).map (f x)) = ((xs.take i).flatMap fun x => (ys x).map (f x)) ++ (ys xi).map (f xi) := by rw [htk, List.flatMap_append, List.flatMap_singleton]
        rw [ea]
        exact ⟨c6, st'.s.ex ((e2.trans e5).trans g6), (st2.g.trans e5).trans g6⟩
  · have e : i = xs.length := by omega
    subst e
    refine .inl ⟨?_, ?_⟩
    · have := w.stops H' eH
      rw [List.length_map] at this
      exact this
    · rw [List.take_length] at st'
      obtain ⟨c2, e2, r2⟩ := st'.c.freeze (a := Dl) setC_same
      rw [delC_setC hDc] at c2 e2 r2
      exact kR _ _ ⟨_, C1, (e1.trans st'.g).trans e2, ⟨c2, st'.s.ex e2, (st1.g.trans st'.g).trans e2⟩, r2, hq⟩
theorem we_lc2 {tg iter tg1 iter1 elt : Expr} {scope : Scope} (own : List (Str × Nat)) (ws vs1 ws1 : List Nat) {Q : D → Cells → Prop} (hv : ∀ i ∈ vs1, i ∈ own.map (·.2)) (ht : ∀ s H cl Cc fp, TgtOk (Z.X.blk s H scope (compEnvC scope cl Cc Z.X.env) fp) tg (own.map (·.2)) ws) (ht1 : ∀ s H cl Cc fp, TgtOk (Z.X.blk s H scope (compEnvC scope cl Cc Z.X.env) fp) tg1 vs1 ws1)
    (hN : Z.X.N.Nodup) (ok : BlkOk Z.X.N Z.X.env.scope scope own) (h : WI Z tg iter σ C (Lc2R Z scope (own.map (·.2)) ws vs1 ws1 tg1 iter1 elt σ Q)) (hc : Z.X.calm = true := by rfl) (hs : ∀ x, foldedSetIterable iter Z.X.env x = pure x := by intro _; rfl) (hs1 : ∀ env x, foldedSetIterable iter1 env x = pure x := by intro _ _; rfl) :
    WE Z (.ListComp elt [⟨tg, iter, [], 0⟩, ⟨tg1, iter1, [], 0⟩] scope pos) σ C Q := fun σV H s =>
  tE_of (pe_lc2 (own := own) hc hN pi_self ok hv (g := gAll Z.X scope tg) (tt := tAll Z.X scope []) (wi1 := iAll Z.X scope tg1 iter1) (g1 := gAll Z.X scope tg1) (tt1 := tAll Z.X scope []) (te := eAll Z.X scope elt) (fun s H Cc cl fp => ⟨fun pins sh σ H v u Q I r h => h s _ Cc cl fp pins sh u I r⟩) (fun s H Cc cl fp => ⟨fun pins sh σ H Q I h => h s _ Cc cl fp pins sh I⟩)
    (fun s H Cc cl fp => ⟨fun pins sh σ H R I h => h s _ Cc cl fp pins sh I⟩) (fun s H Cc cl fp => ⟨fun pins sh σ H v u Q I r h => h s _ Cc cl fp pins sh u I r⟩) (fun s H Cc cl fp => ⟨fun pins sh σ H Q I h => h s _ Cc cl fp pins sh I⟩) (fun s H Cc cl fp => ⟨fun pins sh σ H Q I h => h s _ Cc cl fp pins sh I⟩) hs hs1) (lc2_run hv ht ht1 h s fun _ _ q => q)
theorem wi_rev {tg : Expr} {R : List D → Cells → Prop} (hm : Z.X.mg "reversed" = none) (h : WA Z [a] σ C fun ds C1 => ∃ d xs, ds = [d] ∧ (d = .lst xs ∨ d = .rol xs) ∧ R xs.reverse C1) (hg : Gl Z.X "reversed" := by rfl) (hs : starEach [a] Z.X.env = [(false, eval a Z.X.env)] := by rfl) : WI Z tg (.Call (.Name "reversed" p) [a] [] pos) σ C R := fun σV H s =>
  tI_of (pi_reversed hg hm pa_self hs) (tA_mono (h σV H s) fun vs H1 ⟨ds, C1, e1, st1, r1, d, xs, ed, hd, q⟩ => by
    subst ed
    obtain ⟨v, rfl, r⟩ := reps1 r1
    have main : ∃ q us, v = .ref q ∧ SqL Z.X.K (mns H1 C1) q us ∧ Reps Z.X.K (mns H1 C1) us xs := by
      rcases hd with e | e
      · subst e
        cases r with
        | lst h1 h2 => exact ⟨_, _, rfl, SqL.of h1, h2⟩
      · subst e
        cases r with
        | rol h1 h2 => exact ⟨_, _, rfl, h1, h2⟩
    obtain ⟨ad, us, rfl, h1, h2⟩ := main
    have w := walk_rev (K := Z.X.K) (a := ad) (xs := us)
    have hl : us.length = xs.reverse.length := by rw [List.length_reverse]; exact h2.length
    refine ⟨ad, us, rfl, ex_l up_mns h1, xs.reverse, C1, e1, st1, ⟨fun i H e hi => w.goes i H (by rw [hl]; exact hi) (ex_l e h1), fun H e => ?_, fun i H x H' e hi y => ?_⟩, q⟩
    · rw [← hl]
      exact w.stops H (ex_l e h1)
    · obtain ⟨e1, e2⟩ := w.yields i H x H' (by rw [hl]; exact hi) (ex_l e h1) y
      obtain ⟨d, h3, h4⟩ := h2.getV e2
      refine ⟨d, ?_, .inl ⟨e1, h4⟩⟩
      have hi2 : i < xs.length := by rw [List.length_reverse] at hi; exact hi
      rw [List.getElem?_reverse hi2, ← h2.length]
      exact h3)
theorem we_call0 {ps : List Str} {k j : Nat} {pre : PreD} {Q : D → Cells → Prop} (F : HasF Z.X.prog Z.X.w Z.X.K Z.tt Z.X.mg Z.X.base x ps k pre) (hr : Room j Z.X.A) (hk : k ≤ j) (hx : Passes (L2.CX Z.X.prog Z.X.w) Z.X (fun _ _ _ => False)) (h : pre [] C Q fun _ _ _ => False) (hg : Gl Z.X x := by rfl) (hdb : (x == ("__debug__" : Str)) = false := by decide) : WE Z (.Call (.Name x p) [] [] pos) σ C Q := fun σV H s => by
  obtain ⟨f, fd, hm, kp, hb, hF⟩ := F.ex
  refine tE_of (pe_call0 (E := fun _ _ _ => False) hF (hr.mono hk) hg hm kp hb .nil hx hdb) ?_
  exact ⟨[], C, Q, _, s.c, .nil, h, fun v H' d C' e2 c2 r2 q2 => ⟨d, C', e2, s.ex c2 e2, r2, q2⟩, fun _ _ _ _ _ _ _ _ _ _ _ h => h⟩
end
end DW
set_option Elab.async false
set_option linter.all false
set_option maxRecDepth 100000
set_option maxHeartbeats 2000000
namespace DW
open PySem PySem.Spec PyProof.Rows L2 Evl
def bltB (K : PySem.W.Frag) (x : Str) (id : String) : Bool := He.eqO (PySem.W.nsIn K mainGlobals x) (some (some (.builtin id)))
theorem bltB_ok {K : PySem.W.Frag} {h : Heap} {mg : Str → Option Value} {x : Str} {id : String} (X : K.In h) (G : h.Ns mainGlobals mg) (c : bltB K x id = true) : mg x = some (.builtin id) := PySem.W.mg_of X G (He.eqO_ok c)
def oexB (K : PySem.W.Frag) (C : Addr) : Bool := (match K.lookup C with
  | some ⟨.type t, _, .cls cd, sl⟩ => (match cd.mro, sl.toList with
    | .ref C' :: bm, [_, _, _, _, some (.builtin n), _] => decide (t = "type") && (C' == C) && decide (n = "ValueError.__new__") && !cd.hasDel && cd.hasDict && PySem.HandSPX.refsVE bm
    | _, _ => false)
  | _ => false) && He.eqO (PySem.W.findIn K (.ref C) "__setattr__") (some (some (.builtin "object.__setattr__"))) && decide (PySem.W.subIn K (.ref C) (.type "BaseException") = some true) && decide (PySem.W.typeIn K (.ref C) = some (.type "type")) && PySem.W.keepIn K (.ref C)
theorem oexB_ok {K : PySem.W.Frag} {C : Addr} (h : oexB K C = true) : OexC K C := by
  unfold oexB at h
  simp only [Bool.and_eq_true, decide_eq_true_eq] at h
  obtain ⟨⟨⟨⟨h1, h2⟩, h3⟩, h4⟩, h5⟩ := h
  refine ⟨?_, He.eqO_ok h2, h3, h4, h5⟩
  split at h1
  · rename_i t dd cd sl ho
    split at h1
    · rename_i C' bm k0 k1 k2 k3 n k5 hm hs
      simp only [Bool.and_eq_true, decide_eq_true_eq, beq_iff_eq, Bool.not_eq_true'] at h1
      obtain ⟨⟨⟨⟨⟨rfl, rfl⟩, rfl⟩, hdel⟩, hdict⟩, hr⟩ := h1
      obtain ⟨nm, bs, mro, ns, qn, hd, sn, sub, ab, col, del⟩ := cd
      dsimp only at hm hdel hdict
      subst hm hdel hdict
      have hsl : sl = #[k0, k1, k2, k3, some (.builtin "ValueError.__new__"), k5] := by
        obtain ⟨l⟩ := sl
        simp only at hs
        rw [hs]
      subst hsl
      exact ⟨nm, qn, ns, bs, bm, sn, sub, ab, col, dd, k0, k1, k2, k3, k5, ho, hr⟩
    · cases h1
  · cases h1
def initB (K : PySem.W.Frag) (C f : Addr) : Bool := He.eqO (PySem.W.findIn K (.ref C) "__init__") (some (some (.ref f))) && decide (PySem.W.typeIn K (.ref f) = some (.type "function"))
theorem initB_ok {K : PySem.W.Frag} {C f : Addr} (h : initB K C f = true) : PySem.W.findIn K (.ref C) "__init__" = some (some (.ref f)) ∧ PySem.W.typeIn K (.ref f) = some (.type "function") := by
  unfold initB at h
  obtain ⟨h1, h2⟩ := He.ba h
  exact ⟨He.eqO_ok h1, of_decide_eq_true h2⟩
def ecB (K : PySem.W.Frag) (D : Addr) : Bool := decide (PySem.W.findIn K (.ref D) "__class__" = some (some (.builtin "object.__class__"))) && (decide (PySem.W.specialIn K (.builtin "object.__class__") "__get__" = some (some (.builtin "getset_descriptor.__get__"))) && (decide (PySem.W.takesIn K (.builtin "object.__class__") = some true) && decide (PySem.W.mroIn K D (.type "object") = some true)))
theorem ecB_ok {K : PySem.W.Frag} {D : Addr} (x : XfC K D) (h : ecB K D = true) : ExcC K D := by
  obtain ⟨h1, h⟩ := He.ba h
  obtain ⟨h2, h⟩ := He.ba h
  obtain ⟨h3, h4⟩ := He.ba h
  exact ⟨x.ga, x.gg, x.exC, x.hdC, of_decide_eq_true h1, of_decide_eq_true h2, of_decide_eq_true h3, of_decide_eq_true h4⟩
def kitB2 (K : PySem.W.Frag) (x : Str) (T : String) (b : Bool) : Bool := decide (PySem.W.kitOne K (.ref (He.ga K x)) (.type T) = some b)
end DW
set_option Elab.async false
set_option linter.all false
set_option maxRecDepth 100000
set_option maxHeartbeats 2000000
namespace DW
open PySem PySem.Spec PyProof.Rows L2 Evl
open He (refV ba)
def nextO (o : Obj) : List Addr := match o.data with
  | .func fd => refV fd.code ++ (refV fd.defaults ++ refV fd.kwdefaults)
  | .cls cd => cd.ns :: cd.mro.flatMap refV
  | .dict es _ => es.toList.flatMap fun e => refV e.val
  | .fields vs => (match vs[11]? with
    | some v => refV v
    | none => [])
  | _ => []
def nextL (g : Addr → Option Obj) (as : List Addr) : List Addr := as.flatMap fun a => match g a with
  | some o => nextO o
  | none => []
def lookL (xs : List Str) (g : Addr → Option Obj) : List Addr :=
  let r := xs.map fun x => He.ga (He.frG g [mainGlobals]) x
  let a := nextL g r
  let b := nextL g a
  let c := nextL g b
  mainGlobals :: (r ++ (a ++ (b ++ (c ++ nextL g c))))
def obsY (xs : List Str) (fa : List He.Fa) (fn : List He.DefD) (ts : List He.Tab) (tf : List He.Defn) (ex : PySem.W.Frag → Bool) (g : Addr → Option Obj) : He.AlX :=
  let K := He.frT g (lookL xs g)
  (He.obsT fa fn ts K, ex K && He.tabsB g tf K)
theorem saysY {xs : List Str} {fa : List He.Fa} {fn : List He.DefD} {ts : List He.Tab} {tf : List He.Defn} {ex : PySem.W.Frag → Bool} {w : World} {h : Heap} (e : obsY xs fa fn ts tf ex h.get? = He.valX fn ts w) :
    He.SaysX fa fn ts tf ex w h (He.frT h.get? (lookL xs h.get?)) := by
  obtain ⟨e1, e2⟩ := Prod.mk.inj (show (He.obsT fa fn ts (He.frT h.get? (lookL xs h.get?)), ex (He.frT h.get? (lookL xs h.get?)) && He.tabsB h.get? tf (He.frT h.get? (lookL xs h.get?))) = (He.valT fn ts w, true) from e)
  obtain ⟨h1, h2⟩ := ba e2
  generalize hL : lookL xs h.get? = L at e1 h1 h2
  have look : ∀ p ∈ tf, PySem.W.codeHdIn (He.frT h.get? L) (He.cT (He.frT h.get? L) p).1 (He.cT (He.frT h.get? L) p).2 = true ∧ ∃ o, h.get? (He.cT (He.frT h.get? L) p).2 = some o ∧ He.emptyTab o = true := by
    intro p hp
    have q := ba (List.all_eq_true.mp h2 p hp)
    refine ⟨q.1, ?_⟩
    have q2 := q.2
    split at q2
    · exact ⟨_, by assumption, q2⟩
    · cases q2
  refine ⟨e1, h1, fun p hp => (look p hp).1, fun p hp => ?_, fun p hp => ?_⟩
  · obtain ⟨o, q, z⟩ := (look p hp).2
    exact He.frT_none q z
  · obtain ⟨o, q, z⟩ := (look p hp).2
    rw [q, He.emptyTab_eq z]
def hookY (xs : List Str) (fa : List He.Fa) (fn : List He.DefD) (ts : List He.Tab) (tf : List He.Defn) (ex : PySem.W.Frag → Bool) : PySem.W.Hook where
  α := He.AlX
  obs := fun s => obsY xs fa fn ts tf ex s.heap.get?
  val := fun w => He.valX fn ts w
  says := fun w h => ∃ K : PySem.W.Frag, K.In h ∧ He.SaysX fa fn ts tf ex w h K
  of := fun _ _ e => ⟨_, He.frT_in, saysY e⟩
  keeps := fun _ _ _ ⟨K, hK, c⟩ k => ⟨K, PySem.W.Frag.In.keeps hK k, ⟨c.t, c.more, c.hd, c.out, fun p hp => k _ _ (c.empty p hp)⟩⟩
theorem obsY_eq {xs : List Str} {fa : List He.Fa} {fn : List He.DefD} {ts : List He.Tab} {tf : List He.Defn} {ex : PySem.W.Frag → Bool} {g : Addr → Option Obj} {s : Shared} (h : ∀ a, g a = s.heap.get? a) : obsY xs fa fn ts tf ex g = (hookY xs fa fn ts tf ex).obs s := by
  have e : g = s.heap.get? := funext h
  rw [e]
  rfl
end DW
set_option Elab.async false
set_option linter.all false
set_option maxRecDepth 100000
set_option maxHeartbeats 2000000
namespace DW
open PySem PySem.Spec PyProof.Rows L2 Evl
inductive Tg where
  | non | bl | int | str | tup | lst | dic
def Tg.nm : Tg → String
  | .non => "NoneType"
  | .bl => "bool"
  | .int => "int"
  | .str => "str"
  | .tup => "tuple"
  | .lst => "list"
  | .dic => "dict"
def isiT : Tg → Tg → Bool
  | .non, .non => true
  | .bl, .bl => true
  | .bl, .int => true
  | .int, .int => true
  | .str, .str => true
  | .tup, .tup => true
  | .lst, .lst => true
  | .dic, .dic => true
  | _, _ => false
theorem isiT_ok {K : PySem.W.Frag} (a b : Tg) (hb : b.nm ≠ "NoneType") : PySem.W.kitOne K (.type a.nm) (.type b.nm) = some (isiT a b) := by
  cases b <;> first
    | exact absurd rfl hb
    | (cases a <;> exact kit_ty (by kernel_rfl))
def D.tg : D → Option Tg
  | .non => some .non
  | .bl _ => some .bl
  | .int _ => some .int
  | .str _ => some .str
  | .tup _ => some .tup
  | .lst _ => some .lst
  | .rol _ => some .lst
  | .dic _ => some .dic
  | _ => none
section
variable {Z : Zx} {σ : Sl} {C : Cells} {pos p apos : Pos} {a b e o : Expr} {es : List Expr} {x f : Str} {N : EndsD}
theorem tg_ty {d : D} {g : Tg} (h : d.tg = some g) : TyD Z.X.K C d (.type g.nm) := by
  cases d <;> first
    | (cases h; first
        | exact .non | exact .bl _ | exact .int _ | exact .str _ | exact .tup _ | exact .lst (.v _) | exact .rol _ | exact .dic _)
    | (simp [D.tg] at h)
theorem we_isiV (b : Tg) {y : Str} {p2 : Pos} {Q : D → Cells → Prop} (hm : Z.X.mg "isinstance" = none) (hy : Z.X.mg y = none) (h : WE Z a σ C fun d C1 => ∃ g, d.tg = some g ∧ Q (.bl (isiT g b)) C1) (hb : b.nm ≠ "NoneType" := by decide) (hyv : bootBuiltins y = some (.type b.nm) := by decide +kernel) (hyg : Gl Z.X y := by rfl) (hyn : y ≠ "__name__" := by decide) (hyd : (y == ("__debug__" : Str)) = false := by decide) (hg : Gl Z.X "isinstance" := by rfl)
    (he : starEach [a, .Name y p2] Z.X.env = (false, eval a Z.X.env) :: starEach [.Name y p2] Z.X.env := by rfl) (hs2 : starEach [.Name y p2] Z.X.env = (false, eval (.Name y p2) Z.X.env) :: starEach [] Z.X.env := by rfl) (hpl : (backTo pos (starEach [.Name y p2] Z.X.env)).any (·.1) = false := by rfl) : WE Z (.Call (.Name "isinstance" p) [a, .Name y p2] [] pos) σ C Q :=
  we_isi hm (wa_cons (h.mono fun d C1 ⟨g, h1, q⟩ => wa_cons (we_bty hy (wa_nil ⟨d, .ty b.nm, _, _, _, rfl, .ty _, tg_ty h1, isiT_ok g b hb, q⟩) hyv hyg hyn hyd) hs2) he) (by decide +kernel) hg he hpl
theorem we_isiC (b : Tg) {y : Str} {p2 : Pos} {Q : D → Cells → Prop} (hm : Z.X.mg "isinstance" = none) (hy : Z.X.mg y = none) (h : WE Z a σ C fun d C1 => ∃ ds, LstIn C1 d ds ∧ Q (.bl (isiT .lst b)) C1) (hb : b.nm ≠ "NoneType" := by decide) (hyv : bootBuiltins y = some (.type b.nm) := by decide +kernel) (hyg : Gl Z.X y := by rfl) (hyn : y ≠ "__name__" := by decide) (hyd : (y == ("__debug__" : Str)) = false := by decide) (hg : Gl Z.X "isinstance" := by rfl)
    (he : starEach [a, .Name y p2] Z.X.env = (false, eval a Z.X.env) :: starEach [.Name y p2] Z.X.env := by rfl) (hs2 : starEach [.Name y p2] Z.X.env = (false, eval (.Name y p2) Z.X.env) :: starEach [] Z.X.env := by rfl) (hpl : (backTo pos (starEach [.Name y p2] Z.X.env)).any (·.1) = false := by rfl) : WE Z (.Call (.Name "isinstance" p) [a, .Name y p2] [] pos) σ C Q :=
  we_isi hm (wa_cons (h.mono fun d C1 ⟨ds, h1, q⟩ => wa_cons (we_bty hy (wa_nil ⟨d, .ty b.nm, _, _, _, rfl, .ty _, .lst h1, isiT_ok .lst b hb, q⟩) hyv hyg hyn hyd) hs2) he) (by decide +kernel) hg he hpl
theorem we_gS {z : Str} {Q : D → Cells → Prop} (hm : ∃ t, Z.X.mg x = some (.str z t)) (q : Q (.str z) C) (hg : Gl Z.X x := by rfl) (hd : (x == ("__debug__" : Str)) = false := by decide) : WE Z (.Name x pos) σ C Q := by
  obtain ⟨t, hm⟩ := hm
  exact we_glob hm (v := .str z) ⟨t, rfl⟩ (fun _ => .str _) q hg hd
theorem we_gI {z : Int} {Q : D → Cells → Prop} (hm : ∃ t, Z.X.mg x = some (.int z t)) (q : Q (.int z) C) (hg : Gl Z.X x := by rfl) (hd : (x == ("__debug__" : Str)) = false := by decide) : WE Z (.Name x pos) σ C Q := by
  obtain ⟨t, hm⟩ := hm
  exact we_glob hm (v := .int z) ⟨t, rfl⟩ (fun _ => .int _) q hg hd
theorem we_gA {z : Addr} {Q : D → Cells → Prop} (hm : Z.X.mg x = some (.ref z)) (q : Q (.cell z) C) (hg : Gl Z.X x := by rfl) (hd : (x == ("__debug__" : Str)) = false := by decide) : WE Z (.Name x pos) σ C Q :=
  we_glob hm (v := .ref z) rfl (fun _ => .opq _) q hg hd
end
end DW
set_option Elab.async false
set_option linter.all false
set_option maxRecDepth 100000
set_option maxHeartbeats 2000000
namespace DW
open PySem PySem.Spec PyProof.Rows L2 Evl
section
variable {Z : Zx} {σ : Sl} {C : Cells} {e : Expr} {N : EndsD}
theorem we_drop {Q : D → Cells → Prop} (h : WE Z e σ C fun d C1 => ∃ p ds, C1 p = some (.lst ds) ∧ Q d (delC C1 p)) : WE Z e σ C Q := fun σV H s => tE_mono (h σV H s) fun v H1 ⟨d, C1, e1, st1, r1, p, ds, hp, q⟩ => by
  obtain ⟨c, e2⟩ := st1.c.del hp rfl
  exact ⟨d, _, e1.trans e2, ⟨c, st1.s.ex e2, st1.g.trans e2⟩, r1.ex e2, q⟩
theorem wss_drop {sts : List Stmt} (p : Addr) (ds : List D) (hp : C p = some (.lst ds)) (h : WSs Z sts σ (delC C p) N) : WSs Z sts σ C N := fun σV H s => by
  obtain ⟨c, e2⟩ := s.c.del hp rfl
  exact h σV H ⟨c, s.s.ex e2, s.g.trans e2⟩
end
theorem range_getD {α β : Type} (g : α → β) (d : α) (xs : List α) : (List.range xs.length).map (fun i => g (xs.getD i d)) = xs.map g := by
  apply List.ext_getElem
  · simp
  · intro i h1 h2
    have h3 : i < xs.length := by simpa using h2
    simp [List.getD_eq_getElem?_getD, h3]
theorem getD_mem {α : Type} {d : α} {xs : List α} {i : Nat} (h : i < xs.length) : xs.getD i d ∈ xs := by
  rw [List.getD_eq_getElem?_getD, List.getElem?_eq_getElem h]
  exact List.getElem_mem h
theorem getD_map {α β : Type} {f : α → β} {d : α} {e : β} {xs : List α} {i : Nat} (h : i < xs.length) : (xs.map f).getD i e = f (xs.getD i d) := by
  rw [List.getD_eq_getElem?_getD, List.getD_eq_getElem?_getD, List.getElem?_map, List.getElem?_eq_getElem h]
  rfl
end DW
set_option Elab.async false
set_option linter.all false
set_option maxRecDepth 100000
set_option maxHeartbeats 2000000
namespace DW
open PySem PySem.Spec PyProof.Rows L2 Evl
section
variable {P : Program} {w : World} {K : PySem.W.Frag} {mg : Str → Option Value} {base : Heap} {x qual : Str} {params : Arguments} {body : List Stmt} {scope : Scope} {dvs : List V} {kws : List (Str × V)} {f c : Addr} {fd : FuncData}
theorem code_at {p : Str × Option Str} (F : FunD K x qual params body scope dvs kws (He.fAd K p) fd) : fd.code = .ref (He.codeOf K p) := by
  obtain ⟨oc, od, dV, kV, doc, pm, an, cdv, ct, osl, e, lk, hcd, _, _⟩ := F.ex
  obtain ⟨c, rfl⟩ := He.codeIn_ref hcd
  have h : fd.code = .ref c := by rw [e]
  rw [He.codeOf_eq lk h, h]
theorem body_okC {T : List (Addr × Str)} {N ps : List Str} {k : Nat} {pre : PreD} (F : FunD K x qual params body scope dvs kws f fd) (hc : fd.code = .ref c) (S : FnScope N ps scope) (len : ∀ ds C R RX, pre ds C R RX → ds.length = ps.length)
    (h : ∀ (A : Around) (outer : List Env) (s : Shared) (H : Hp) (E : XK) (G0 : Hp) (ds : List D) (C : Cells) (R : D → Cells → Prop) (RX : Addr → List (Str × D) → Cells → Prop),
      BodyOk (zOf P w K mg base N qual scope f (.ref c) A outer s H E G0 (fun cx fs _ C => RX cx fs C) T) k → pre ds C R RX → WSs (zOf P w K mg base N qual scope f (.ref c) A outer s H E G0 (fun cx fs _ C => RX cx fs C) T) body (startD N ds) C { nx := fun _ C' => R .non C', rt := R }) :
    FnOk P w K mg base (L2.CX P w) (k + 1) f fd ps (SpD K T pre) := by
  obtain ⟨oc, od, dV, kV, doc, pm, an, cdv, ct, osl, rfl, lk, hcd, _, _⟩ := F.ex
  obtain rfl : cdv = .ref c := hc
  refine fn_of lk hcd S (fun vs H Q E ⟨ds, C, R, RX, _, r, p, _⟩ => r.length.trans (len ds C R RX p)) fun A outer s H vs Q E hr hsp => ?_
  obtain ⟨ds, C, R, RX, cc, r, p, hq, hx⟩ := hsp
  refine ⟨_, pss_self, ?_⟩
  have tk0 : Takes (cxOf (L2.CX P w) P w K mg base N qual scope f (.ref c) A outer s H E) (fun cls d _ H => E cls d H) := takes_of rfl rfl rfl rfl
  have tk : TakesZ (zOf P w K mg base N qual scope f (.ref c) A outer s H E (mns H C) (fun cx fs _ C => RX cx fs C) T) := Takes.imp tk0 fun cls d σV H' ⟨cx, dd, fsV, fs, σ, C', e1, e2, st, h1, h2, h3, h4⟩ => by
    subst e1 e2
    exact hx cx dd fsV fs H' C' st.g st.c h1 h2 h3 h4
  have po : PassesOwn (model P w) (cxOf (L2.CX P w) P w K mg base N qual scope f (.ref c) A outer s H E).A (cxOf (L2.CX P w) P w K mg base N qual scope f (.ref c) A outer s H E).env (cxOf (L2.CX P w) P w K mg base N qual scope f (.ref c) A outer s H E).xe := passes_of (X := cxOf (L2.CX P w) P w K mg base N qual scope f (.ref c) A outer s H E) rfl
  have hb := h A outer s H E (mns H C) ds C R RX ⟨tk, po, hr⟩ p (L2.start N vs) H ⟨cc, slR_start r, Ex.refl _⟩
  intro pins sh I
  refine thn (hb pins sh I) fun f s1 q => ?_
  cases f with
  | next =>
    obtain ⟨σ', H', I', σ1, C1, st1, q⟩ := q
    exact ⟨σ', H', I', hq .non H' .non C1 st1.g st1.c .non q⟩
  | ret u =>
    obtain ⟨v, σ', H', I', rv, d, C1, c1, e1, r1, q⟩ := q
    exact ⟨v, σ', H', I', rv, hq v H' d C1 e1 c1 r1 q⟩
  | brk =>
    obtain ⟨_, _, _, _, _, _, q⟩ := q
    exact False.elim q
  | cont =>
    obtain ⟨_, _, _, _, _, _, q⟩ := q
    exact False.elim q
end
end DW
set_option Elab.async false
set_option linter.all false
set_option maxRecDepth 100000
set_option maxHeartbeats 2000000
namespace DW
open PySem PySem.Spec PyProof.Rows L2 Evl
section
variable {Z : Zx} {σ : Sl} {C : Cells} {pos p : Pos} {N : EndsD}
theorem ws_setLc2 (i : Nat) {y : Str} {py spos : Pos} {tg iter tg1 iter1 elt : Expr} {scope : Scope} (own : List (Str × Nat)) (ws vs1 ws1 : List Nat) (hv : ∀ i ∈ vs1, i ∈ own.map (·.2)) (ht : ∀ s H cl Cc fp, TgtOk (Z.X.blk s H scope (compEnvC scope cl Cc Z.X.env) fp) tg (own.map (·.2)) ws) (ht1 : ∀ s H cl Cc fp, TgtOk (Z.X.blk s H scope (compEnvC scope cl Cc Z.X.env) fp) tg1 vs1 ws1)
    (hN : Z.X.N.Nodup) (ok : BlkOk Z.X.N Z.X.env.scope scope own) (h : WI Z tg iter σ C (Lc2R Z scope (own.map (·.2)) ws vs1 ws1 tg1 iter1 elt σ fun d C1 => N.nx (σ.set i (some d)) C1)) (hy : Z.X.N[i]? = some y := by rfl) (hyl : Z.X.env.scope.names.lookup y = some .local := by rfl)
    (hsw : swapsWith (.ListComp elt [⟨tg, iter, [], 0⟩, ⟨tg1, iter1, [], 0⟩] scope pos) (some (.Name y py)) spos.line Z.X.env = pure true := by exact sw_true rfl rfl rfl (by decide +kernel)) (hc : Z.X.calm = true := by rfl) (hs : ∀ x, foldedSetIterable iter Z.X.env x = pure x := by intro _; rfl) (hs1 : ∀ env x, foldedSetIterable iter1 env x = pure x := by intro _ _; rfl) :
    WS Z (.Assign [.Name y py] (.ListComp elt [⟨tg, iter, [], 0⟩, ⟨tg1, iter1, [], 0⟩] scope pos) spos) σ C N := fun σV H s =>
  tS_of (ps_setLc2 (own := own) hc hN hy hyl hsw pi_self ok hv (g := gAll Z.X scope tg) (tt := tAll Z.X scope []) (wi1 := iAll Z.X scope tg1 iter1) (g1 := gAll Z.X scope tg1) (tt1 := tAll Z.X scope []) (te := eAll Z.X scope elt) (fun s H Cc cl fp => ⟨fun pins sh σ H v u Q I r h => h s _ Cc cl fp pins sh u I r⟩) (fun s H Cc cl fp => ⟨fun pins sh σ H Q I h => h s _ Cc cl fp pins sh I⟩)
    (fun s H Cc cl fp => ⟨fun pins sh σ H R I h => h s _ Cc cl fp pins sh I⟩) (fun s H Cc cl fp => ⟨fun pins sh σ H v u Q I r h => h s _ Cc cl fp pins sh u I r⟩) (fun s H Cc cl fp => ⟨fun pins sh σ H Q I h => h s _ Cc cl fp pins sh I⟩) (fun s H Cc cl fp => ⟨fun pins sh σ H Q I h => h s _ Cc cl fp pins sh I⟩) hs hs1)
    (lc2_run hv ht ht1 h s fun v H1 ⟨d, C1, e1, st1, r1, q⟩ => ⟨_, C1, ⟨st1.c, st1.s.set r1 i, st1.g⟩, q⟩)
end
end DW
set_option Elab.async false
set_option linter.all false
set_option maxRecDepth 100000
set_option maxHeartbeats 2000000
namespace DW
open PySem PySem.Spec PyProof.Rows L2 Evl
structure Bx (Ok : Ct → Prop) (a : Addr) (C C' : Cells) : Prop where
  keep : ∀ b c, b ≠ a → C b = some c → C' b = some c
  at_ : ∃ c, C' a = some c ∧ Ok c
section
variable {Ok : Ct → Prop} {a p : Addr} {C C' C1 C2 : Cells} {c c' : Ct}
theorem Bx.refl (h : C a = some c) (o : Ok c) : Bx Ok a C C := ⟨fun _ _ _ h => h, _, h, o⟩
theorem Bx.trans (h1 : Bx Ok a C C1) (h2 : Bx Ok a C1 C2) : Bx Ok a C C2 := ⟨fun b c hb e => h2.keep b c hb (h1.keep b c hb e), h2.at_⟩
theorem Bx.same (h1 : Bx Ok a C C1) : Bx Ok a C1 C1 := ⟨fun b c hb e => e, h1.at_⟩
theorem Bx.none_ne (h : Bx Ok a C C') (hp : C' p = none) : p ≠ a := fun e => by
  obtain ⟨c, h1, _⟩ := h.at_
  rw [e, h1] at hp
  cases hp
theorem Bx.put (h : Bx Ok a C C') (o : Ok c) : Bx Ok a C (setC C' a c) := ⟨fun b d hb e => by rw [setC_ne hb]; exact h.keep b d hb e, c, setC_same, o⟩
theorem Bx.new (h : Bx Ok a C C') (hp : C' p = none) : Bx Ok a C (setC C' p c) := ⟨fun b d hb e => by
  have e2 := h.keep b d hb e
  rw [setC_ne (fun z => by rw [z, hp] at e2; cases e2)]
  exact e2, by
  obtain ⟨c, h1, h2⟩ := h.at_
  exact ⟨c, by rw [setC_ne (h.none_ne hp).symm]; exact h1, h2⟩⟩
theorem Bx.loc (h : Bx Ok a C C') (hp : C p = none) (hpa : p ≠ a) : Bx Ok a C (setC C' p c) := ⟨fun b d hb e => by
  rw [setC_ne (fun z => by rw [z, hp] at e; cases e)]
  exact h.keep b d hb e, by
  obtain ⟨c, h1, h2⟩ := h.at_
  exact ⟨c, by rw [setC_ne hpa.symm]; exact h1, h2⟩⟩
theorem Bx.del (h : Bx Ok a C C') (hp : C p = none) (hpa : p ≠ a) : Bx Ok a C (delC C' p) := ⟨fun b d hb e => by
  rw [delC_ne (fun z => by rw [z, hp] at e; cases e)]
  exact h.keep b d hb e, by
  obtain ⟨c, h1, h2⟩ := h.at_
  exact ⟨c, by rw [delC_ne hpa.symm]; exact h1, h2⟩⟩
theorem setC_delC (h : C p = some c) : setC (delC C p) p c = C := by
  funext b
  by_cases hb : b = p
  · rw [hb, setC_same, h]
  · rw [setC_ne hb, delC_ne hb]
end
section
variable {Z : Zx} {σ : Sl} {C : Cells} {pos : Pos} {elt : Expr} {es ifs : List Expr} {N : EndsD} {scope : Scope} {vs ws : List Nat} {items : List D} {Q : D → Cells → Prop}
theorem lc_bx {α : Type} (Ok : Ct → Prop) (a : Addr) (xs : List α) (enc : α → D) (Pv : List α → List D → Prop) {σ2 : α → Sl} (hi : items = xs.map enc) (hz : xs.length ≤ sizeLine) (ht : ∀ x ∈ xs, Tgt ws (enc x) (wipeD σ vs) (σ2 x))
    (b0 : Bx Ok a C C) (p0 : Pv [] [])
    (h : ∀ pre x post acc, xs = pre ++ x :: post → acc.length = pre.length → Pv pre acc → ∀ s H cl Cc fp G C', Bx Ok a C C' → WE (Z.blk s H scope cl Cc fp G) elt (σ2 x) C' fun y C4 => Bx Ok a C' C4 ∧ Pv (pre ++ [x]) (acc ++ [y]))
    (q : ∀ acc C', acc.length = xs.length → Pv xs acc → Bx Ok a C C' → Q (.lst acc) C') : LcR Z scope vs ws [] elt σ Q items C := by
  subst hi
  refine ⟨fun i acc C' => i ≤ xs.length ∧ acc.length = i ∧ Pv (xs.take i) acc ∧ Bx Ok a C C', ⟨Nat.zero_le _, rfl, p0, b0⟩, ?_, ?_⟩
  · rintro i d acc C' hi ⟨_, hl, pv, bx⟩
    rw [List.getElem?_map] at hi
    cases ex : xs[i]? with
    | none => rw [ex] at hi; cases hi
    | some x =>
      rw [ex] at hi
      cases hi
      obtain ⟨hlt, ex2⟩ := List.getElem?_eq_some_iff.mp ex
      have hm : x ∈ xs := ex2 ▸ List.getElem_mem hlt
      have es : xs.take (i + 1) = xs.take i ++ [x] := by rw [List.take_succ, ex]; rfl
      have sp : xs = xs.take i ++ x :: xs.drop (i + 1) := by
        have := List.take_append_drop i xs
        rw [List.drop_eq_getElem_cons hlt, ex2] at this
        exact this.symm
      refine ⟨σ2 x, ht x hm, fun s H cl Cc fp G Dl hD => wts_nil ⟨fun z => Bool.noConfusion z, fun _ s H cl Cc fp => ?_⟩⟩
      have hDa : Dl ≠ a := bx.none_ne hD
      refine (h _ x _ acc sp (by rw [List.length_take]; omega) pv s H cl Cc fp G _ (bx.new hD)).mono fun y C4 ⟨b4, p4⟩ => ?_
      have hd4 : C4 Dl = some (.lst acc) := b4.keep _ _ hDa setC_same
      refine ⟨delC C4 Dl, delC_same, (setC_delC hd4).symm, by omega, hlt, by rw [List.length_append, hl]; rfl, by rw [es]; exact p4, fun b c hb e => ?_, ?_⟩
      · have e1 := bx.keep b c hb e
        have hbD : b ≠ Dl := fun z => by rw [z, hD] at e1; cases e1
        rw [delC_ne hbD]
        exact b4.keep b c hb (by rw [setC_ne hbD]; exact e1)
      · obtain ⟨c, h1, h2⟩ := b4.at_
        exact ⟨c, by rw [delC_ne hDa.symm]; exact h1, h2⟩
  · rintro acc C' ⟨_, hl, pv, bx⟩ Dl hD
    rw [List.length_map] at hl pv
    rw [List.take_length] at pv
    exact ⟨_, _, .inr ⟨rfl, rfl⟩, q acc C' hl pv bx⟩
theorem lc_mapC {α : Type} (xs : List α) (enc f : α → D) {σ2 : α → Sl} (hi : items = xs.map enc) (hz : xs.length ≤ sizeLine) (ht : ∀ x ∈ xs, Tgt ws (enc x) (wipeD σ vs) (σ2 x))
    (h : ∀ x ∈ xs, ∀ s H cl Cc fp G C', Cext C C' → WE (Z.blk s H scope cl Cc fp G) elt (σ2 x) C' fun y C4 => y = f x ∧ C4 = C') (q : ∀ p, C p = none → Q (.cell p) (setC C p (.lst (xs.map f)))) : LcR Z scope vs ws [] elt σ Q items C := by
  subst hi
  refine ⟨fun i acc C' => i ≤ xs.length ∧ acc = (xs.take i).map f ∧ C' = C, ⟨Nat.zero_le _, rfl, rfl⟩, ?_, ?_⟩
  · rintro i d acc C' hi ⟨_, rfl, rfl⟩
    rw [List.getElem?_map] at hi
    cases ex : xs[i]? with
    | none => rw [ex] at hi; cases hi
    | some x =>
      rw [ex] at hi
      cases hi
      obtain ⟨hlt, ex2⟩ := List.getElem?_eq_some_iff.mp ex
      have hm : x ∈ xs := ex2 ▸ List.getElem_mem hlt
      refine ⟨σ2 x, ht x hm, fun s H cl Cc fp G Dl hD => wts_nil ⟨fun z => Bool.noConfusion z, fun _ s H cl Cc fp => ?_⟩⟩
      refine (h x hm s H cl Cc fp G _ (Cext.set hD)).mono fun y C4 ⟨ey, eC⟩ => ⟨C', hD, eC, ?_, hlt, ?_, rfl⟩
      · rw [List.length_map, List.length_take]
        omega
      · rw [ey, List.take_succ, ex]
        simp
  · rintro acc C' ⟨_, rfl, rfl⟩ Dl hD
    refine ⟨_, _, .inl ⟨rfl, rfl⟩, ?_⟩
    rw [List.length_map, List.take_length]
    exact q Dl hD
end
def Zx.tr (Z : Zx) (pn : List (Addr × Obj)) (xe : Value → Shared → Prop) (xw : Addr → List (Str × D) → Sl → Cells → Prop) : Zx := ⟨Z.X.tr pn xe, Z.G0, xw, Z.tt⟩
def Zx.suite (Z : Zx) (a : Addr) (oe : Obj) (pn : List (Addr × Obj)) (G : Hp) : Zx := ⟨Z.X.suite a ((a, oe) :: pn), G, fun _ _ _ _ => False, Z.tt⟩
def SuOk (K : PySem.W.Frag) (G : Hp) (fs : List (Str × D)) (d : Option Addr) : Prop := ∃ dd fsV, d = some dd ∧ G dd = some (.xd fsV) ∧ RepF K G fsV fs
def tbT (X : Cx) (body : List Stmt) : WX → TS := fun W D σ H => ∀ (pn : List (Addr × Obj)) (xe : Value → Shared → Prop), Takes (X.tr pn xe) W → PassesOwn (model X.prog X.w) X.A X.env xe → tSs (X.tr pn xe) body D σ H
def tsT (X : Cx) (suite : List Stmt) : Addr → Value → Option Addr → TS := fun a cls d D σ H => ∀ (oe : Obj) (pn : List (Addr × Obj)), Zc cls d oe → (∃ vs, oe.data = .fields vs) → tSs (X.suite a ((a, oe) :: pn)) suite D σ H
section
variable {Z : Zx} {σ : Sl} {C : Cells} {pos np pos' p : Pos} {a b e : Expr} {N : EndsD} {i k : Nat} {x n f : Str} {c : Value} {body suite : List Stmt} {b₀ : Stmt}
def goneN (N : EndsD) (i : Nat) : EndsD := ⟨fun σ2 C2 => N.nx (σ2.set i none) C2, N.rt, fun σ2 C2 => N.bk (σ2.set i none) C2, fun σ2 C2 => N.ct (σ2.set i none) C2⟩
theorem ws_tryAs (i : Nat) (B : BodyOk Z k) (hc : Names Z.X x c)
    (h : ∀ pn xe, BodyOk (Z.tr pn xe fun cx fs σ' C' => ∃ q, PySem.W.exmOne Z.X.K (.ref cx) c = some q ∧
        (q = true → ∀ (a : Addr) (oe : Obj) (pn : List (Addr × Obj)) (d : Option Addr) (G : Hp), Zc (.ref cx) d oe → (∃ vs, oe.data = .fields vs) → SuOk Z.X.K G fs d → WSs (Z.suite a oe pn G) (b₀ :: suite) (σ'.set i (some (.opq (.ref a)))) C' (goneN N i)) ∧ (q = false → Z.xw cx fs σ' C')) k →
      WSs (Z.tr pn xe fun cx fs σ' C' => ∃ q, PySem.W.exmOne Z.X.K (.ref cx) c = some q ∧
        (q = true → ∀ (a : Addr) (oe : Obj) (pn : List (Addr × Obj)) (d : Option Addr) (G : Hp), Zc (.ref cx) d oe → (∃ vs, oe.data = .fields vs) → SuOk Z.X.K G fs d → WSs (Z.suite a oe pn G) (b₀ :: suite) (σ'.set i (some (.opq (.ref a)))) C' (goneN N i)) ∧ (q = false → Z.xw cx fs σ' C')) body σ C N)
    (hN : Z.X.N.Nodup) (hi : Z.X.N[i]? = some n := by rfl) (hln : Z.X.env.kindOf n = some .local := by rfl) (hs : Z.X.stack = Z.X.env :: Z.X.outer := by rfl) (hf : Z.X.env.frame = some Z.X.env.locals := by rfl) :
    WS Z (.Try body [.ExceptHandler (some (.Name x np)) (some n) (b₀ :: suite) pos'] [] [] pos) σ C N := fun σV H st => by
  refine tS_of (ps_try_as (tb := tbT Z.X body) (ts := tsT Z.X (b₀ :: suite)) (Wout := WZ Z) hs hf hN hi hln hc B.tk (fun W pn xe tk po => ⟨fun pins s σ H D I h => h pn xe tk po pins s I⟩) (fun a oe cls d pn hz hf => ⟨fun pins s σ H D I h => h oe pn hz hf pins s I⟩)) ?_
  intro pn xe tk po
  refine fun pins s I => thn (h pn xe ⟨?_, po, B.room⟩ σV H (st.wish rfl rfl rfl) pins s I) fun f s1 q => spV_wish q rfl rfl rfl
  refine Takes.imp tk fun cls d σV' H' w => ?_
  obtain ⟨cx, dd, fsV, fs, σ', C', rfl, rfl, st', hdd, hC, rf, q, hq, hyes, hno⟩ := w
  refine ⟨q, hq, fun hq1 a ha oe pn2 hz hfo => ?_, fun hq0 => ⟨cx, dd, fsV, fs, σ', C', rfl, rfl, st'.wish rfl rfl rfl, hdd, hC, rf, hno hq0⟩⟩
  have st2 : StR (Z.suite a oe pn2 (mns H' C')) H' (σV'.set i (some (.ref a))) C' (σ'.set i (some (.opq (.ref a)))) := ⟨st'.c, st'.s.set (.opq _) i, Ex.refl _⟩
  refine fun pins s I => thn (hyes hq1 a oe pn2 (some dd) _ hz hfo ⟨dd, fsV, rfl, mns_none hC hdd (fun _ z => nomatch z), rf⟩ _ _ st2 pins s I) fun f s1 q => ?_
  have dn : ∀ {M : Sl → Cells → Prop} {σ2 : L2.St} {H2 : Hp}, nxV (Z.suite a oe pn2 (mns H' C')) (fun σ3 C3 => M (σ3.set i none) C3) σ2 H2 → nxV Z M (σ2.set i none) H2 := fun {M σ2 H2} ⟨σ3, C3, st3, w⟩ => ⟨σ3.set i none, C3, ⟨st3.c, st3.s.none i, st'.g.trans st3.g⟩, w⟩
  cases f with
  | next =>
    obtain ⟨σ2, H2, I2, w⟩ := q
    exact ⟨σ2, H2, I2, dn w⟩
  | brk =>
    obtain ⟨σ2, H2, I2, w⟩ := q
    exact ⟨σ2, H2, I2, dn w⟩
  | cont =>
    obtain ⟨σ2, H2, I2, w⟩ := q
    exact ⟨σ2, H2, I2, dn w⟩
  | ret v =>
    obtain ⟨v, σ2, H2, I2, rv, d, C1, c1, e1, r1, w⟩ := q
    exact ⟨v, σ2, H2, I2, rv, d, C1, c1, st'.g.trans e1, r1, w⟩
theorem we_xf {a cx : Addr} {oe : Obj} {pn : List (Addr × Obj)} {G : Hp} {d : Option Addr} {fs : List (Str × D)} {Q : D → Cells → Prop} (T : XfC Z.X.K cx) (hno : PySem.W.findIn Z.X.K (.ref cx) f = some none) (hz : Zc (.ref cx) d oe) (hfo : ∃ vs, oe.data = .fields vs) (S : SuOk Z.X.K G fs d)
    (h : WE (Z.suite a oe pn G) e σ C fun x C1 => x = .opq (.ref a) ∧ ∃ y, fs.lookup f = some y ∧ Q y C1) (hb : attributeBase e f Z.X.env (eval e Z.X.env) = eval e Z.X.env := by rfl) : WE (Z.suite a oe pn G) (.Attribute e f pos) σ C Q := fun σV H st =>
  tE_of (X := (Z.suite a oe pn G).X) (pe_xf (X := Z.X) T hno hz hfo pe_self hb) (tE_mono (h σV H st) fun v H1 ⟨x, C1, e1, st1, r1, ex, y, hl, q⟩ => by
    subst ex
    cases r1
    obtain ⟨dd, fsV, ed, hd, rf⟩ := S
    obtain ⟨u, hu, ru⟩ := rf.lookup hl
    exact ⟨rfl, rfl, dd, fsV, u, ed, up_mns _ _ (st1.g _ _ hd), hu, y, C1, e1, st1, ru.ex st1.g, q⟩)
def rIsE2 (K : PySem.W.Frag) (D a dd : Addr) : List V → Hp → VK → Prop := fun xs H Q => ∃ (c : V) (cv : Value) (b : Bool) (fs : List (Str × V)), xs = [.ref a, c] ∧ ClsV c cv ∧ PySem.W.kitOne K (.ref D) cv = some b ∧ H dd = some (.xd fs) ∧ Q (.bl b) H
theorem call_isE2 {X : Cx} {a D dd : Addr} {oe : Obj} {pn : List (Addr × Obj)} (C : ExcC X.K D) (hz : Zc (.ref D) (some dd) oe) (hf : ∃ vs, oe.data = .fields vs) : CallR (X.suite a ((a, oe) :: pn)) (.builtin "isinstance") (rIsE2 X.K D a dd) := by
  intro pins s σ H xs us Q I r h
  obtain ⟨c, cv, b, fs, rfl, hcv, e, hd, q⟩ := h
  cases r with
  | cons rx rr =>
    cases rr with
    | cons rt rr =>
      cases rr
      cases rx
      have ec := hcv.eq rt
      subst ec
      obtain ⟨hget, _⟩ := I.pin (a, oe) (List.mem_append.mpr (.inl List.mem_cons_self))
      obtain ⟨vs, hv⟩ := hf
      have hx : ObjOk X.prog X.w H s.heap dd (.xd fs) := I.hok dd _ hd
      obtain ⟨mA, hns, hr⟩ := hx
      obtain ⟨od, ho, hl⟩ := lookIn_ns hns
      have J : PySem.W.InstAt s.heap a oe D (some od) := ⟨hget, hz.1, by unfold PySem.W.notCls; rw [hv] <;> rfl, by rw [hz.2]; exact ho⟩
      obtain ⟨cd, hcd, _⟩ := PySem.W.any_some C.hd
      exact PySem.W.kia_one (PySem.W.kitx_exc (by rw [hcd]; rfl) C.hg C.hk C.hs C.ha C.hn C.ht C.hm) I.kIn J e (fun z => nomatch z) fun tk => ⟨.bl b, H, I.kept (t' := tk) fun _ _ z => z, rfl, q⟩
theorem we_isiE {ad cx : Addr} {oe : Obj} {pn : List (Addr × Obj)} {G : Hp} {d : Option Addr} {fs : List (Str × D)} {Q : D → Cells → Prop} (T : ExcC Z.X.K cx) (hz : Zc (.ref cx) d oe) (hfo : ∃ vs, oe.data = .fields vs) (S : SuOk Z.X.K G fs d) (hm : Z.X.mg "isinstance" = none)
    (h : WA (Z.suite ad oe pn G) [a, b] σ C fun ds C1 => ∃ c u k, ds = [.opq (.ref ad), .opq c] ∧ ClsV c u ∧ PySem.W.kitOne Z.X.K (.ref cx) u = some k ∧ Q (.bl k) C1) (hv : bootBuiltins "isinstance" = some (.builtin "isinstance") := by decide +kernel) (hg : Gl Z.X "isinstance" := by rfl)
    (he : starEach [a, b] Z.X.env = (false, eval a Z.X.env) :: starEach [b] Z.X.env := by rfl) (hpl : (backTo pos (starEach [b] Z.X.env)).any (·.1) = false := by rfl) : WE (Z.suite ad oe pn G) (.Call (.Name "isinstance" p) [a, b] [] pos) σ C Q := by
  obtain ⟨dd, fsV, rfl, hd, rf⟩ := S
  refine goesC_we (Z := Z.suite ad oe pn G) (pe_callB (X := (Z.suite ad oe pn G).X) rC_ok hg hm hv pa_self (by decide) (by decide) he hpl) (h.mono fun ds C1 ⟨c, u, k, ed, hc, hk, q⟩ => ⟨.bl k, fun H σV σ vs Q st r w => ?_, q⟩)
  subst ed
  obtain ⟨v, u2, rfl, r1, r2⟩ := reps2 r
  cases r1
  cases r2
  exact rC_of (X := (Z.suite ad oe pn G).X) (call_isE2 T hz hfo) ⟨c, u, k, fsV, rfl, hc, hk, up_mns _ _ (st.g _ _ hd), w (.bl k) H (Ex.refl _) st (.bl _)⟩
end
end DW
set_option Elab.async false
set_option linter.all false
set_option maxRecDepth 100000
set_option maxHeartbeats 2000000
namespace DW
open PySem PySem.Spec PyProof.Rows L2 Evl
section
variable {Z : Zx} {σ : Sl} {C : Cells} {pos : Pos} {e : Expr} {N : EndsD}
def WIc (Z : Zx) (tg iter : Expr) (σ : Sl) (C : Cells) (R : Addr → List D → Cells → Prop) : Prop := ∀ σV H, StR Z H σV C σ → tI Z.X tg iter σV H fun J H' => ∃ p ds C', Ex (mns H C) (mns H' C') ∧ StR Z H' σV C' σ ∧ J = Itl Z.X.K p ∧ C' p = some (.lst ds) ∧ R p ds C'
theorem wic {tg : Expr} {R : Addr → List D → Cells → Prop} (h : WE Z e σ C fun d C1 => ∃ p ds, d = .cell p ∧ C1 p = some (.lst ds) ∧ R p ds C1) : WIc Z tg e σ C R := fun σV H s pins sh I => by
  refine thn (h σV H s pins sh I) fun v s1 ⟨x, H1, I1, rv, d, C1, e1, st1, r1, p, ds, ed, hp, q⟩ => ?_
  subst ed
  cases r1
  cases rv
  cases st1.c.ok p _ hp with
  | lst h1 h2 => exact iter_l I1 (SqL.of h1) ⟨p, ds, C1, e1, st1, rfl, hp, q⟩
def LcC (Z : Zx) (scope : Scope) (vs ws : List Nat) (ifs : List Expr) (elt : Expr) (σ : Sl) (Q : D → Cells → Prop) (p : Addr) (items : List D) (C1 : Cells) : Prop :=
  ∃ Pv : Nat → List D → Prop, Pv 0 [] ∧
    (∀ i d acc, items[i]? = some d → Pv i acc → ∃ σ2, Tgt ws d (wipeD σ vs) σ2 ∧ ∀ s H cl Cc fp G Dl, C1 Dl = none →
      WTs (Z.blk s H scope cl Cc fp G) ifs σ2 (setC C1 Dl (.lst acc)) fun k C3 => C3 = setC C1 Dl (.lst acc) ∧ (k = false → Pv (i + 1) acc) ∧
        (k = true → ∀ s H cl Cc fp, WE (Z.blk s H scope cl Cc fp G) elt σ2 (setC C1 Dl (.lst acc)) fun y C4 => C4 = setC C1 Dl (.lst acc) ∧ acc.length < sizeLine ∧ Pv (i + 1) (acc ++ [y]))) ∧
    ∀ acc, Pv items.length acc → Q (.lst acc) C1
theorem lcC_run {tg iter elt : Expr} {ifs : List Expr} {scope : Scope} {vs ws : List Nat} {Q : D → Cells → Prop} (ht : ∀ s H cl Cc fp, TgtOk (Z.X.blk s H scope (compEnvC scope cl Cc Z.X.env) fp) tg vs ws)
    (h : WIc Z tg iter σ C (LcC Z scope vs ws ifs elt σ Q)) {σV : L2.St} {H : Hp} (s : StR Z H σV C σ) {R : VK} (kR : ∀ v H', PostE Z H σV C σ Q v H' → R v H') : tLc (tI Z.X tg iter) (gAll Z.X scope tg) (tAll Z.X scope ifs) (eAll Z.X scope elt) vs σV H R := by
  refine tI_mono (h σV H s) fun J H1 ⟨p, items, C1, e1, st1, eJ, hpc, Pv, p0, hb, hd⟩ => fun Dl hDl => ?_
  subst eJ
  have hDc : C1 Dl = none := st1.c.fresh hDl
  obtain ⟨c0, e0⟩ := st1.cell (a := Dl) (c := .lst []) (o := .lst []) hDl (.lst upd_same .nil)
  refine ⟨fun i m H' => m = items.length - i ∧ i ≤ items.length ∧ ∃ acc, Pv i acc ∧ StR (Z.base (mns H1 C1)) H' σV (setC C1 Dl (.lst acc)) σ, ⟨_, rfl, Nat.zero_le _, [], p0, ⟨c0, st1.s.ex e0, e0⟩⟩, ?_⟩
  rintro i m H' ⟨rfl, hi, acc, pv, st'⟩
  have hpD : p ≠ Dl := fun z => by rw [z, hDc] at hpc; cases hpc
  have hp2 : setC C1 Dl (.lst acc) p = some (.lst items) := by rw [setC_ne hpD]; exact hpc
  obtain ⟨us, g1, g2⟩ : ∃ us, H' p = some (.lst us) ∧ Reps Z.X.K (mns H' (setC C1 Dl (.lst acc))) us items := by
    cases st'.c.ok p _ hp2 with
    | lst g1 g2 => exact ⟨_, g1, g2⟩
  have hul := g2.length
  by_cases hlt : i < items.length
  · refine .inr ⟨walk_list.goes i H' (by rw [hul]; exact hlt) (SqL.of g1), fun H2 => ∃ acc, Pv (i + 1) acc ∧ StR (Z.base (mns H1 C1)) H2 σV (setC C1 Dl (.lst acc)) σ, fun H2 ⟨acc2, p2, st2⟩ => ⟨items.length - (i + 1), by omega, rfl, hlt, acc2, p2, st2⟩, fun x H2 y => ?_⟩
    obtain ⟨eH2, ex⟩ := walk_list.yields i H' x H2 (by rw [hul]; exact hlt) (SqL.of g1) y
    subst eH2
    obtain ⟨d, hd1, r2⟩ := g2.getV ex
    obtain ⟨σ2, tgt, hw⟩ := hb i d acc hd1 pv
    intro s0 H0 Cc cl fp
    refine (ht s0 H0 cl Cc fp).run Z.X.K _ x d (wipe σV vs) (wipeD σ vs) σ2 H2 _ rfl (st'.s.wipe vs) r2 up_mns tgt fun σV2 sl2 ew => ⟨by rw [ew, wipe_wipe], ?_⟩
    intro s3 H3 Cc3 cl3 fp3
    have stB : StR (Z.blk s3 H3 scope cl3 Cc3 fp3 (mns H1 C1)) H2 σV2 (setC C1 Dl (.lst acc)) σ2 := ⟨st'.c, sl2, st'.g⟩
    refine fun pins sh I => thn (hw s3 H3 cl3 Cc3 fp3 (mns H1 C1) Dl hDc σV2 H2 stB pins sh I) fun k s1 ⟨H4, I4, C4, e4, st4, ec4, q1, q2⟩ => ⟨H4, I4, ?_⟩
    subst ec4
    cases k with
    | false => exact ⟨acc, q1 rfl, st4.c, st'.s.ex e4, st4.g⟩
    | true =>
      intro s5 H5 Cc5 cl5 fp5
      have st5 : StR (Z.blk s5 H5 scope cl5 Cc5 fp5 (mns H1 C1)) H4 σV2 (setC C1 Dl (.lst acc)) σ2 := ⟨st4.c, st4.s, st4.g⟩
      refine tE_mono (q2 rfl s5 H5 cl5 Cc5 fp5 σV2 H4 st5) fun y H6 ⟨dy, C6, e6, st6, r6, ec5, hz, p5⟩ => ?_
      subst ec5
      cases st6.c.ok Dl _ setC_same with
      | @lst vs0 _ g3 g4 =>
        have g5 : Reps Z.X.K (mns H6 (setC C1 Dl (.lst acc))) (vs0 ++ [y]) (acc ++ [dy]) := g4.append (.cons r6 .nil)
        obtain ⟨c7, e7⟩ := st6.put (c' := .lst (acc ++ [dy])) (o := .lst (vs0 ++ [y])) setC_same (.lst upd_same g5)
        rw [setC_setC] at c7 e7
        refine ⟨vs0, g3, by rw [g4.length]; exact hz, acc ++ [dy], p5, c7, ?_, ?_⟩
        · rw [e7]
          exact st'.s.ex (e4.trans e6)
        · rw [e7]
          exact st6.g
  · have e : i = items.length := by omega
    subst e
    refine .inl ⟨by rw [← hul]; exact walk_list.stops H' (SqL.of g1), ?_⟩
    have sub : Ex (mns H C) (mns H' (setC C1 Dl (.lst acc))) := e1.trans st'.g
    obtain ⟨c2, e2, r2⟩ := st'.c.freeze (a := Dl) (ds := acc) setC_same
    rw [delC_setC hDc] at c2 e2 r2
    exact kR _ _ ⟨_, _, sub.trans e2, ⟨c2, st'.s.ex e2, (st1.g.trans st'.g).trans e2⟩, r2, hd acc pv⟩
theorem we_lcC {tg iter elt : Expr} {ifs : List Expr} {scope : Scope} (own : List (Str × Nat)) (ws : List Nat) {Q : D → Cells → Prop} (ht : ∀ s H cl Cc fp, TgtOk (Z.X.blk s H scope (compEnvC scope cl Cc Z.X.env) fp) tg (own.map (·.2)) ws)
    (hN : Z.X.N.Nodup) (ok : BlkOk Z.X.N Z.X.env.scope scope own) (h : WIc Z tg iter σ C (LcC Z scope (own.map (·.2)) ws ifs elt σ Q)) (hc : Z.X.calm = true := by rfl) (hs : ∀ x, foldedSetIterable iter Z.X.env x = pure x := by intro _; rfl) :
    WE Z (.ListComp elt [⟨tg, iter, ifs, 0⟩] scope pos) σ C Q := fun σV H s =>
  tE_of (pe_lc (own := own) hc hN pi_self ok (g := gAll Z.X scope tg) (tt := tAll Z.X scope ifs) (te := eAll Z.X scope elt) (fun s H Cc cl fp => ⟨fun pins sh σ H v u Q I r h => h s _ Cc cl fp pins sh u I r⟩) (fun s H Cc cl fp => ⟨fun pins sh σ H Q I h => h s _ Cc cl fp pins sh I⟩) (fun s H Cc cl fp => ⟨fun pins sh σ H Q I h => h s _ Cc cl fp pins sh I⟩) hs) (lcC_run ht h s fun _ _ q => q)
theorem ws_setLcC (i : Nat) {y : Str} {py spos : Pos} {tg iter elt : Expr} {ifs : List Expr} {scope : Scope} (own : List (Str × Nat)) (ws : List Nat) (ht : ∀ s H cl Cc fp, TgtOk (Z.X.blk s H scope (compEnvC scope cl Cc Z.X.env) fp) tg (own.map (·.2)) ws)
    (hN : Z.X.N.Nodup) (ok : BlkOk Z.X.N Z.X.env.scope scope own) (h : WIc Z tg iter σ C (LcC Z scope (own.map (·.2)) ws ifs elt σ fun d C1 => N.nx (σ.set i (some d)) C1)) (hy : Z.X.N[i]? = some y := by rfl) (hyl : Z.X.env.scope.names.lookup y = some .local := by rfl)
    (hsw : swapsWith (.ListComp elt [⟨tg, iter, ifs, 0⟩] scope pos) (some (.Name y py)) spos.line Z.X.env = pure true := by exact sw_true rfl rfl rfl (by decide +kernel)) (hc : Z.X.calm = true := by rfl) (hs : ∀ x, foldedSetIterable iter Z.X.env x = pure x := by intro _; rfl) :
    WS Z (.Assign [.Name y py] (.ListComp elt [⟨tg, iter, ifs, 0⟩] scope pos) spos) σ C N := fun σV H s =>
  tS_of (ps_setLc (own := own) hc hN hy hyl hsw pi_self ok (g := gAll Z.X scope tg) (tt := tAll Z.X scope ifs) (te := eAll Z.X scope elt) (fun s H Cc cl fp => ⟨fun pins sh σ H v u Q I r h => h s _ Cc cl fp pins sh u I r⟩) (fun s H Cc cl fp => ⟨fun pins sh σ H Q I h => h s _ Cc cl fp pins sh I⟩) (fun s H Cc cl fp => ⟨fun pins sh σ H Q I h => h s _ Cc cl fp pins sh I⟩) hs)
    (lcC_run ht h s fun v H1 ⟨d, C1, e1, st1, r1, q⟩ => ⟨_, C1, ⟨st1.c, st1.s.set r1 i, st1.g⟩, q⟩)
theorem lcC_filter {scope : Scope} {vs ws : List Nat} {ifs : List Expr} {elt : Expr} {Q : D → Cells → Prop} {p : Addr} {items : List D} {α : Type} (xs : List α) (enc f : α → D) (t : α → Bool) {σ2 : α → Sl} (hi : items = xs.map enc) (hz : xs.length ≤ sizeLine) (ht : ∀ x ∈ xs, Tgt ws (enc x) (wipeD σ vs) (σ2 x))
    (hp : ∀ x ∈ xs, ∀ s H cl Cc fp G C', Cext C C' → WTs (Z.blk s H scope cl Cc fp G) ifs (σ2 x) C' fun k C4 => k = t x ∧ C4 = C')
    (h : ∀ x ∈ xs, t x = true → ∀ s H cl Cc fp G C', Cext C C' → WE (Z.blk s H scope cl Cc fp G) elt (σ2 x) C' fun y C4 => y = f x ∧ C4 = C') (q : Q (.lst ((xs.filter t).map f)) C) : LcC Z scope vs ws ifs elt σ Q p items C := by
  subst hi
  refine ⟨fun i acc => i ≤ xs.length ∧ acc = ((xs.take i).filter t).map f, ⟨Nat.zero_le _, rfl⟩, ?_, ?_⟩
  · rintro i d acc hi ⟨_, rfl⟩
    rw [List.getElem?_map] at hi
    cases ex : xs[i]? with
    | none => rw [ex] at hi; cases hi
    | some x =>
      rw [ex] at hi
      cases hi
      obtain ⟨hlt, ex2⟩ := List.getElem?_eq_some_iff.mp ex
      have hm : x ∈ xs := ex2 ▸ List.getElem_mem hlt
      refine ⟨σ2 x, ht x hm, fun s H cl Cc fp G Dl hD => ?_⟩
      refine (fun σV H0 st => ?_)
      have hw := hp x hm s H cl Cc fp G _ (Cext.set (c := .lst (((xs.take i).filter t).map f)) hD) σV H0 st
      refine fun pins sh I => thn (hw pins sh I) fun k s1 ⟨H4, I4, C4, e4, st4, ek, eC⟩ => ⟨H4, I4, C4, e4, st4, eC, ?_⟩
      subst ek eC
      refine ⟨fun hk => ⟨by omega, ?_⟩, fun hk s H cl Cc fp => ?_⟩
      · rw [List.take_succ, ex]
        simp [hk]
      · refine (h x hm hk s H cl Cc fp G _ (Cext.set hD)).mono fun y C4 ⟨ey, eC⟩ => ⟨eC, ?_, by omega, ?_⟩
        · rw [List.length_map]
          have := List.length_filter_le t (xs.take i)
          rw [List.length_take] at this
          omega
        · rw [ey, List.take_succ, ex]
          simp [hk]
  · rintro acc ⟨_, rfl⟩
    rw [List.length_map, List.take_length]
    exact q
theorem lcC_map {scope : Scope} {vs ws : List Nat} {elt : Expr} {Q : D → Cells → Prop} {p : Addr} {items : List D} {α : Type} (xs : List α) (enc f : α → D) {σ2 : α → Sl} (hi : items = xs.map enc) (hz : xs.length ≤ sizeLine) (ht : ∀ x ∈ xs, Tgt ws (enc x) (wipeD σ vs) (σ2 x))
    (h : ∀ x ∈ xs, ∀ s H cl Cc fp G C', Cext C C' → WE (Z.blk s H scope cl Cc fp G) elt (σ2 x) C' fun y C4 => y = f x ∧ C4 = C') (q : Q (.lst (xs.map f)) C) : LcC Z scope vs ws [] elt σ Q p items C :=
  lcC_filter xs enc f (fun _ => true) hi hz ht (fun x hx s H cl Cc fp G C' _ => wts_nil ⟨rfl, rfl⟩) (fun x hx _ => h x hx) (by rw [List.filter_eq_self.mpr (fun _ _ => rfl)]; exact q)
end
end DW
set_option Elab.async false
set_option linter.all false
set_option maxRecDepth 100000
set_option maxHeartbeats 2000000
namespace DW
open PySem PySem.Spec PyProof.Rows L2 Evl HT TL
theorem pre_second {a b x y : Nat} {S r : List Nat} (h : y ≠ b) : pre (a :: b :: S) (x :: y :: r) = false := by
  cases hp : pre (a :: b :: S) (x :: y :: r) with
  | false => rfl
  | true =>
    have e : (x :: y :: r).take (a :: b :: S).length = a :: b :: S := eq_of_beq hp
    rw [List.length_cons, List.length_cons, List.take_succ_cons, List.take_succ_cons] at e
    injection e with e1 e2
    injection e2 with e3 e4
    exact absurd e3 h
theorem free2 {a b : Nat} {S q p : List Nat} (hab : a ≠ b) (h : b ∉ p) (hq : ∀ y r, q = y :: r → y ≠ b) : ∀ i, i < p.length → pre (a :: b :: S) ((p ++ q).drop i) = false := fun i hi => by
  have hlt : i < (p ++ q).length := by rw [List.length_append]; omega
  rw [List.drop_eq_getElem_cons hlt]
  cases hd : (p ++ q).drop (i + 1) with
  | nil =>
    cases hp : pre (a :: b :: S) [(p ++ q)[i]] with
    | false => rfl
    | true =>
      have e : [(p ++ q)[i]].take (a :: b :: S).length = a :: b :: S := eq_of_beq hp
      have := congrArg List.length e
      simp at this
  | cons y r =>
    refine pre_second ?_
    by_cases h2 : i + 1 < p.length
    · have e1 : (p ++ q)[i + 1]? = some y := by
        have := congrArg (fun l => l[0]?) hd
        simpa using this
      rw [List.getElem?_append_left h2] at e1
      intro z
      subst z
      exact h (List.mem_of_getElem? e1)
    · have e2 : i + 1 = p.length := by omega
      rw [e2, List.drop_left] at hd
      exact hq y r hd
theorem spl_join2 {a b : Nat} {S : List Nat} (hab : a ≠ b) : ∀ {parts : List (List Nat)}, parts ≠ [] → (∀ p ∈ parts, b ∉ p) → spl (a :: b :: S) 0 [] (joinL (a :: b :: S) parts) = parts
  | [], h, _ => absurd rfl h
  | [p], _, hp => by
    show spl (a :: b :: S) 0 [] p = [p]
    have z := free2 (S := S) (q := []) hab (hp p (List.mem_singleton.mpr rfl)) (fun _ _ e => nomatch e)
    rw [List.append_nil] at z
    rw [spl_last z, List.nil_append]
  | p :: q :: r, _, hp => by
    show spl (a :: b :: S) 0 [] (p ++ (a :: b :: S ++ joinL (a :: b :: S) (q :: r))) = p :: q :: r
    have z := free2 (S := S) (q := a :: b :: S ++ joinL (a :: b :: S) (q :: r)) hab (hp p (List.mem_cons_self ..)) (fun y r e => by
      injection e with e1 e2
      rw [← e1]
      exact hab)
    rw [spl_part (by simp) z, List.nil_append, spl_join2 hab (by simp) fun z hz => hp z (List.mem_cons_of_mem _ hz)]
theorem split_join2 {y : Str} {a b : Nat} {S : List Nat} (ey : tl y = a :: b :: S) (hab : a ≠ b) (hk : y.cps.all (· < 256) = true) {parts : List Str} (hne : parts ≠ []) (hp : ∀ p ∈ parts, b ∉ tl p) :
    Txt.split (Txt.join y parts) y = parts := by
  refine map_tl_inj ?_
  rw [split_spl _ y (by rw [ey]; simp) (kind_ok hk), join_eq, tl_join, ey]
  refine spl_join2 hab (fun e => hne (List.map_eq_nil_iff.mp e)) fun p h => ?_
  obtain ⟨z, hz, rfl⟩ := List.mem_map.mp h
  exact hp z hz
theorem mem_joinL {S : List Nat} {c : Nat} : ∀ {parts : List (List Nat)}, c ∈ joinL S parts → c ∈ S ∨ ∃ p ∈ parts, c ∈ p
  | [], h => by cases h
  | [p], h => .inr ⟨p, List.mem_singleton_self p, h⟩
  | p :: q :: r, h => by
    have h : c ∈ p ++ (S ++ joinL S (q :: r)) := h
    rw [List.mem_append, List.mem_append] at h
    rcases h with h | h | h
    · exact .inr ⟨p, List.mem_cons_self, h⟩
    · exact .inl h
    · rcases mem_joinL h with h | ⟨z, hz, h⟩
      · exact .inl h
      · exact .inr ⟨z, List.mem_cons_of_mem _ hz, h⟩
theorem mem_join {y : Str} {c : Nat} {parts : List Str} (h : c ∈ tl (Txt.join y parts)) : c ∈ tl y ∨ ∃ p ∈ parts, c ∈ tl p := by
  rw [join_eq, tl_join] at h
  rcases mem_joinL h with h | ⟨z, hz, h⟩
  · exact .inl h
  · obtain ⟨p, hp, rfl⟩ := List.mem_map.mp hz
    exact .inr ⟨p, hp, h⟩
theorem joinL_len {S : List Nat} : ∀ {parts : List (List Nat)}, (joinL S parts).length ≤ (parts.map List.length).sum + parts.length * S.length
  | [] => by simp [joinL]
  | [p] => by simp [joinL]
  | p :: q :: r => by
    show (p ++ (S ++ joinL S (q :: r))).length ≤ _
    rw [List.length_append, List.length_append, List.map_cons, List.sum_cons, List.length_cons, Nat.succ_mul]
    have := joinL_len (S := S) (parts := q :: r)
    omega
theorem join_len {y : Str} {parts : List Str} : (Txt.join y parts).length ≤ (parts.map (·.length)).sum + parts.length * y.length := by
  have h1 : (Txt.join y parts).length = (tl (Txt.join y parts)).length := by simp [Str.length]
  rw [h1, join_eq, tl_join]
  refine Nat.le_trans joinL_len ?_
  rw [List.length_map, List.map_map]
  have e1 : (parts.map (List.length ∘ tl)) = parts.map (·.length) := List.map_congr_left fun p _ => by simp [Str.length]
  have e2 : (tl y).length = y.length := by simp [Str.length]
  rw [e1, e2]
  exact Nat.le_refl _
end DW
set_option Elab.async false
set_option linter.all false
set_option maxRecDepth 100000
set_option maxHeartbeats 2000000
namespace DW
open PySem PySem.Spec PyProof.Rows L2 Evl
section
variable {Z : Zx} {σ : Sl} {C : Cells} {pos np pos' p : Pos} {N : EndsD} {k : Nat} {x n : Str} {c : Value} {body suite : List Stmt} {b₀ : Stmt}
theorem ws_tryAsS (i : Nat) (B : BodyOk Z k) (hc : Names Z.X x c) (S : Addr → List (Str × D) → Sl → Cells → Prop)
    (hS : ∀ cx fs σ' C', S cx fs σ' C' → ∃ q, PySem.W.exmOne Z.X.K (.ref cx) c = some q ∧
        (q = true → ∀ (a : Addr) (oe : Obj) (pn : List (Addr × Obj)) (d : Option Addr) (G : Hp), Zc (.ref cx) d oe → (∃ vs, oe.data = .fields vs) → SuOk Z.X.K G fs d → WSs (Z.suite a oe pn G) (b₀ :: suite) (σ'.set i (some (.opq (.ref a)))) C' (goneN N i)) ∧ (q = false → Z.xw cx fs σ' C'))
    (h : ∀ pn xe, BodyOk (Z.tr pn xe S) k → WSs (Z.tr pn xe S) body σ C N)
    (hN : Z.X.N.Nodup) (hi : Z.X.N[i]? = some n := by rfl) (hln : Z.X.env.kindOf n = some .local := by rfl) (hs : Z.X.stack = Z.X.env :: Z.X.outer := by rfl) (hf : Z.X.env.frame = some Z.X.env.locals := by rfl) :
    WS Z (.Try body [.ExceptHandler (some (.Name x np)) (some n) (b₀ :: suite) pos'] [] [] pos) σ C N :=
  ws_tryAs i B hc (fun pn xe Bt => by
    intro σV H st
    have B2 : BodyOk (Z.tr pn xe S) k := ⟨Takes.imp Bt.tk fun cls d σV' H' ⟨cx, dd, fsV, fs, σ', C', e1, e2, st', h1, h2, h3, h4⟩ => ⟨cx, dd, fsV, fs, σ', C', e1, e2, st'.wish rfl rfl rfl, h1, h2, h3, hS _ _ _ _ h4⟩, Bt.po, Bt.room⟩
    exact fun pins s I => thn (h pn xe B2 σV H (st.wish rfl rfl rfl) pins s I) fun f s1 q => spV_wish q rfl rfl rfl) hN hi hln hs hf
end
end DW
set_option Elab.async false
set_option linter.all false
set_option maxRecDepth 100000
set_option maxHeartbeats 0
namespace K60
open PySem PySem.Spec PyProof.Rows L2 DW
def top (i : Nat) : Stmt := PySem.Challenge.pw_howevermixed_k60_monomials_told.main.body.getD i (.Pass ⟨0, 0, 0, 0⟩)
def sub (i j : Nat) : Stmt := (C8.clsBody (top i)).getD j (.Pass ⟨0, 0, 0, 0⟩)
abbrev s_lowest : Stmt := top 3
abbrev s_common_bottom : Stmt := top 4
abbrev s_limit_of : Stmt := top 15
abbrev s_check_text : Stmt := top 16
abbrev s_check_many : Stmt := top 17
abbrev s_check_next : Stmt := top 18
abbrev s_is_whole : Stmt := top 23
abbrev s_is_list : Stmt := top 24
abbrev s_is_pair_number : Stmt := top 25
abbrev s_is_name : Stmt := top 26
abbrev s_is_digits : Stmt := top 27
abbrev s_number_parts : Stmt := top 28
abbrev s_word_number : Stmt := top 29
abbrev s_number_at : Stmt := top 30
abbrev s_row_items : Stmt := top 33
abbrev s_whole_rows : Stmt := top 35
abbrev s_cleared_line : Stmt := top 36
abbrev s_mat_firm : Stmt := top 37
abbrev s_whole_row : Stmt := top 39
abbrev s_first_place : Stmt := top 40
abbrev s_shortened : Stmt := top 41
abbrev s_cleared : Stmt := top 42
abbrev s_with_row : Stmt := top 43
abbrev s_added : Stmt := top 44
abbrev s_kept_rows : Stmt := top 45
abbrev s_span_of : Stmt := top 46
abbrev s_reduce_rows : Stmt := top 47
abbrev s_read_row : Stmt := top 49
abbrev s_table_items : Stmt := top 50
abbrev s_row_at : Stmt := top 51
abbrev s_read_table : Stmt := top 52
abbrev s_hold : Stmt := top 62
abbrev s_many_powers : Stmt := top 63
abbrev s_powers_of : Stmt := top 64
abbrev s_ordered_powers : Stmt := top 65
abbrev s_free_unknowns : Stmt := top 67
abbrev s_hold_monomials : Stmt := top 68
abbrev s_full_monomial : Stmt := top 69
abbrev s_monomials : Stmt := top 71
abbrev s_slide_items : Stmt := top 76
abbrev s_slide_row : Stmt := top 77
abbrev s_read_slides : Stmt := top 78
abbrev s_next_direction : Stmt := top 79
abbrev s_numbers_of : Stmt := top 80
abbrev s_made_field : Stmt := top 83
abbrev s_field_of : Stmt := top 84
abbrev s_stuff_table : Stmt := top 87
abbrev s_next_stuff : Stmt := top 88
abbrev s_made_lot : Stmt := top 91
abbrev s_lot_of : Stmt := top 92
abbrev s__law_open : Stmt := top 94
abbrev s__law_draw : Stmt := top 95
abbrev s__law_gcd : Stmt := top 96
abbrev s__law_low : Stmt := top 97
abbrev s__law_flat : Stmt := top 98
abbrev s__law_names : Stmt := top 99
abbrev s__law_text : Stmt := top 100
abbrev s__law_big : Stmt := top 101
abbrev s__law_given_row : Stmt := top 102
abbrev s__law_given_table : Stmt := top 103
abbrev s__law_made_field : Stmt := top 104
abbrev s__law_made_lot : Stmt := top 105
abbrev s__law_made : Stmt := top 106
abbrev s__law_is_int : Stmt := top 107
abbrev s__law_many : Stmt := top 108
abbrev s__law_unknowns : Stmt := top 109
abbrev s__law_keys : Stmt := top 110
abbrev s__law_powers : Stmt := top 111
abbrev s__law_plain_world : Stmt := top 112
abbrev s__law_asked : Stmt := top 113
abbrev s__law_right : Stmt := top 114
abbrev s_law : Stmt := top 115
abbrev s_Field_init : Stmt := sub 74 0
abbrev s_Lot_init : Stmt := sub 86 0
abbrev s_TooMany_init : Stmt := sub 11 0
def mk (x : Str) (st : Stmt) : He.DefD := ⟨(x, none), x, x, defArgs st, defBody st, defScope st, [], []⟩
def mkm (c m : Str) (st : Stmt) (kw : List (Str × He.Dv)) : He.DefD := ⟨(c, some m), m, c ++ "." ++ m, defArgs st, defBody st, defScope st, [], kw⟩
def fn : List He.DefD := [mk "lowest" s_lowest, mk "common_bottom" s_common_bottom, mk "limit_of" s_limit_of, mk "check_text" s_check_text, mk "check_many" s_check_many, mk "check_next" s_check_next, mk "is_whole" s_is_whole, mk "is_list" s_is_list, mk "is_pair_number" s_is_pair_number, mk "is_name" s_is_name, mk "is_digits" s_is_digits, mk "number_parts" s_number_parts, mk "word_number" s_word_number, mk "number_at" s_number_at, mk "row_items" s_row_items, mk "whole_rows" s_whole_rows, mk "cleared_line" s_cleared_line, mk "mat_firm" s_mat_firm, mk "whole_row" s_whole_row, mk "first_place" s_first_place, mk "shortened" s_shortened, mk "cleared" s_cleared, mk "with_row" s_with_row, mk "added" s_added, mk "kept_rows" s_kept_rows, mk "span_of" s_span_of, mk "reduce_rows" s_reduce_rows, mk "read_row" s_read_row, mk "table_items" s_table_items, mk "row_at" s_row_at, mk "read_table" s_read_table, mk "hold" s_hold, mk "many_powers" s_many_powers, mk "powers_of" s_powers_of, mk "ordered_powers" s_ordered_powers, mk "free_unknowns" s_free_unknowns, mk "hold_monomials" s_hold_monomials, mk "full_monomial" s_full_monomial, mk "monomials" s_monomials, mk "slide_items" s_slide_items, mk "slide_row" s_slide_row, mk "read_slides" s_read_slides, mk "next_direction" s_next_direction, mk "numbers_of" s_numbers_of, mk "made_field" s_made_field, mk "field_of" s_field_of, mk "stuff_table" s_stuff_table, mk "next_stuff" s_next_stuff, mk "made_lot" s_made_lot, mk "lot_of" s_lot_of, mk "_law_open" s__law_open, mk "_law_draw" s__law_draw, mk "_law_gcd" s__law_gcd, mk "_law_low" s__law_low, mk "_law_flat" s__law_flat, mk "_law_names" s__law_names, mk "_law_text" s__law_text, mk "_law_big" s__law_big, mk "_law_given_row" s__law_given_row, mk "_law_given_table" s__law_given_table, mk "_law_made_field" s__law_made_field, mk "_law_made_lot" s__law_made_lot, mk "_law_made" s__law_made, mk "_law_is_int" s__law_is_int, mk "_law_many" s__law_many, mk "_law_unknowns" s__law_unknowns, mk "_law_keys" s__law_keys, mk "_law_powers" s__law_powers, mk "_law_plain_world" s__law_plain_world, mk "_law_asked" s__law_asked, mk "_law_right" s__law_right, mk "law" s_law, mkm "Field" "__init__" s_Field_init [("made", .non)], mkm "Lot" "__init__" s_Lot_init [("made", .non)], mkm "TooMany" "__init__" s_TooMany_init []]
def fa : List He.Fa := [.glo "lowest", .glo "common_bottom", .glo "limit_of", .glo "check_text", .glo "check_many", .glo "check_next", .glo "is_whole", .glo "is_list", .glo "is_pair_number", .glo "is_name", .glo "is_digits", .glo "number_parts", .glo "word_number", .glo "number_at", .glo "row_items", .glo "whole_rows", .glo "cleared_line", .glo "mat_firm", .glo "whole_row", .glo "first_place", .glo "shortened", .glo "cleared", .glo "with_row", .glo "added", .glo "kept_rows", .glo "span_of", .glo "reduce_rows", .glo "read_row", .glo "table_items", .glo "row_at", .glo "read_table", .glo "hold", .glo "many_powers", .glo "powers_of", .glo "ordered_powers", .glo "free_unknowns", .glo "hold_monomials", .glo "full_monomial", .glo "monomials", .glo "slide_items", .glo "slide_row", .glo "read_slides", .glo "next_direction", .glo "numbers_of", .glo "made_field", .glo "field_of", .glo "stuff_table", .glo "next_stuff", .glo "made_lot", .glo "lot_of", .glo "_law_open", .glo "_law_draw", .glo "_law_gcd", .glo "_law_low", .glo "_law_flat", .glo "_law_names", .glo "_law_text", .glo "_law_big", .glo "_law_given_row", .glo "_law_given_table", .glo "_law_made_field", .glo "_law_made_lot", .glo "_law_made", .glo "_law_is_int", .glo "_law_many", .glo "_law_unknowns", .glo "_law_keys", .glo "_law_powers", .glo "_law_plain_world", .glo "_law_asked", .glo "_law_right", .glo "law", .free "LookupError", .free "RuntimeError", .free "ValueError", .free "abs", .free "all", .free "bool", .free "enumerate", .free "int", .free "isinstance", .free "len", .free "list", .free "max", .free "range", .free "reversed", .free "sorted", .free "str", .free "tuple", .free "zip", .str "DIGITS" "0123456789", .str "LETTERS" "abcdefghijklmnopqrstuvwxyz", .int "NAME_LENGTH" 12, .str "NO_SLIDES" "-", .glo "Field", .glo "Lot", .glo "TooMany", .glo "LIMITS", .cls "Field", .cls "Lot", .mkr "Field", .mkr "Lot", .noat "Field" "parts", .noat "Field" "numbers", .noat "Field" "directions", .noat "Field" "lead", .noat "Lot" "field", .noat "Lot" "parts", .noat "Lot" "stuffs", .noat "Lot" "base", .noat "TooMany" "what", .noat "TooMany" "count", .exm "TooMany" "TooMany" true]
def ts : List He.Tab := [(fun K => He.ga K "LIMITS", ["text", "digits", "numbers", "directions", "slides", "stuffs", "parts", "lines", "levels", "leaves", "terms", "degree", "dimension", "monomials", "grid", "deeds"])]
def tf : List He.Defn := [("with_row", none)]
def ex (K : PySem.W.Frag) : Bool := bltB K "gcd" "math.gcd" && bltB K "lcm" "math.lcm" && bltB K "comb" "math.comb" && He.valsB K (He.ga K "LIMITS") [("text", .int 60000), ("digits", .int 200), ("numbers", .int 4), ("directions", .int 8), ("slides", .int 8), ("stuffs", .int 6), ("parts", .int 12), ("lines", .int 60), ("levels", .int 8), ("leaves", .int 300), ("terms", .int 200), ("degree", .int 4), ("dimension", .int 12), ("monomials", .int 150), ("grid", .int 1000), ("deeds", .int 60)] && oexB K (He.ga K "TooMany") && initB K (He.ga K "TooMany") (He.ma K (He.ga K "TooMany") "__init__") && xfB K (He.ga K "TooMany") && ecB K (He.ga K "TooMany") && kitB2 K "TooMany" "ValueError" true && kitB2 K "TooMany" "LookupError" false && kitB2 K "TooMany" "RuntimeError" false
abbrev R : PySem.W.OpenRow := PySem.W.OpenLaw.row PySem.Challenge.rw_howevermixed_k60_monomials_told
def xs : List Str := (["Field", "LIMITS", "Lot", "TooMany", "_law_asked", "_law_big", "_law_draw", "_law_flat", "_law_gcd", "_law_given_row", "_law_given_table", "_law_is_int", "_law_keys", "_law_low", "_law_made", "_law_made_field", "_law_made_lot", "_law_many", "_law_names", "_law_open", "_law_plain_world", "_law_powers", "_law_right", "_law_text", "_law_unknowns", "added", "check_many", "check_next", "check_text", "cleared", "cleared_line", "common_bottom", "field_of", "first_place", "free_unknowns", "full_monomial", "hold", "hold_monomials", "is_digits", "is_list", "is_name", "is_pair_number", "is_whole", "kept_rows", "law", "limit_of", "lot_of", "lowest", "made_field", "made_lot", "many_powers", "mat_firm", "monomials", "next_direction", "next_stuff", "number_at", "number_parts", "numbers_of", "ordered_powers", "powers_of", "read_row", "read_slides", "read_table", "reduce_rows", "row_at", "row_items", "shortened", "slide_items", "slide_row", "span_of", "stuff_table", "table_items", "whole_row", "whole_rows", "with_row", "word_number"] : List String).map Str.ofString
abbrev hk : PySem.W.Hook := DW.hookY xs fa fn ts tf ex
def ob (s : PySem.W.SharedT) : He.AlX := DW.obsY xs fa fn ts tf ex (HandSHeadRun.getT s)
theorem ob_eq (s : PySem.W.SharedT) : ob s = hk.obs s.abs := DW.obsY_eq (HandSHeadRun.getT_eq s)
def loose : List Str := (["BadField", "BadLot", "BadNumber", "BadTable", "DIGITS", "Field", "LETTERS", "LIMITS", "Lines", "Lot", "NAME_LENGTH", "NO_SLIDES", "NoSuch", "NotFirm", "TooMany", "__name__", "_law_asked", "_law_big", "_law_draw", "_law_flat", "_law_gcd", "_law_given_row", "_law_given_table", "_law_is_int", "_law_keys", "_law_low", "_law_made", "_law_made_field", "_law_made_lot", "_law_many", "_law_names", "_law_open", "_law_plain_world", "_law_powers", "_law_right", "_law_text", "_law_unknowns", "_wall", "added", "after", "check_many", "check_next", "check_text", "chosen", "cleared", "cleared_line", "common_bottom", "cut", "direction_words", "field_of", "first_place", "free_unknowns", "full_monomial", "hold", "hold_monomials", "is_digits", "is_list", "is_name", "is_pair_number", "is_whole", "kept_rows", "limit_of", "lot_of", "lowest", "made_field", "made_lot", "many_powers", "mat_firm", "monomials", "next_direction", "next_stuff", "number_at", "number_parts", "numbers_of", "numbers_text", "ordered_powers", "pair_text", "plain_count", "powers_of", "read_field", "read_lot", "read_row", "read_slides", "read_table", "reduce_rows", "row_at", "row_items", "rows_text", "shortened", "slide_items", "slide_row", "slides_text", "span_of", "stuff_table", "stuff_words", "table_items", "whole_row", "whole_rows", "with_row", "word_number"] : List String).map Str.ofString
theorem run_true (w : World) : HandSHeadRun.RunEqI R (PySem.W.view R.prog [0, 115]) hk ob 6000 loose (w.withFollow "special-get-raises" true) := by
  unfold HandSHeadRun.RunEqI
  kernel_rfl
theorem run_false (w : World) : HandSHeadRun.RunEqI R (PySem.W.view R.prog [0, 115]) hk ob 6000 loose (w.withFollow "special-get-raises" false) := by
  unfold HandSHeadRun.RunEqI
  kernel_rfl
theorem run (w : World) : HandSHeadRun.RunEqI R (PySem.W.view R.prog [0, 115]) hk ob 6000 loose w := by
  have h : HandSHeadRun.RunEqI R (PySem.W.view R.prog [0, 115]) hk ob 6000 loose (w.withFollow "special-get-raises" (w.params.followText "special-get-raises")) := by
    cases w.params.followText "special-get-raises" with
    | true => exact run_true w
    | false => exact run_false w
  rwa [World.withFollow_self] at h
end K60
set_option Elab.async false
set_option linter.all false
set_option maxRecDepth 100000
set_option maxHeartbeats 4000000
namespace K60
open PySem PySem.Spec PyProof.Rows L2 Evl DW
local macro_rules | `(tactic| walk_at "seq") => `(tactic| first | exact .l (.v _) | exact .t _ | exact .r _ | exact .l (.c setC_same) | exact .l (.c (by assumption)))
local macro_rules | `(tactic| walk_at "lin") => `(tactic| first | exact .v _ | exact .c setC_same | exact .c (by assumption))
local macro_rules | `(tactic| walk_at "size") => `(tactic| first | (refine sz ?_; first | omega | (simp only [List.length_map, List.length_range, List.length_append, List.length_cons, List.length_nil, List.length_replicate] at *; omega)) | decide)
local macro_rules | `(tactic| walk_at "mulok") => `(tactic| first | exact mulR (by decide) (by decide) | exact mulL (by decide) (by decide) | assumption | exact mulL (by omega) (by omega) | exact mulR (by omega) (by omega))
local macro_rules | `(tactic| walk_at "op") => `(tactic| first
  | refine ⟨_, .add _ _, ?_⟩
  | refine ⟨_, .sub _ _, ?_⟩
  | refine ⟨_, .mul _ _ (by walk_at "mulok"), ?_⟩
  | refine ⟨_, .mod _ _ (by first | decide | omega | assumption), ?_⟩
  | refine ⟨_, .div _ _ (by first | decide | omega | assumption) (by first | decide | assumption), ?_⟩
  | refine ⟨_, .pow _ _ (by decide), ?_⟩
  | refine ⟨_, .adds _ _ (by walk_at "size"), ?_⟩
  | refine ⟨_, .catT _ _ (by walk_at "size"), ?_⟩
  | refine ⟨_, .cat (by walk_at "lin") (by walk_at "lin") (by walk_at "size"), ?_⟩
  | refine ⟨_, .rep _ (by walk_at "lin") (by first | decide | omega) (by first | decide | omega) (by walk_at "size"), ?_⟩)
local macro_rules | `(tactic| walk_at "cmp") => `(tactic| first
  | refine ⟨_, .lt _ _, ?_⟩ | refine ⟨_, .le _ _, ?_⟩ | refine ⟨_, .gt _ _, ?_⟩ | refine ⟨_, .ge _ _, ?_⟩
  | refine ⟨_, .eqI _ _, ?_⟩ | refine ⟨_, .neI _ _, ?_⟩ | refine ⟨_, .eqS _ _, ?_⟩ | refine ⟨_, .neS _ _, ?_⟩ | refine ⟨_, .eqB _ _, ?_⟩ | refine ⟨_, .neB _ _, ?_⟩
  | refine ⟨_, .isN, ?_⟩ | refine ⟨_, .ntN, ?_⟩ | refine ⟨_, .isC, ?_⟩ | refine ⟨_, .ntC, ?_⟩ | refine ⟨_, .isNo trivial, ?_⟩ | refine ⟨_, .ntNo trivial, ?_⟩)
local macro_rules | `(tactic| walk_at "ix") => `(tactic| first | refine ⟨_, .seq (by walk_at "seq") rfl, ?_⟩)
local macro_rules | `(tactic| walk_at "slc") => `(tactic| first | refine ⟨_, .lst _ _ (by walk_at "lin"), ?_⟩ | refine ⟨_, .tup _ _ _, ?_⟩ | refine ⟨_, .rol _ _ _, ?_⟩ | refine ⟨_, .str _ _ _ (by walk_at "size"), ?_⟩)
local macro_rules | `(tactic| walk_at "blt") => `(tactic| first
  | refine ⟨_, .len (by walk_at "seq"), ?_⟩ | refine ⟨_, .lenS _ (by walk_at "size"), ?_⟩ | refine ⟨_, .abs _, ?_⟩ | refine ⟨_, .max2 _ _ rfl, ?_⟩ | refine ⟨_, .min2 _ _ rfl, ?_⟩
  | refine ⟨_, .int _, ?_⟩ | refine ⟨_, .intB _, ?_⟩ | refine ⟨_, .bool _, ?_⟩ | refine ⟨_, .boolI _, ?_⟩
  | refine ⟨_, .sum _ (by walk_at "lin") rfl, ?_⟩ | refine ⟨_, .all _ (by walk_at "lin") rfl, ?_⟩ | refine ⟨_, .any _ (by walk_at "lin") rfl, ?_⟩
  | refine ⟨_, .list (by walk_at "seq"), ?_⟩ | refine ⟨_, .tuple (by walk_at "lin"), ?_⟩ | refine ⟨_, .tupleT _, ?_⟩)
local macro_rules | `(tactic| walk_at "sub") => `(tactic| (refine ⟨_, _, _, _, rfl, rfl, (by first | exact setC_same | assumption), rfl, ?_⟩; try rw [setC_setC]))
local macro_rules | `(tactic| walk_at "fun") => `(tactic| first | refine ⟨_, .gcd _ _, ?_⟩ | refine ⟨_, .lcm _ _ (by assumption) (by assumption), ?_⟩ | refine ⟨_, .lcm _ _ (by omega) (by omega), ?_⟩ | refine ⟨_, .comb _ _ (by omega) (by omega) (by omega) (by omega), ?_⟩)
local macro_rules | `(tactic| walk_at "sizelt") => `(tactic| first | (refine szlt ?_; first | omega | (simp only [List.length_map, List.length_range, List.length_append, List.length_cons, List.length_nil, List.length_replicate] at *; omega)) | decide)
local macro_rules | `(tactic| walk_at "meth") => `(tactic| first | refine ⟨_, .startswith _ _, ?_⟩ | refine ⟨_, .strip _ _ (by walk_at "size"), ?_⟩ | refine ⟨_, .partition _ _ rfl (by walk_at "size"), ?_⟩ | refine ⟨_, .split _ _ rfl (by walk_at "size"), ?_⟩)
local macro_rules | `(tactic| walk_at "tsz") => `(tactic| first | decide | exact sz (by simp))
local macro_rules | `(tactic| walk_at "jsz") => `(tactic| first | decide | walk_at "size" | (refine sz ?_; simp; omega))
local macro_rules | `(tactic| walk_at "log") => `(tactic| first | assumption | omega)
def limits : List (Str × Int) := [("text", 60000), ("digits", 200), ("numbers", 4), ("directions", 8), ("slides", 8), ("stuffs", 6), ("degree", 4), ("monomials", 150)]
structure Txt (K : PySem.W.Frag) (w : World) (mg : Str → Option Value) : Prop where
  LookupError : mg "LookupError" = none
  RuntimeError : mg "RuntimeError" = none
  ValueError : mg "ValueError" = none
  abs : mg "abs" = none
  all : mg "all" = none
  bool : mg "bool" = none
  enumerate : mg "enumerate" = none
  int : mg "int" = none
  isinstance : mg "isinstance" = none
  len : mg "len" = none
  list : mg "list" = none
  max : mg "max" = none
  range : mg "range" = none
  reversed : mg "reversed" = none
  sorted : mg "sorted" = none
  str : mg "str" = none
  tuple : mg "tuple" = none
  zip : mg "zip" = none
  gcd : mg "gcd" = some (.builtin "math.gcd")
  lcm : mg "lcm" = some (.builtin "math.lcm")
  comb : mg "comb" = some (.builtin "math.comb")
  DIGITS : ∃ t, mg "DIGITS" = some (.str "0123456789" t)
  LETTERS : ∃ t, mg "LETTERS" = some (.str "abcdefghijklmnopqrstuvwxyz" t)
  NO_SLIDES : ∃ t, mg "NO_SLIDES" = some (.str "-" t)
  NAME_LENGTH : ∃ t, mg "NAME_LENGTH" = some (.int 12 t)
  LIMITS : mg "LIMITS" = some (.ref (He.ga K "LIMITS"))
  limD : ∃ es n, KDict K w (He.ga K "LIMITS") es n
  lim : ∀ k v, limits.lookup k = some v → KDct K w (He.ga K "LIMITS") k (.int v)
  lin : ∀ k v, limits.lookup k = some v → ∃ u, PySem.W.nsIn K (He.ga K "LIMITS") k = some (some u)
  TooMany : mg "TooMany" = some (.ref (He.ga K "TooMany"))
  Field : mg "Field" = some (.ref (He.ga K "Field"))
  Lot : mg "Lot" = some (.ref (He.ga K "Lot"))
  c_Field : Cls K (He.ga K "Field")
  c_Lot : Cls K (He.ga K "Lot")
  n_Field : ∀ f, f = "parts" ∨ f = "numbers" ∨ f = "directions" ∨ f = "lead" → NoAttr K (He.ga K "Field") f
  n_Lot : ∀ f, f = "field" ∨ f = "parts" ∨ f = "stuffs" ∨ f = "base" → NoAttr K (He.ga K "Lot") f
abbrev FnP (K : PySem.W.Frag) (x : Str) (st : Stmt) (f : Addr) (fd : FuncData) : Prop := FunD K x x (defArgs st) (defBody st) (defScope st) [] [] f fd
end K60
set_option Elab.async false
set_option linter.all false
set_option maxRecDepth 100000
set_option maxHeartbeats 4000000
namespace K60
open PySem PySem.Spec PyProof.Rows L2 Evl DW
local macro_rules | `(tactic| walk_at "seq") => `(tactic| first | exact .l (.v _) | exact .t _ | exact .r _ | exact .l (.c setC_same) | exact .l (.c (by assumption)))
local macro_rules | `(tactic| walk_at "lin") => `(tactic| first | exact .v _ | exact .c setC_same | exact .c (by assumption))
local macro_rules | `(tactic| walk_at "size") => `(tactic| first | (refine sz ?_; first | omega | (simp only [List.length_map, List.length_range, List.length_append, List.length_cons, List.length_nil, List.length_replicate] at *; omega)) | decide)
local macro_rules | `(tactic| walk_at "mulok") => `(tactic| first | exact mulR (by decide) (by decide) | exact mulL (by decide) (by decide) | assumption | exact mulL (by omega) (by omega) | exact mulR (by omega) (by omega))
local macro_rules | `(tactic| walk_at "op") => `(tactic| first
  | refine ⟨_, .add _ _, ?_⟩
  | refine ⟨_, .sub _ _, ?_⟩
  | refine ⟨_, .mul _ _ (by walk_at "mulok"), ?_⟩
  | refine ⟨_, .mod _ _ (by first | decide | omega | assumption), ?_⟩
  | refine ⟨_, .div _ _ (by first | decide | omega | assumption) (by first | decide | assumption), ?_⟩
  | refine ⟨_, .pow _ _ (by decide), ?_⟩
  | refine ⟨_, .adds _ _ (by walk_at "size"), ?_⟩
  | refine ⟨_, .catT _ _ (by walk_at "size"), ?_⟩
  | refine ⟨_, .cat (by walk_at "lin") (by walk_at "lin") (by walk_at "size"), ?_⟩
  | refine ⟨_, .rep _ (by walk_at "lin") (by first | decide | omega) (by first | decide | omega) (by walk_at "size"), ?_⟩)
local macro_rules | `(tactic| walk_at "cmp") => `(tactic| first
  | refine ⟨_, .lt _ _, ?_⟩ | refine ⟨_, .le _ _, ?_⟩ | refine ⟨_, .gt _ _, ?_⟩ | refine ⟨_, .ge _ _, ?_⟩
  | refine ⟨_, .eqI _ _, ?_⟩ | refine ⟨_, .neI _ _, ?_⟩ | refine ⟨_, .eqS _ _, ?_⟩ | refine ⟨_, .neS _ _, ?_⟩ | refine ⟨_, .eqB _ _, ?_⟩ | refine ⟨_, .neB _ _, ?_⟩
  | refine ⟨_, .isN, ?_⟩ | refine ⟨_, .ntN, ?_⟩ | refine ⟨_, .isC, ?_⟩ | refine ⟨_, .ntC, ?_⟩ | refine ⟨_, .isNo trivial, ?_⟩ | refine ⟨_, .ntNo trivial, ?_⟩)
local macro_rules | `(tactic| walk_at "ix") => `(tactic| first | refine ⟨_, .seq (by walk_at "seq") rfl, ?_⟩)
local macro_rules | `(tactic| walk_at "slc") => `(tactic| first | refine ⟨_, .lst _ _ (by walk_at "lin"), ?_⟩ | refine ⟨_, .tup _ _ _, ?_⟩ | refine ⟨_, .rol _ _ _, ?_⟩ | refine ⟨_, .str _ _ _ (by walk_at "size"), ?_⟩)
local macro_rules | `(tactic| walk_at "blt") => `(tactic| first
  | refine ⟨_, .len (by walk_at "seq"), ?_⟩ | refine ⟨_, .lenS _ (by walk_at "size"), ?_⟩ | refine ⟨_, .abs _, ?_⟩ | refine ⟨_, .max2 _ _ rfl, ?_⟩ | refine ⟨_, .min2 _ _ rfl, ?_⟩
  | refine ⟨_, .int _, ?_⟩ | refine ⟨_, .intB _, ?_⟩ | refine ⟨_, .bool _, ?_⟩ | refine ⟨_, .boolI _, ?_⟩
  | refine ⟨_, .sum _ (by walk_at "lin") rfl, ?_⟩ | refine ⟨_, .all _ (by walk_at "lin") rfl, ?_⟩ | refine ⟨_, .any _ (by walk_at "lin") rfl, ?_⟩
  | refine ⟨_, .list (by walk_at "seq"), ?_⟩ | refine ⟨_, .tuple (by walk_at "lin"), ?_⟩ | refine ⟨_, .tupleT _, ?_⟩)
local macro_rules | `(tactic| walk_at "sub") => `(tactic| (refine ⟨_, _, _, _, rfl, rfl, (by first | exact setC_same | assumption), rfl, ?_⟩; try rw [setC_setC]))
local macro_rules | `(tactic| walk_at "fun") => `(tactic| first | refine ⟨_, .gcd _ _, ?_⟩ | refine ⟨_, .lcm _ _ (by assumption) (by assumption), ?_⟩ | refine ⟨_, .lcm _ _ (by omega) (by omega), ?_⟩ | refine ⟨_, .comb _ _ (by omega) (by omega) (by omega) (by omega), ?_⟩)
local macro_rules | `(tactic| walk_at "sizelt") => `(tactic| first | (refine szlt ?_; first | omega | (simp only [List.length_map, List.length_range, List.length_append, List.length_cons, List.length_nil, List.length_replicate] at *; omega)) | decide)
local macro_rules | `(tactic| walk_at "meth") => `(tactic| first | refine ⟨_, .startswith _ _, ?_⟩ | refine ⟨_, .strip _ _ (by walk_at "size"), ?_⟩ | refine ⟨_, .partition _ _ rfl (by walk_at "size"), ?_⟩ | refine ⟨_, .split _ _ rfl (by walk_at "size"), ?_⟩)
local macro_rules | `(tactic| walk_at "tsz") => `(tactic| first | decide | exact sz (by simp))
local macro_rules | `(tactic| walk_at "jsz") => `(tactic| first | decide | walk_at "size" | (refine sz ?_; simp; omega))
local macro_rules | `(tactic| walk_at "log") => `(tactic| first | assumption | omega)
def lowP (top bottom : Int) : Int × Int := if bottom < 0 then ((-top) / ((Nat.gcd top.natAbs bottom.natAbs : Nat) : Int), (-bottom) / ((Nat.gcd top.natAbs bottom.natAbs : Nat) : Int)) else (top / ((Nat.gcd top.natAbs bottom.natAbs : Nat) : Int), bottom / ((Nat.gcd top.natAbs bottom.natAbs : Nat) : Int))
def pD (p : Int × Int) : D := .tup [.int p.1, .int p.2]
def Bd (k : Nat) (x : Int) : Prop := x.natAbs < 2 ^ k
theorem Bd.mono {j k : Nat} {x : Int} (h : Bd j x) (hk : j ≤ k) : Bd k x := Nat.lt_of_lt_of_le h (Nat.pow_le_pow_right (by decide) hk)
theorem Bd.mul {j k : Nat} {x y : Int} (h : Bd j x) (h' : Bd k y) : Bd (j + k) (x * y) := by
  unfold Bd at *
  rw [Int.natAbs_mul, Nat.pow_add]
  exact Nat.mul_lt_mul'' h h'
theorem Bd.sub {k : Nat} {x y : Int} (h : Bd k x) (h' : Bd k y) : Bd (k + 1) (x - y) := by
  unfold Bd at *
  rw [Nat.pow_succ]
  omega
theorem Bd.neg {k : Nat} {x : Int} (h : Bd k x) : Bd k (-x) := by
  unfold Bd at *
  omega
theorem Bd.fdiv {k : Nat} {x y : Int} (h : Bd k x) : Bd k (x.fdiv y) := by
  unfold Bd at *
  have : (x.fdiv y).natAbs ≤ x.natAbs := by
    exact Int.natAbs_fdiv_le_natAbs x y
  omega
theorem Bd.mulOk {j k : Nat} {x y : Int} (h : Bd j x) (h' : Bd k y) (hj : j ≤ 1000000 := by decide) (hk : k ≤ 1000000 := by decide) : IntMulOk x y := IntMulOk.of_bits (Nat.le_trans (Nat.le_trans (PyProof.Rows.intBits_le h) hj) (Nat.le_of_ble_eq_true (by rfl))) (Nat.le_trans (Nat.le_trans (PyProof.Rows.intBits_le h') hk) (Nat.le_of_ble_eq_true (by rfl)))
theorem Bd.log {k : Nat} {x : Int} (h : Bd k x) (hk : k ≤ 9000) : x.natAbs.log2 < 9000 := by
  by_cases h0 : x.natAbs = 0
  · rw [h0]
    exact Nat.le_of_ble_eq_true (by rfl)
  · exact (Nat.log2_lt h0).mpr (Nat.lt_of_lt_of_le h (Nat.pow_le_pow_right (by decide) hk))
theorem bd64 {x : Int} (h : x.natAbs < 18446744073709551616) {k : Nat} (hk : 64 ≤ k := by decide) : Bd k x := Bd.mono (show Bd 64 x from h) hk
theorem gcd_ok {a b : Int} (h : b ≠ 0) (hb : Bd 4000 b) : (0 : Int) < ((Nat.gcd a.natAbs b.natAbs : Nat) : Int) ∧ (((Nat.gcd a.natAbs b.natAbs : Nat) : Int)).natAbs.log2 < 9000 := by
  have h1 : 0 < Nat.gcd a.natAbs b.natAbs := Nat.gcd_pos_of_pos_right _ (Int.natAbs_pos.mpr h)
  have h2 : Nat.gcd a.natAbs b.natAbs ≤ b.natAbs := Nat.gcd_le_right _ (Int.natAbs_pos.mpr h)
  refine ⟨by omega, ?_⟩
  refine Bd.log (k := 4000) ?_ (by decide)
  unfold Bd at *
  rw [Int.natAbs_natCast]
  omega
def cb1 (u b : Int) : Int := if u % b = 0 then u else ((Nat.lcm u.natAbs b.natAbs : Nat) : Int)
def cbP (ps : List (Int × Int)) (u : Int := 1) : Int := ps.foldl (fun u p => cb1 u p.2) u
def Den (d : Int) : Prop := d = 1 ∨ d = 2 ∨ d = 3
def Den6 (d : Int) : Prop := d = 1 ∨ d = 2 ∨ d = 3 ∨ d = 6
theorem Den.pos {d : Int} (h : Den d) : 0 < d ∧ d ≤ 3 := by
  rcases h with rfl | rfl | rfl <;> decide
theorem Den6.pos {d : Int} (h : Den6 d) : 0 < d ∧ d ≤ 6 := by
  rcases h with rfl | rfl | rfl | rfl <;> decide
theorem cb1_den {u b : Int} (hu : Den6 u) (hp : Den b) : Den6 (cb1 u b) := by
  rcases hu with rfl | rfl | rfl | rfl <;> rcases hp with rfl | rfl | rfl <;> (first | exact .inl (by decide) | exact .inr (.inl (by decide)) | exact .inr (.inr (.inl (by decide))) | exact .inr (.inr (.inr (by decide))))
theorem cbP_den : ∀ (ps : List (Int × Int)) (u : Int), Den6 u → (∀ p ∈ ps, Den p.2) → Den6 (cbP ps u)
  | [], _, hu, _ => hu
  | p :: ps, u, hu, h => cbP_den ps (cb1 u p.2) (cb1_den hu (h p List.mem_cons_self)) fun q hq => h q (List.mem_cons_of_mem _ hq)
theorem cb1_dvd {u b m : Int} (hu : 0 < u ∧ u ∣ m) (hb : 0 < b ∧ b ∣ m) : 0 < cb1 u b ∧ cb1 u b ∣ m := by
  unfold cb1
  split
  · exact hu
  · refine ⟨?_, ?_⟩
    · have : 0 < Nat.lcm u.natAbs b.natAbs := Nat.lcm_pos (by omega) (by omega)
      omega
    · exact Int.ofNat_dvd_left.mpr (Nat.lcm_dvd (Int.natAbs_dvd_natAbs.mpr hu.2) (Int.natAbs_dvd_natAbs.mpr hb.2))
theorem cbP_dvd : ∀ (ps : List (Int × Int)) (u m : Int), 0 < u ∧ u ∣ m → (∀ p ∈ ps, 0 < p.2 ∧ p.2 ∣ m) → 0 < cbP ps u ∧ cbP ps u ∣ m
  | [], _, _, hu, _ => hu
  | p :: ps, u, m, hu, h => cbP_dvd ps (cb1 u p.2) m (cb1_dvd hu (h p List.mem_cons_self)) fun q hq => h q (List.mem_cons_of_mem _ hq)
theorem Den.dvd6 {d : Int} (h : Den d) : 0 < d ∧ d ∣ 6 := by
  rcases h with rfl | rfl | rfl <;> exact ⟨by decide, by decide⟩
theorem dvd_bd {k : Nat} {a m : Int} (hm : 0 < m) (h : a ∣ m) (hb : Bd k m) : Bd k a := by
  unfold Bd at *
  have h1 : a.natAbs ≤ m.natAbs := Nat.le_of_dvd (by omega) (Int.natAbs_dvd_natAbs.mpr h)
  omega
theorem cbP_snoc (ps : List (Int × Int)) (p : Int × Int) (u : Int) : cbP (ps ++ [p]) u = cb1 (cbP ps u) p.2 := by
  unfold cbP
  rw [List.foldl_append]
  rfl
theorem sc_lowest : FnScope ["top", "bottom", "common"] ["top", "bottom"] (defScope s_lowest) := ⟨rfl, rfl, rfl, by decide +kernel, rfl, by decide +kernel, by decide +kernel⟩
def sp_lowest : PreD := fun ds C R RX => ∃ a b : Int, ds = [.int a, .int b] ∧ b ≠ 0 ∧ Bd 4000 b ∧ R (pD (lowP a b)) C
theorem ok_lowest {P : Program} {w : World} {K : PySem.W.Frag} {tt : List (Addr × Str)} {mg : Str → Option Value} {base : Heap} {f : Addr} {fd : FuncData} (F : FnP K "lowest" s_lowest f fd) (T : Txt K w mg) : FnOk P w K mg base (L2.CX P w) 1 f fd ["top", "bottom"] (SpD K tt sp_lowest) := by
  refine body_ok F sc_lowest (fun ds C R RX hp => by (obtain ⟨a, b, rfl, h0, hz, q⟩ := hp; rfl)) fun cdv A outer s H E G0 ds C R RX B hp => ?_
  obtain ⟨a, b, rfl, h0, hz, q⟩ := hp
  have hg := gcd_ok (a := a) h0 hz
  refine wss_cons (ws_set 2 ?_ sc_lowest.nd)
  refine we_fun T.gcd (wa_cons (we_name 0 rfl (wa_cons (we_name 1 rfl (wa_nil ?_)))))
  walk_at "fun"
  refine wss_cons (ws_if (wt_cmp (we_name 1 rfl (we_int ?_))))
  walk_at "cmp"
  refine ⟨fun hif1 => ?_, fun hif1 => ?_⟩
  · try replace hif1 := of_decide_eq_true hif1
    refine wss_cons (ws_ret (we_tup (wa_cons (we_bin (we_neg (we_name 0 rfl ?_))))))
    refine ⟨_, rfl, ?_⟩
    refine we_name 2 rfl ?_
    refine ⟨_, .div _ _ hg.1 hg.2, ?_⟩
    refine wa_cons (we_bin (we_neg (we_name 1 rfl ?_)))
    refine ⟨_, rfl, ?_⟩
    refine we_name 2 rfl ?_
    refine ⟨_, .div _ _ hg.1 hg.2, ?_⟩
    refine wa_nil ?_
    refine ⟨by walk_at "tsz", ?_⟩
    unfold lowP pD at q
    rw [if_pos hif1] at q
    exact q
  try replace hif1 := of_decide_eq_false hif1
  refine wss_nil ?_
  refine wss_cons (ws_ret (we_tup (wa_cons (we_bin (we_name 0 rfl (we_name 2 rfl ?_))))))
  refine ⟨_, .div _ _ hg.1 hg.2, ?_⟩
  refine wa_cons (we_bin (we_name 1 rfl (we_name 2 rfl ?_)))
  refine ⟨_, .div _ _ hg.1 hg.2, ?_⟩
  refine wa_nil ?_
  refine ⟨by walk_at "tsz", ?_⟩
  unfold lowP pD at q
  rw [if_neg hif1] at q
  exact q
theorem sc_common_bottom : FnScope ["numbers", "under", "top", "bottom"] ["numbers"] (defScope s_common_bottom) := ⟨rfl, rfl, rfl, by decide +kernel, rfl, by decide +kernel, by decide +kernel⟩
def sp_common_bottom : PreD := fun ds C R RX => ∃ (x : D) (ps : List (Int × Int)) (m : Int), ds = [x] ∧ (x = .tup (ps.map pD) ∨ x = .lst (ps.map pD)) ∧ 0 < m ∧ Bd 60 m ∧ (∀ p ∈ ps, 0 < p.2 ∧ p.2 ∣ m) ∧ R (.int (cbP ps)) C
theorem ok_common_bottom {P : Program} {w : World} {K : PySem.W.Frag} {tt : List (Addr × Str)} {mg : Str → Option Value} {base : Heap} {f : Addr} {fd : FuncData} (F : FnP K "common_bottom" s_common_bottom f fd) (T : Txt K w mg) : FnOk P w K mg base (L2.CX P w) 1 f fd ["numbers"] (SpD K tt sp_common_bottom) := by
  refine body_ok F sc_common_bottom (fun ds C R RX hp => by (obtain ⟨x, ps, m, rfl, hx, hm, hb, hd, q⟩ := hp; rfl)) fun cdv A outer s H E G0 ds C R RX B hp => ?_
  obtain ⟨x, ps, m, rfl, hx, hm, hb, hd, q⟩ := hp
  refine wss_cons (ws_set 1 ?_ sc_common_bottom.nd)
  refine we_int ?_
  refine wss_cons (ws_forL ?_ B.po)
  refine wi_seq (we_name 0 rfl ?_)
  refine ⟨ps.map pD, by rcases hx with e | e <;> (subst e; constructor), ?_⟩
  refine ⟨_, ps, pD, fun pre σ' C' => ∃ o1 o2, σ' = [some x, some (.int (cbP pre)), o1, o2] ∧ C' = C, rfl, ?_, fun G1 hG1 pre1 it1 post1 σ' C' hx1 hI => ?_, fun σ' C' hI => ?_⟩
  · exact ⟨_, _, rfl, rfl⟩
  · obtain ⟨o1, o2, rfl, rfl⟩ := hI
    have hp := hd it1 (by rw [hx1]; simp)
    have hu := cbP_dvd pre1 1 m ⟨by decide, Int.one_dvd m⟩ fun p hp => hd p (by rw [hx1]; simp [hp])
    have hp2 : it1.2.natAbs < 18446744073709551616 := (dvd_bd hm hp.2 hb).mono (k := 64) (by decide)
    have hu2 : (cbP pre1).natAbs < 18446744073709551616 := (dvd_bd hm hu.2 hb).mono (k := 64) (by decide)
    refine wg_tup rfl rfl ?_
    refine ⟨_, _, rfl, wg_name 2 ?_ sc_common_bottom.nd⟩
    refine ⟨_, _, rfl, wg_name 3 ?_ sc_common_bottom.nd⟩
    refine ⟨rfl, ?_⟩
    refine wss_cons (ws_if (wt_cmp (we_bin (we_name 1 rfl (we_name 3 rfl ?_)))))
    refine ⟨_, .mod _ _ hp.1, ?_⟩
    refine we_int ?_
    walk_at "cmp"
    refine ⟨fun hif1 => ?_, fun hif1 => ?_⟩
    · try replace hif1 := of_decide_eq_true hif1
      refine wss_cons (ws_set 1 ?_ sc_common_bottom.nd)
      refine we_fun T.lcm (wa_cons (we_name 1 rfl (wa_cons (we_name 3 rfl (wa_nil ?_)))))
      walk_at "fun"
      refine wss_nil ?_
      refine wss_nil ?_
      refine ⟨some (.int it1.1), some (.int it1.2), ?_, rfl⟩
      rw [cbP_snoc]
      unfold cb1
      rw [if_neg (by simpa using hif1)]
      rfl
    try replace hif1 := of_decide_eq_false hif1
    refine wss_nil ?_
    refine wss_nil ?_
    refine ⟨some (.int it1.1), some (.int it1.2), ?_, rfl⟩
    rw [cbP_snoc]
    unfold cb1
    rw [if_pos (by simpa using hif1)]
    rfl
  obtain ⟨o1, o2, rfl, rfl⟩ := hI
  refine wss_cons (ws_ret (we_name 1 rfl ?_))
  exact q
theorem sc_check_text : FnScope ["text"] ["text"] (defScope s_check_text) := ⟨rfl, rfl, rfl, by decide +kernel, rfl, by decide +kernel, by decide +kernel⟩
def sp_check_text : PreD := fun ds C R RX => ∃ x : Str, ds = [.str x] ∧ x.length ≤ 60000 ∧ R .non C
theorem ok_check_text {P : Program} {w : World} {K : PySem.W.Frag} {tt : List (Addr × Str)} {mg : Str → Option Value} {base : Heap} {f : Addr} {fd : FuncData} (F : FnP K "check_text" s_check_text f fd) (T : Txt K w mg) : FnOk P w K mg base (L2.CX P w) 4 f fd ["text"] (SpD K tt sp_check_text) := by
  refine body_ok F sc_check_text (fun ds C R RX hp => by (obtain ⟨x, rfl, hz, q⟩ := hp; rfl)) fun cdv A outer s H E G0 ds C R RX B hp => ?_
  obtain ⟨x, rfl, hz, q⟩ := hp
  refine wss_cons (ws_if (wt_cmp (we_blt (id := "len") T.len (wa_cons (we_name 0 rfl (wa_nil ?_))))))
  walk_at "blt"
  refine we_kget (we_gA T.LIMITS (we_str ?_))
  refine ⟨_, _, _, _, rfl, rfl, T.lim _ _ (by rfl), fun _ => .int _, ?_⟩
  walk_at "cmp"
  refine ⟨fun hif1 => ?_, fun hif1 => ?_⟩
  · try replace hif1 := of_decide_eq_true hif1
    exact absurd hif1 (by omega)
  try replace hif1 := of_decide_eq_false hif1
  refine wss_nil ?_
  refine wss_nil ?_
  exact q
theorem sc_check_many : FnScope ["what", "many"] ["what", "many"] (defScope s_check_many) := ⟨rfl, rfl, rfl, by decide +kernel, rfl, by decide +kernel, by decide +kernel⟩
def sp_check_many : PreD := fun ds C R RX => ∃ (k : Str) (i v : Int), ds = [.str k, .int i] ∧ limits.lookup k = some v ∧ i ≤ v ∧ R .non C
theorem ok_check_many {P : Program} {w : World} {K : PySem.W.Frag} {tt : List (Addr × Str)} {mg : Str → Option Value} {base : Heap} {f : Addr} {fd : FuncData} (F : FnP K "check_many" s_check_many f fd) (T : Txt K w mg) : FnOk P w K mg base (L2.CX P w) 4 f fd ["what", "many"] (SpD K tt sp_check_many) := by
  refine body_ok F sc_check_many (fun ds C R RX hp => by (obtain ⟨k, i, v, rfl, hk, hz, q⟩ := hp; rfl)) fun cdv A outer s H E G0 ds C R RX B hp => ?_
  obtain ⟨k, i, v, rfl, hk, hz, q⟩ := hp
  refine wss_cons (ws_if (wt_cmp (we_name 1 rfl (we_kget (we_gA T.LIMITS (we_name 0 rfl ?_))))))
  refine ⟨_, _, _, _, rfl, rfl, T.lim _ _ hk, fun _ => .int _, ?_⟩
  walk_at "cmp"
  refine ⟨fun hif1 => ?_, fun hif1 => ?_⟩
  · try replace hif1 := of_decide_eq_true hif1
    exact absurd hif1 (by omega)
  try replace hif1 := of_decide_eq_false hif1
  refine wss_nil ?_
  refine wss_nil ?_
  exact q
theorem sc_check_next : FnScope ["what", "many"] ["what", "many"] (defScope s_check_next) := ⟨rfl, rfl, rfl, by decide +kernel, rfl, by decide +kernel, by decide +kernel⟩
def sp_check_next : PreD := fun ds C R RX => ∃ (k : Str) (i v : Int), ds = [.str k, .int i] ∧ limits.lookup k = some v ∧ i ≤ v ∧ R .non C
theorem ok_check_next {P : Program} {w : World} {K : PySem.W.Frag} {tt : List (Addr × Str)} {mg : Str → Option Value} {base : Heap} {f : Addr} {fd : FuncData} (F : FnP K "check_next" s_check_next f fd) (T : Txt K w mg) : FnOk P w K mg base (L2.CX P w) 4 f fd ["what", "many"] (SpD K tt sp_check_next) := by
  refine body_ok F sc_check_next (fun ds C R RX hp => by (obtain ⟨k, i, v, rfl, hk, hz, q⟩ := hp; rfl)) fun cdv A outer s H E G0 ds C R RX B hp => ?_
  obtain ⟨k, i, v, rfl, hk, hz, q⟩ := hp
  refine wss_cons (ws_if (wt_cmp (we_name 1 rfl (we_kget (we_gA T.LIMITS (we_name 0 rfl ?_))))))
  refine ⟨_, _, _, _, rfl, rfl, T.lim _ _ hk, fun _ => .int _, ?_⟩
  walk_at "cmp"
  refine ⟨fun hif1 => ?_, fun hif1 => ?_⟩
  · try replace hif1 := of_decide_eq_true hif1
    exact absurd hif1 (by omega)
  try replace hif1 := of_decide_eq_false hif1
  refine wss_nil ?_
  refine wss_nil ?_
  exact q
theorem sc_is_whole : FnScope ["thing"] ["thing"] (defScope s_is_whole) := ⟨rfl, rfl, rfl, by decide +kernel, rfl, by decide +kernel, by decide +kernel⟩
def sp_is_whole : PreD := fun ds C R RX => ∃ d g, ds = [d] ∧ d.tg = some g ∧ R (.bl (match g with | .int => true | _ => false)) C
theorem ok_is_whole {P : Program} {w : World} {K : PySem.W.Frag} {tt : List (Addr × Str)} {mg : Str → Option Value} {base : Heap} {f : Addr} {fd : FuncData} (F : FnP K "is_whole" s_is_whole f fd) (T : Txt K w mg) : FnOk P w K mg base (L2.CX P w) 1 f fd ["thing"] (SpD K tt sp_is_whole) := by
  refine body_ok F sc_is_whole (fun ds C R RX hp => by (obtain ⟨d, g, rfl, hg, q⟩ := hp; rfl)) fun cdv A outer s H E G0 ds C R RX B hp => ?_
  obtain ⟨d, g, rfl, hg, q⟩ := hp
  refine wss_cons (ws_ret (we_and (we_isiV .int T.isinstance T.int (we_name 0 rfl ?_))))
  refine ⟨_, hg, ?_⟩
  refine ⟨_, rfl, fun hsc1 => ?_, fun hsc1 => ?_⟩
  rotate_left
  · try replace hsc1 := of_decide_eq_false hsc1
    cases g <;> first | exact q | cases hsc1
  try replace hsc1 := of_decide_eq_true hsc1
  refine we_one (we_not (we_isiV .bl T.isinstance T.bool (we_name 0 rfl ?_)))
  refine ⟨_, hg, ?_⟩
  refine ⟨_, rfl, ?_⟩
  cases g <;> first | exact q | cases hsc1
theorem sc_is_list : FnScope ["thing"] ["thing"] (defScope s_is_list) := ⟨rfl, rfl, rfl, by decide +kernel, rfl, by decide +kernel, by decide +kernel⟩
def sp_is_list : PreD := fun ds C R RX => ∃ d g, ds = [d] ∧ d.tg = some g ∧ R (.bl (match g with | .lst => true | .tup => true | _ => false)) C
theorem ok_is_list {P : Program} {w : World} {K : PySem.W.Frag} {tt : List (Addr × Str)} {mg : Str → Option Value} {base : Heap} {f : Addr} {fd : FuncData} (F : FnP K "is_list" s_is_list f fd) (T : Txt K w mg) : FnOk P w K mg base (L2.CX P w) 1 f fd ["thing"] (SpD K tt sp_is_list) := by
  refine body_ok F sc_is_list (fun ds C R RX hp => by (obtain ⟨d, g, rfl, hg, q⟩ := hp; rfl)) fun cdv A outer s H E G0 ds C R RX B hp => ?_
  obtain ⟨d, g, rfl, hg, q⟩ := hp
  refine wss_cons (ws_ret (we_or (we_isiV .lst T.isinstance T.list (we_name 0 rfl ?_))))
  refine ⟨_, hg, ?_⟩
  refine ⟨_, rfl, fun hsc1 => ?_, fun hsc1 => ?_⟩
  skip
  · try replace hsc1 := of_decide_eq_true hsc1
    cases g <;> first | exact q | cases hsc1
  try replace hsc1 := of_decide_eq_false hsc1
  refine we_one (we_isiV .tup T.isinstance T.tuple (we_name 0 rfl ?_))
  refine ⟨_, hg, ?_⟩
  cases g <;> first | exact q | cases hsc1
theorem sc_is_pair_number : FnScope ["thing"] ["thing"] (defScope s_is_pair_number) := ⟨rfl, rfl, rfl, by decide +kernel, rfl, by decide +kernel, by decide +kernel⟩
def sp_is_pair_number : PreD := fun ds C R RX => ∃ a b : Int, ds = [.tup [.int a, .int b]] ∧ 0 < b ∧ R (.bl true) C
theorem ok_is_pair_number {P : Program} {w : World} {K : PySem.W.Frag} {tt : List (Addr × Str)} {mg : Str → Option Value} {base : Heap} {f : Addr} {fd : FuncData} (F : FnP K "is_pair_number" s_is_pair_number f fd) (T : Txt K w mg) (h_is_whole : HasF P w K tt mg base "is_whole" ["thing"] 1 sp_is_whole) (h_is_list : HasF P w K tt mg base "is_list" ["thing"] 1 sp_is_list) : FnOk P w K mg base (L2.CX P w) 2 f fd ["thing"] (SpD K tt sp_is_pair_number) := by
  refine body_ok F sc_is_pair_number (fun ds C R RX hp => by (obtain ⟨a, b, rfl, hb, q⟩ := hp; rfl)) fun cdv A outer s H E G0 ds C R RX B hp => ?_
  obtain ⟨a, b, rfl, hb, q⟩ := hp
  refine wss_cons (ws_if (wt_w (ww_or (wt_not (wt_tru (we_call h_is_list B.room (by decide) B.tk (wa_cons (we_name 0 rfl (wa_nil ?_)))))))))
  refine ⟨_, _, rfl, rfl, ?_⟩
  refine ⟨_, .bl _, ?_⟩
  refine ⟨fun hsc1 => ?_, fun hsc1 => ?_⟩
  skip
  · try replace hsc1 := of_decide_eq_true hsc1
    cases hsc1
  try replace hsc1 := of_decide_eq_false hsc1
  refine ww_or1 (wt_cmp (we_blt (id := "len") T.len (wa_cons (we_name 0 rfl (wa_nil ?_)))))
  walk_at "blt"
  refine we_int ?_
  walk_at "cmp"
  refine ⟨fun hif1 => ?_, fun hif1 => ?_⟩
  · try replace hif1 := of_decide_eq_true hif1
    exact absurd hif1 (by simp)
  try replace hif1 := of_decide_eq_false hif1
  refine wss_nil ?_
  refine wss_cons (ws_ret (we_and (we_call h_is_whole B.room (by decide) B.tk (wa_cons (we_ix (we_name 0 rfl (we_int ?_)))))))
  walk_at "ix"
  refine wa_nil ?_
  refine ⟨_, _, rfl, rfl, ?_⟩
  refine ⟨_, rfl, fun hsc2 => ?_, fun hsc2 => ?_⟩
  rotate_left
  · try replace hsc2 := of_decide_eq_false hsc2
    cases hsc2
  try replace hsc2 := of_decide_eq_true hsc2
  refine we_and (we_call h_is_whole B.room (by decide) B.tk (wa_cons (we_ix (we_name 0 rfl (we_int ?_)))))
  walk_at "ix"
  refine wa_nil ?_
  refine ⟨_, _, rfl, rfl, ?_⟩
  refine ⟨_, rfl, fun hsc3 => ?_, fun hsc3 => ?_⟩
  rotate_left
  · try replace hsc3 := of_decide_eq_false hsc3
    cases hsc3
  try replace hsc3 := of_decide_eq_true hsc3
  refine we_one (we_cmp (we_ix (we_name 0 rfl (we_int ?_))))
  walk_at "ix"
  refine we_int ?_
  walk_at "cmp"
  rw [decide_eq_true hb]
  exact q
theorem sc_many_powers : FnScope ["unknowns", "degree"] ["unknowns", "degree"] (defScope s_many_powers) := ⟨rfl, rfl, rfl, by decide +kernel, rfl, by decide +kernel, by decide +kernel⟩
def sp_many_powers : PreD := fun ds C R RX => ∃ a b : Int, ds = [.int a, .int b] ∧ 0 ≤ a ∧ a ≤ 1000 ∧ 0 ≤ b ∧ b ≤ 1000 ∧ R (.int (PySem.W.mcComb (a + b) b)) C
theorem ok_many_powers {P : Program} {w : World} {K : PySem.W.Frag} {tt : List (Addr × Str)} {mg : Str → Option Value} {base : Heap} {f : Addr} {fd : FuncData} (F : FnP K "many_powers" s_many_powers f fd) (T : Txt K w mg) : FnOk P w K mg base (L2.CX P w) 1 f fd ["unknowns", "degree"] (SpD K tt sp_many_powers) := by
  refine body_ok F sc_many_powers (fun ds C R RX hp => by (obtain ⟨a, b, rfl, h1, h2, h3, h4, q⟩ := hp; rfl)) fun cdv A outer s H E G0 ds C R RX B hp => ?_
  obtain ⟨a, b, rfl, h1, h2, h3, h4, q⟩ := hp
  refine wss_cons (ws_ret (we_fun T.comb (wa_cons (we_bin (we_name 0 rfl (we_name 1 rfl ?_))))))
  walk_at "op"
  refine wa_cons (we_name 1 rfl (wa_nil ?_))
  walk_at "fun"
  exact q
theorem sc_limit_of : FnScope ["what"] ["what"] (defScope s_limit_of) := ⟨rfl, rfl, rfl, by decide +kernel, rfl, by decide +kernel, by decide +kernel⟩
def sp_limit_of : PreD := fun ds C R RX => ∃ (k : Str) (v : Int), ds = [.str k] ∧ limits.lookup k = some v ∧ R (.int v) C
theorem ok_limit_of {P : Program} {w : World} {K : PySem.W.Frag} {tt : List (Addr × Str)} {mg : Str → Option Value} {base : Heap} {f : Addr} {fd : FuncData} (F : FnP K "limit_of" s_limit_of f fd) (T : Txt K w mg) : FnOk P w K mg base (L2.CX P w) 4 f fd ["what"] (SpD K tt sp_limit_of) := by
  refine body_ok F sc_limit_of (fun ds C R RX hp => by (obtain ⟨k, v, rfl, hk, q⟩ := hp; rfl)) fun cdv A outer s H E G0 ds C R RX B hp => ?_
  obtain ⟨k, v, rfl, hk, q⟩ := hp
  obtain ⟨es, n, hD⟩ := T.limD
  obtain ⟨u, hu⟩ := T.lin _ _ hk
  refine wss_cons (ws_if (wt_w (ww_or (wt_not (wt_tru (we_isiV .str T.isinstance T.str (we_name 0 rfl ?_)))))))
  refine ⟨_, rfl, ?_⟩
  refine ⟨_, .bl _, ?_⟩
  refine ⟨fun hsc1 => ?_, fun hsc1 => ?_⟩
  skip
  · try replace hsc1 := of_decide_eq_true hsc1
    cases hsc1
  try replace hsc1 := of_decide_eq_false hsc1
  refine ww_or1 (wt_kni' hD (we_name 0 rfl (we_gA T.LIMITS ?_)))
  refine ⟨_, _, rfl, rfl, hu, ?_⟩
  refine ⟨fun hif1 => ?_, fun hif1 => ?_⟩
  · try replace hif1 := of_decide_eq_true hif1
    exact absurd hif1 (by simp)
  try replace hif1 := of_decide_eq_false hif1
  refine wss_nil ?_
  refine wss_cons (ws_ret (we_kget (we_gA T.LIMITS (we_name 0 rfl ?_))))
  refine ⟨_, _, _, _, rfl, rfl, T.lim _ _ hk, fun _ => .int _, ?_⟩
  exact q
theorem sc_hold : FnScope ["what", "count"] ["what", "count"] (defScope s_hold) := ⟨rfl, rfl, rfl, by decide +kernel, rfl, by decide +kernel, by decide +kernel⟩
def sp_hold (tm : Addr) : PreD := fun ds C R RX => ∃ (k : Str) (i v : Int), ds = [.str k, .int i] ∧ limits.lookup k = some v ∧ (i ≤ v → R .non C) ∧ (¬ i ≤ v → RX tm [("count", .int i), ("what", .str k)] C)
theorem ok_hold {P : Program} {w : World} {K : PySem.W.Frag} {tt : List (Addr × Str)} {mg : Str → Option Value} {base : Heap} {f : Addr} {fd : FuncData} (F : FnP K "hold" s_hold f fd) (T : Txt K w mg) (h_limit_of : HasF P w K tt mg base "limit_of" ["what"] 4 sp_limit_of) (x_TooMany : HasX2 P w K mg base "TooMany" (He.ga K "TooMany") "what" "count") : FnOk P w K mg base (L2.CX P w) 5 f fd ["what", "count"] (SpD K tt (sp_hold (He.ga K "TooMany"))) := by
  refine body_ok F sc_hold (fun ds C R RX hp => by (obtain ⟨k, i, v, rfl, hk, q, qx⟩ := hp; rfl)) fun cdv A outer s H E G0 ds C R RX B hp => ?_
  obtain ⟨k, i, v, rfl, hk, q, qx⟩ := hp
  refine wss_cons (ws_if (wt_cmp (we_name 1 rfl (we_call h_limit_of B.room (by decide) B.tk (wa_cons (we_name 0 rfl (wa_nil ?_)))))))
  refine ⟨_, _, rfl, hk, ?_⟩
  walk_at "cmp"
  refine ⟨fun hif1 => ?_, fun hif1 => ?_⟩
  · try replace hif1 := of_decide_eq_true hif1
    refine wss_cons (ws_raise2 (b' := .Name "x" ⟨0, 0, 0, 0⟩) x_TooMany B.room (by decide) B.tk (wa_cons (we_name 0 rfl (wa_cons (we_name 1 rfl (wa_nil ?_))))))
    exact ⟨_, _, rfl, qx (by omega)⟩
  try replace hif1 := of_decide_eq_false hif1
  refine wss_nil ?_
  refine wss_nil ?_
  exact q (by omega)
end K60
set_option Elab.async false
set_option linter.all false
set_option maxRecDepth 100000
set_option maxHeartbeats 4000000
namespace K60
open PySem PySem.Spec PyProof.Rows L2 Evl DW
local macro_rules | `(tactic| walk_at "seq") => `(tactic| first | exact .l (.v _) | exact .t _ | exact .r _ | exact .l (.c setC_same) | exact .l (.c (by assumption)))
local macro_rules | `(tactic| walk_at "lin") => `(tactic| first | exact .v _ | exact .c setC_same | exact .c (by assumption))
local macro_rules | `(tactic| walk_at "size") => `(tactic| first | (refine sz ?_; first | omega | (simp only [List.length_map, List.length_range, List.length_append, List.length_cons, List.length_nil, List.length_replicate] at *; omega)) | decide)
local macro_rules | `(tactic| walk_at "mulok") => `(tactic| first | exact mulR (by decide) (by decide) | exact mulL (by decide) (by decide) | assumption | exact mulL (by omega) (by omega) | exact mulR (by omega) (by omega))
local macro_rules | `(tactic| walk_at "op") => `(tactic| first
  | refine ⟨_, .add _ _, ?_⟩
  | refine ⟨_, .sub _ _, ?_⟩
  | refine ⟨_, .mul _ _ (by walk_at "mulok"), ?_⟩
  | refine ⟨_, .mod _ _ (by first | decide | omega | assumption), ?_⟩
  | refine ⟨_, .div _ _ (by first | decide | omega | assumption) (by first | decide | assumption), ?_⟩
  | refine ⟨_, .pow _ _ (by decide), ?_⟩
  | refine ⟨_, .adds _ _ (by walk_at "size"), ?_⟩
  | refine ⟨_, .catT _ _ (by walk_at "size"), ?_⟩
  | refine ⟨_, .cat (by walk_at "lin") (by walk_at "lin") (by walk_at "size"), ?_⟩
  | refine ⟨_, .rep _ (by walk_at "lin") (by first | decide | omega) (by first | decide | omega) (by walk_at "size"), ?_⟩)
local macro_rules | `(tactic| walk_at "cmp") => `(tactic| first
  | refine ⟨_, .lt _ _, ?_⟩ | refine ⟨_, .le _ _, ?_⟩ | refine ⟨_, .gt _ _, ?_⟩ | refine ⟨_, .ge _ _, ?_⟩
  | refine ⟨_, .eqI _ _, ?_⟩ | refine ⟨_, .neI _ _, ?_⟩ | refine ⟨_, .eqS _ _, ?_⟩ | refine ⟨_, .neS _ _, ?_⟩ | refine ⟨_, .eqB _ _, ?_⟩ | refine ⟨_, .neB _ _, ?_⟩
  | refine ⟨_, .isN, ?_⟩ | refine ⟨_, .ntN, ?_⟩ | refine ⟨_, .isC, ?_⟩ | refine ⟨_, .ntC, ?_⟩ | refine ⟨_, .isNo trivial, ?_⟩ | refine ⟨_, .ntNo trivial, ?_⟩)
local macro_rules | `(tactic| walk_at "ix") => `(tactic| first | refine ⟨_, .seq (by walk_at "seq") rfl, ?_⟩)
local macro_rules | `(tactic| walk_at "slc") => `(tactic| first | refine ⟨_, .lst _ _ (by walk_at "lin"), ?_⟩ | refine ⟨_, .tup _ _ _, ?_⟩ | refine ⟨_, .rol _ _ _, ?_⟩ | refine ⟨_, .str _ _ _ (by walk_at "size"), ?_⟩)
local macro_rules | `(tactic| walk_at "blt") => `(tactic| first
  | refine ⟨_, .len (by walk_at "seq"), ?_⟩ | refine ⟨_, .lenS _ (by walk_at "size"), ?_⟩ | refine ⟨_, .abs _, ?_⟩ | refine ⟨_, .max2 _ _ rfl, ?_⟩ | refine ⟨_, .min2 _ _ rfl, ?_⟩
  | refine ⟨_, .int _, ?_⟩ | refine ⟨_, .intB _, ?_⟩ | refine ⟨_, .bool _, ?_⟩ | refine ⟨_, .boolI _, ?_⟩
  | refine ⟨_, .sum _ (by walk_at "lin") rfl, ?_⟩ | refine ⟨_, .all _ (by walk_at "lin") rfl, ?_⟩ | refine ⟨_, .any _ (by walk_at "lin") rfl, ?_⟩
  | refine ⟨_, .list (by walk_at "seq"), ?_⟩ | refine ⟨_, .tuple (by walk_at "lin"), ?_⟩ | refine ⟨_, .tupleT _, ?_⟩)
local macro_rules | `(tactic| walk_at "sub") => `(tactic| (refine ⟨_, _, _, _, rfl, rfl, (by first | exact setC_same | assumption), rfl, ?_⟩; try rw [setC_setC]))
local macro_rules | `(tactic| walk_at "fun") => `(tactic| first | refine ⟨_, .gcd _ _, ?_⟩ | refine ⟨_, .lcm _ _ (by assumption) (by assumption), ?_⟩ | refine ⟨_, .lcm _ _ (by omega) (by omega), ?_⟩ | refine ⟨_, .comb _ _ (by omega) (by omega) (by omega) (by omega), ?_⟩)
local macro_rules | `(tactic| walk_at "sizelt") => `(tactic| first | (refine szlt ?_; first | omega | (simp only [List.length_map, List.length_range, List.length_append, List.length_cons, List.length_nil, List.length_replicate] at *; omega)) | decide)
local macro_rules | `(tactic| walk_at "meth") => `(tactic| first | refine ⟨_, .startswith _ _, ?_⟩ | refine ⟨_, .strip _ _ (by walk_at "size"), ?_⟩ | refine ⟨_, .partition _ _ rfl (by walk_at "size"), ?_⟩ | refine ⟨_, .split _ _ rfl (by walk_at "size"), ?_⟩)
local macro_rules | `(tactic| walk_at "tsz") => `(tactic| first | decide | exact sz (by simp))
local macro_rules | `(tactic| walk_at "jsz") => `(tactic| first | decide | walk_at "size" | (refine sz ?_; simp; omega))
local macro_rules | `(tactic| walk_at "log") => `(tactic| first | assumption | omega)
def isDigB (x : Str) : Bool := !decide (x = ("" : Str)) && decide (Txt.stripChars x "0123456789" = ("" : Str))
def npSign (x : Str) : Str := if Txt.startswith x "-" = true then "-" else ""
def npQ (x : Str) : Str × Str × Str := Txt.partition (cutS x (some ((npSign x).length : Int)) none) "/"
def partsD (x : Str) : D := if isDigB (npQ x).1 = false then .non else if (npQ x).2.1 = ("" : Str) then .tup [.str (npSign x), .str (npQ x).1, .str "1"] else
  if (!isDigB (npQ x).2.2 || decide (Txt.stripChars (npQ x).2.2 "0" = ("" : Str))) = true then .non else .tup [.str (npSign x), .str (npQ x).1, .str (npQ x).2.2]
inductive NumIn : D → Int × Int → Prop
  | int (i : Int) : NumIn (.int i) (i, 1)
  | pair (a b : Int) : 0 < b → b < 18446744073709551616 → NumIn (.tup [.int a, .int b]) (lowP a b)
  | str (x s t b : Str) (a c : Int) : x.length ≤ 200 → (npQ x).1.length ≤ 200 → (npQ x).2.2.length ≤ 200 → partsD x = .tup [.str s, .str t, .str b] → s.length ≤ 1 → t.length ≤ 200 → b.length ≤ 200 → PySem.intText? (s ++ t) = some a → PySem.intText? b = some c → c ≠ 0 → c.natAbs < 18446744073709551616 → NumIn (.str x) (lowP a c)
theorem npSign_len (x : Str) : (npSign x).length ≤ 1 := by
  unfold npSign
  split <;> decide
inductive RowIn (sep : Str) : D → List D → Prop
  | str (x : Str) : x.length ≤ 60000 → RowIn sep (.str x) ((Txt.split x sep).map D.str)
  | lst (items : List D) : items ≠ [] → RowIn sep (.lst items) items
  | tup (items : List D) : items ≠ [] → RowIn sep (.tup items) items
theorem sc_is_digits : FnScope ["word"] ["word"] (defScope s_is_digits) := ⟨rfl, rfl, rfl, by decide +kernel, rfl, by decide +kernel, by decide +kernel⟩
def sp_is_digits : PreD := fun ds C R RX => ∃ x : Str, ds = [.str x] ∧ x.length ≤ 60000 ∧ R (.bl (isDigB x)) C
theorem ok_is_digits {P : Program} {w : World} {K : PySem.W.Frag} {tt : List (Addr × Str)} {mg : Str → Option Value} {base : Heap} {f : Addr} {fd : FuncData} (F : FnP K "is_digits" s_is_digits f fd) (T : Txt K w mg) : FnOk P w K mg base (L2.CX P w) 1 f fd ["word"] (SpD K tt sp_is_digits) := by
  refine body_ok F sc_is_digits (fun ds C R RX hp => by (obtain ⟨x, rfl, hz, q⟩ := hp; rfl)) fun cdv A outer s H E G0 ds C R RX B hp => ?_
  obtain ⟨x, rfl, hz, q⟩ := hp
  refine wss_cons (ws_ret (we_and (we_cmp (we_name 0 rfl (we_str ?_)))))
  walk_at "cmp"
  refine ⟨_, rfl, fun hsc1 => ?_, fun hsc1 => ?_⟩
  rotate_left
  · try replace hsc1 := of_decide_eq_false hsc1
    unfold isDigB at q
    rw [hsc1] at q
    exact q
  try replace hsc1 := of_decide_eq_true hsc1
  refine we_one (we_cmp (we_m1 PySem.F.slot_str_strip PySem.F.type_str_strip (we_name 0 rfl ?_)))
  refine ⟨_, rfl, ?_⟩
  refine we_gS T.DIGITS ?_
  walk_at "meth"
  refine we_str ?_
  walk_at "cmp"
  unfold isDigB at q
  rw [hsc1] at q
  exact q
theorem sc_number_parts : FnScope ["word", "sign", "top", "slash", "bottom"] ["word"] (defScope s_number_parts) := ⟨rfl, rfl, rfl, by decide +kernel, rfl, by decide +kernel, by decide +kernel⟩
def sp_number_parts : PreD := fun ds C R RX => ∃ x : Str, ds = [.str x] ∧ x.length ≤ 60000 ∧ (npQ x).1.length ≤ 60000 ∧ (npQ x).2.2.length ≤ 60000 ∧ R (partsD x) C
theorem ok_number_parts {P : Program} {w : World} {K : PySem.W.Frag} {tt : List (Addr × Str)} {mg : Str → Option Value} {base : Heap} {f : Addr} {fd : FuncData} (F : FnP K "number_parts" s_number_parts f fd) (T : Txt K w mg) (h_is_digits : HasF P w K tt mg base "is_digits" ["word"] 1 sp_is_digits) : FnOk P w K mg base (L2.CX P w) 2 f fd ["word"] (SpD K tt sp_number_parts) := by
  refine body_ok F sc_number_parts (fun ds C R RX hp => by (obtain ⟨x, rfl, hz, h1, h2, q⟩ := hp; rfl)) fun cdv A outer s H E G0 ds C R RX B hp => ?_
  obtain ⟨x, rfl, hz, h1, h2, q⟩ := hp
  have hs := npSign_len x
  refine wss_cons (ws_set 1 ?_ sc_number_parts.nd)
  refine WE.mono (Q := fun d C1 => d = D.str (npSign x) ∧ C1 = C) ?_ (fun d C1 hd => ?_)
  · skip
    refine we_if (wt_tru (we_m1 PySem.F.slot_str_startswith PySem.F.type_str_startswith (we_name 0 rfl ?_)))
    refine ⟨_, rfl, ?_⟩
    refine we_str ?_
    walk_at "meth"
    refine ⟨_, .bl _, ?_⟩
    refine ⟨fun hife1 => ?_, fun hife1 => ?_⟩
    · try replace hife1 := of_decide_eq_true hife1
      refine we_str ?_
      exact ⟨by unfold npSign; rw [if_pos hife1], rfl⟩
    · try replace hife1 := of_decide_eq_false hife1
      refine we_str ?_
      exact ⟨by unfold npSign; rw [if_neg (by simp [hife1])], rfl⟩
  obtain ⟨rfl, rfl⟩ := hd
  refine wss_cons (ws_asg (we_m1 PySem.F.slot_str_partition PySem.F.type_str_partition (we_slice (we_name 0 rfl (we_blt (id := "len") T.len (wa_cons (we_name 1 rfl (wa_nil ?_))))))))
  walk_at "blt"
  refine ⟨_, rfl, ?_⟩
  walk_at "slc"
  refine ⟨_, rfl, ?_⟩
  refine we_str ?_
  refine ⟨_, .partition _ _ (by decide) (sz (Nat.le_trans (cutS_length _ _ _) (by omega))), ?_⟩
  refine wg_tup rfl rfl ?_
  refine ⟨_, _, rfl, wg_name 2 ?_ sc_number_parts.nd⟩
  refine ⟨_, _, rfl, wg_name 3 ?_ sc_number_parts.nd⟩
  refine ⟨_, _, rfl, wg_name 4 ?_ sc_number_parts.nd⟩
  refine ⟨rfl, ?_⟩
  refine wss_cons (ws_if (wt_not (wt_tru (we_call h_is_digits B.room (by decide) B.tk (wa_cons (we_name 2 rfl (wa_nil ?_)))))))
  refine ⟨_, rfl, h1, ?_⟩
  refine ⟨_, .bl _, ?_⟩
  refine ⟨fun hif1 => ?_, fun hif1 => ?_⟩
  · try replace hif1 := of_decide_eq_true hif1
    refine wss_cons (ws_ret (we_non ?_))
    have g1 : isDigB (npQ x).1 = false := by simpa [npQ] using hif1
    unfold partsD at q
    rw [if_pos g1] at q
    exact q
  try replace hif1 := of_decide_eq_false hif1
  refine wss_nil ?_
  refine wss_cons (ws_if (wt_cmp (we_name 3 rfl (we_str ?_))))
  walk_at "cmp"
  refine ⟨fun hif2 => ?_, fun hif2 => ?_⟩
  · try replace hif2 := of_decide_eq_true hif2
    refine wss_cons (ws_ret (we_tup (wa_cons (we_name 1 rfl (wa_cons (we_name 2 rfl (wa_cons (we_str (wa_nil ?_)))))))))
    refine ⟨by walk_at "tsz", ?_⟩
    have g1 : isDigB (npQ x).1 = true := by simpa [npQ] using hif1
    unfold partsD at q
    rw [if_neg (by rw [g1]; decide), if_pos (show (npQ x).2.1 = ("" : Str) from hif2)] at q
    exact q
  try replace hif2 := of_decide_eq_false hif2
  refine wss_nil ?_
  refine wss_cons (ws_if (wt_w (ww_or (wt_not (wt_tru (we_call h_is_digits B.room (by decide) B.tk (wa_cons (we_name 4 rfl (wa_nil ?_)))))))))
  refine ⟨_, rfl, h2, ?_⟩
  refine ⟨_, .bl _, ?_⟩
  refine ⟨fun hsc1 => ?_, fun hsc1 => ?_⟩
  skip
  · try replace hsc1 := of_decide_eq_true hsc1
    have g1 : isDigB (npQ x).1 = true := by simpa [npQ] using hif1
    have g2 : isDigB (npQ x).2.2 = false := by simpa [npQ] using hsc1
    unfold partsD at q
    rw [if_neg (by rw [g1]; decide), if_neg (show ¬ (npQ x).2.1 = ("" : Str) from hif2), if_pos (by rw [g2]; rfl)] at q
    exact ⟨fun _ => wss_cons (ws_ret (we_non q)), fun h => Bool.noConfusion h⟩
  try replace hsc1 := of_decide_eq_false hsc1
  refine ww_or1 (wt_cmp (we_m1 PySem.F.slot_str_strip PySem.F.type_str_strip (we_name 4 rfl ?_)))
  refine ⟨_, rfl, ?_⟩
  refine we_str ?_
  refine ⟨_, .strip _ _ (sz (Nat.le_trans h2 (by omega))), ?_⟩
  refine we_str ?_
  walk_at "cmp"
  refine ⟨fun hif3 => ?_, fun hif3 => ?_⟩
  · try replace hif3 := of_decide_eq_true hif3
    refine wss_cons (ws_ret (we_non ?_))
    have g1 : isDigB (npQ x).1 = true := by simpa [npQ] using hif1
    unfold partsD at q
    rw [if_neg (by rw [g1]; decide), if_neg (show ¬ (npQ x).2.1 = ("" : Str) from hif2), if_pos (by rw [Bool.or_eq_true]; exact .inr (decide_eq_true (show Txt.stripChars (npQ x).2.2 "0" = ("" : Str) from hif3)))] at q
    exact q
  try replace hif3 := of_decide_eq_false hif3
  refine wss_nil ?_
  refine wss_cons (ws_ret (we_tup (wa_cons (we_name 1 rfl (wa_cons (we_name 2 rfl (wa_cons (we_name 4 rfl (wa_nil ?_)))))))))
  refine ⟨by walk_at "tsz", ?_⟩
  have g1 : isDigB (npQ x).1 = true := by simpa [npQ] using hif1
  have g2 : isDigB (npQ x).2.2 = true := by simpa [npQ] using hsc1
  unfold partsD at q
  rw [if_neg (by rw [g1]; decide), if_neg (show ¬ (npQ x).2.1 = ("" : Str) from hif2), if_neg (by rw [g2, decide_eq_false (show ¬ Txt.stripChars (npQ x).2.2 "0" = ("" : Str) from hif3)]; decide)] at q
  exact q
theorem sc_word_number : FnScope ["word", "at", "parts", "sign", "top", "bottom"] ["word", "at"] (defScope s_word_number) := ⟨rfl, rfl, rfl, by decide +kernel, rfl, by decide +kernel, by decide +kernel⟩
def sp_word_number : PreD := fun ds C R RX => ∃ (x s t b : Str) (at_ a c : Int), ds = [.str x, .int at_] ∧ x.length ≤ 200 ∧ (npQ x).1.length ≤ 200 ∧ (npQ x).2.2.length ≤ 200 ∧ partsD x = .tup [.str s, .str t, .str b] ∧ s.length ≤ 1 ∧ t.length ≤ 200 ∧ b.length ≤ 200 ∧ PySem.intText? (s ++ t) = some a ∧ PySem.intText? b = some c ∧ c ≠ 0 ∧ c.natAbs < 18446744073709551616 ∧ R (pD (lowP a c)) C
theorem ok_word_number {P : Program} {w : World} {K : PySem.W.Frag} {tt : List (Addr × Str)} {mg : Str → Option Value} {base : Heap} {f : Addr} {fd : FuncData} (F : FnP K "word_number" s_word_number f fd) (T : Txt K w mg) (h_number_parts : HasF P w K tt mg base "number_parts" ["word"] 2 sp_number_parts) (h_check_next : HasF P w K tt mg base "check_next" ["what", "many"] 4 sp_check_next) (h_lowest : HasF P w K tt mg base "lowest" ["top", "bottom"] 1 sp_lowest) : FnOk P w K mg base (L2.CX P w) 5 f fd ["word", "at"] (SpD K tt sp_word_number) := by
  refine body_ok F sc_word_number (fun ds C R RX hp => by (obtain ⟨x, s, t, b, at_, a, c, rfl, hx, hq1, hq2, hp, hs, ht, hb, ha, hc, h0, hz, q⟩ := hp; rfl)) fun cdv A outer s H E G0 ds C R RX B hp => ?_
  obtain ⟨x, s, t, b, at_, a, c, rfl, hx, hq1, hq2, hp, hs, ht, hb, ha, hc, h0, hz, q⟩ := hp
  refine wss_cons (ws_set 2 ?_ sc_word_number.nd)
  refine we_call h_number_parts B.room (by decide) B.tk (wa_cons (we_name 0 rfl (wa_nil ?_)))
  refine ⟨_, rfl, by omega, by omega, by omega, ?_⟩
  rw [hp]
  refine wss_cons (ws_if (wt_cmp (we_name 2 rfl (we_non ?_))))
  walk_at "cmp"
  refine ⟨fun hif1 => ?_, fun hif1 => ?_⟩
  · try replace hif1 := of_decide_eq_true hif1
    cases hif1
  try replace hif1 := of_decide_eq_false hif1
  refine wss_nil ?_
  refine wss_cons (ws_asg (we_name 2 rfl ?_))
  refine wg_tup rfl rfl ?_
  refine ⟨_, _, rfl, wg_name 3 ?_ sc_word_number.nd⟩
  refine ⟨_, _, rfl, wg_name 4 ?_ sc_word_number.nd⟩
  refine ⟨_, _, rfl, wg_name 5 ?_ sc_word_number.nd⟩
  refine ⟨rfl, ?_⟩
  refine wss_cons (ws_expr (we_call h_check_next B.room (by decide) B.tk (wa_cons (we_str (wa_cons (we_blt (id := "max") T.max (wa_cons (we_blt (id := "len") T.len (wa_cons (we_name 4 rfl (wa_nil ?_)))))))))))
  refine ⟨_, .lenS _ (sz (by omega)), ?_⟩
  refine wa_cons (we_blt (id := "len") T.len (wa_cons (we_name 5 rfl (wa_nil ?_))))
  refine ⟨_, .lenS _ (sz (by omega)), ?_⟩
  refine wa_nil ?_
  walk_at "blt"
  refine wa_nil ?_
  refine ⟨_, _, _, rfl, by rfl, ?_, ?_⟩
  · split <;> omega
  refine wss_cons (ws_ret (we_call h_lowest B.room (by decide) B.tk (wa_cons (we_intS T.int (wa_cons (we_bin (we_name 3 rfl (we_name 4 rfl ?_))))))))
  refine ⟨_, .adds _ _ (sz (by omega)), ?_⟩
  refine wa_nil ?_
  refine ⟨_, _, rfl, ha, ?_, ?_⟩
  · rw [Str.length_append]; omega
  refine wa_cons (we_intS T.int (wa_cons (we_name 5 rfl (wa_nil ?_))))
  refine ⟨_, _, rfl, hc, by omega, ?_⟩
  refine wa_nil ?_
  exact ⟨_, _, rfl, h0, bd64 hz, q⟩
theorem sc_number_at : FnScope ["thing", "at"] ["thing", "at"] (defScope s_number_at) := ⟨rfl, rfl, rfl, by decide +kernel, rfl, by decide +kernel, by decide +kernel⟩
def sp_number_at : PreD := fun ds C R RX => ∃ (d : D) (p : Int × Int) (at_ : Int), ds = [d, .int at_] ∧ NumIn d p ∧ R (pD p) C
theorem ok_number_at {P : Program} {w : World} {K : PySem.W.Frag} {tt : List (Addr × Str)} {mg : Str → Option Value} {base : Heap} {f : Addr} {fd : FuncData} (F : FnP K "number_at" s_number_at f fd) (T : Txt K w mg) (h_is_whole : HasF P w K tt mg base "is_whole" ["thing"] 1 sp_is_whole) (h_is_pair_number : HasF P w K tt mg base "is_pair_number" ["thing"] 2 sp_is_pair_number) (h_check_text : HasF P w K tt mg base "check_text" ["text"] 4 sp_check_text) (h_word_number : HasF P w K tt mg base "word_number" ["word", "at"] 5 sp_word_number) (h_lowest : HasF P w K tt mg base "lowest" ["top", "bottom"] 1 sp_lowest) : FnOk P w K mg base (L2.CX P w) 7 f fd ["thing", "at"] (SpD K tt sp_number_at) := by
  refine body_ok F sc_number_at (fun ds C R RX hp => by (obtain ⟨d, p, at_, rfl, hn, q⟩ := hp; rfl)) fun cdv A outer s H E G0 ds C R RX B hp => ?_
  obtain ⟨d, p, at_, rfl, hn, q⟩ := hp
  cases hn with
  | int i =>
    refine wss_cons (ws_if (wt_tru (we_isiV .str T.isinstance T.str (we_name 0 rfl ?_))))
    refine ⟨_, rfl, ⟨_, .bl _, fun h => (by cases h), fun _ => ?_⟩⟩
    refine wss_nil ?_
    refine wss_cons (ws_if (wt_tru (we_call h_is_whole B.room (by decide) B.tk (wa_cons (we_name 0 rfl (wa_nil ?_))))))
    refine ⟨_, _, rfl, rfl, ⟨_, .bl _, fun _ => ?_, fun h => (by cases h)⟩⟩
    refine wss_cons (ws_ret (we_tup (wa_cons (we_name 0 rfl (wa_cons (we_int (wa_nil ?_)))))))
    exact ⟨by walk_at "tsz", q⟩
  | pair a b h0 hb =>
    refine wss_cons (ws_if (wt_tru (we_isiV .str T.isinstance T.str (we_name 0 rfl ?_))))
    refine ⟨_, rfl, ⟨_, .bl _, fun h => (by cases h), fun _ => ?_⟩⟩
    refine wss_nil ?_
    refine wss_cons (ws_if (wt_tru (we_call h_is_whole B.room (by decide) B.tk (wa_cons (we_name 0 rfl (wa_nil ?_))))))
    refine ⟨_, _, rfl, rfl, ⟨_, .bl _, fun h => (by cases h), fun _ => ?_⟩⟩
    refine wss_nil ?_
    refine wss_cons (ws_if (wt_tru (we_call h_is_pair_number B.room (by decide) B.tk (wa_cons (we_name 0 rfl (wa_nil ?_))))))
    refine ⟨_, _, rfl, h0, ⟨_, .bl _, fun _ => ?_, fun h => (by cases h)⟩⟩
    refine wss_cons (ws_ret (we_call h_lowest B.room (by decide) B.tk (wa_cons (we_ix (we_name 0 rfl (we_int ?_))))))
    refine ⟨_, .seq (.t _) rfl, ?_⟩
    refine wa_cons (we_ix (we_name 0 rfl (we_int ?_)))
    refine ⟨_, .seq (.t _) rfl, ?_⟩
    refine wa_nil ?_
    exact ⟨_, _, rfl, by omega, bd64 (by omega), q⟩
  | str x s t b a c h1 h2 h3 h4 h5 h6 h7 h8 h9 h10 h11 =>
    refine wss_cons (ws_if (wt_tru (we_isiV .str T.isinstance T.str (we_name 0 rfl ?_))))
    refine ⟨_, rfl, ⟨_, .bl _, fun _ => ?_, fun h => (by cases h)⟩⟩
    refine wss_cons (ws_expr (we_call h_check_text B.room (by decide) B.tk (wa_cons (we_name 0 rfl (wa_nil ?_)))))
    refine ⟨_, rfl, by omega, ?_⟩
    refine wss_cons (ws_ret (we_call h_word_number B.room (by decide) B.tk (wa_cons (we_name 0 rfl (wa_cons (we_name 1 rfl (wa_nil ?_)))))))
    exact ⟨_, _, _, _, _, _, _, rfl, h1, h2, h3, h4, h5, h6, h7, h8, h9, h10, h11, q⟩
theorem sc_row_items : FnScope ["thing"] ["thing"] (defScope s_row_items) := ⟨rfl, rfl, rfl, by decide +kernel, rfl, by decide +kernel, by decide +kernel⟩
def sp_row_items : PreD := fun ds C R RX => ∃ (d : D) (items : List D), ds = [d] ∧ RowIn " " d items ∧ R (.lst items) C
theorem ok_row_items {P : Program} {w : World} {K : PySem.W.Frag} {tt : List (Addr × Str)} {mg : Str → Option Value} {base : Heap} {f : Addr} {fd : FuncData} (F : FnP K "row_items" s_row_items f fd) (T : Txt K w mg) (h_check_text : HasF P w K tt mg base "check_text" ["text"] 4 sp_check_text) (h_is_list : HasF P w K tt mg base "is_list" ["thing"] 1 sp_is_list) : FnOk P w K mg base (L2.CX P w) 5 f fd ["thing"] (SpD K tt sp_row_items) := by
  refine body_ok F sc_row_items (fun ds C R RX hp => by (obtain ⟨d, items, rfl, hr, q⟩ := hp; rfl)) fun cdv A outer s H E G0 ds C R RX B hp => ?_
  obtain ⟨d, items, rfl, hr, q⟩ := hp
  cases hr with
  | str x hx =>
    refine wss_cons (ws_if (wt_tru (we_isiV .str T.isinstance T.str (we_name 0 rfl ?_))))
    refine ⟨_, rfl, ⟨_, .bl _, fun _ => ?_, fun h => (by cases h)⟩⟩
    refine wss_cons (ws_expr (we_call h_check_text B.room (by decide) B.tk (wa_cons (we_name 0 rfl (wa_nil ?_)))))
    refine ⟨_, rfl, by omega, ?_⟩
    refine wss_cons (ws_ret (we_m1 PySem.F.slot_str_split PySem.F.type_str_split (we_name 0 rfl ?_)))
    refine ⟨_, rfl, we_str ⟨_, .split _ _ rfl (sz (by omega)), q⟩⟩
  | lst items hne =>
    refine wss_cons (ws_if (wt_tru (we_isiV .str T.isinstance T.str (we_name 0 rfl ?_))))
    refine ⟨_, rfl, ⟨_, .bl _, fun h => (by cases h), fun _ => ?_⟩⟩
    refine wss_nil ?_
    refine wss_cons (ws_if (wt_not (wt_tru (we_call h_is_list B.room (by decide) B.tk (wa_cons (we_name 0 rfl (wa_nil ?_)))))))
    refine ⟨_, _, rfl, rfl, ⟨_, .bl _, fun h => (by cases h), fun _ => ?_⟩⟩
    refine wss_nil ?_
    refine wss_cons (ws_if (wt_cmp (we_blt (id := "len") T.len (wa_cons (we_name 0 rfl (wa_nil ?_))))))
    refine ⟨_, .len (.l (.v _)), ?_⟩
    refine we_int ⟨_, .eqI _ _, fun h => ?_, fun _ => ?_⟩
    · exact absurd (List.eq_nil_of_length_eq_zero (by have := of_decide_eq_true h; omega)) hne
    refine wss_nil ?_
    refine wss_cons (ws_ret (we_ty (T := "list") T.list (wa_cons (we_name 0 rfl (wa_nil ?_)))))
    exact ⟨_, .list (.l (.v _)), q⟩
  | tup items hne =>
    refine wss_cons (ws_if (wt_tru (we_isiV .str T.isinstance T.str (we_name 0 rfl ?_))))
    refine ⟨_, rfl, ⟨_, .bl _, fun h => (by cases h), fun _ => ?_⟩⟩
    refine wss_nil ?_
    refine wss_cons (ws_if (wt_not (wt_tru (we_call h_is_list B.room (by decide) B.tk (wa_cons (we_name 0 rfl (wa_nil ?_)))))))
    refine ⟨_, _, rfl, rfl, ⟨_, .bl _, fun h => (by cases h), fun _ => ?_⟩⟩
    refine wss_nil ?_
    refine wss_cons (ws_if (wt_cmp (we_blt (id := "len") T.len (wa_cons (we_name 0 rfl (wa_nil ?_))))))
    refine ⟨_, .len (.t _), ?_⟩
    refine we_int ⟨_, .eqI _ _, fun h => ?_, fun _ => ?_⟩
    · exact absurd (List.eq_nil_of_length_eq_zero (by have := of_decide_eq_true h; omega)) hne
    refine wss_nil ?_
    refine wss_cons (ws_ret (we_ty (T := "list") T.list (wa_cons (we_name 0 rfl (wa_nil ?_)))))
    exact ⟨_, .list (.t _), q⟩
theorem sc_table_items : FnScope ["thing"] ["thing"] (defScope s_table_items) := ⟨rfl, rfl, rfl, by decide +kernel, rfl, by decide +kernel, by decide +kernel⟩
def sp_table_items : PreD := fun ds C R RX => ∃ (d : D) (items : List D), ds = [d] ∧ RowIn " ; " d items ∧ R (.lst items) C
theorem ok_table_items {P : Program} {w : World} {K : PySem.W.Frag} {tt : List (Addr × Str)} {mg : Str → Option Value} {base : Heap} {f : Addr} {fd : FuncData} (F : FnP K "table_items" s_table_items f fd) (T : Txt K w mg) (h_check_text : HasF P w K tt mg base "check_text" ["text"] 4 sp_check_text) (h_is_list : HasF P w K tt mg base "is_list" ["thing"] 1 sp_is_list) : FnOk P w K mg base (L2.CX P w) 5 f fd ["thing"] (SpD K tt sp_table_items) := by
  refine body_ok F sc_table_items (fun ds C R RX hp => by (obtain ⟨d, items, rfl, hr, q⟩ := hp; rfl)) fun cdv A outer s H E G0 ds C R RX B hp => ?_
  obtain ⟨d, items, rfl, hr, q⟩ := hp
  cases hr with
  | str x hx =>
    refine wss_cons (ws_if (wt_tru (we_isiV .str T.isinstance T.str (we_name 0 rfl ?_))))
    refine ⟨_, rfl, ⟨_, .bl _, fun _ => ?_, fun h => (by cases h)⟩⟩
    refine wss_cons (ws_expr (we_call h_check_text B.room (by decide) B.tk (wa_cons (we_name 0 rfl (wa_nil ?_)))))
    refine ⟨_, rfl, by omega, ?_⟩
    refine wss_cons (ws_ret (we_m1 PySem.F.slot_str_split PySem.F.type_str_split (we_name 0 rfl ?_)))
    refine ⟨_, rfl, we_str ⟨_, .split _ _ rfl (sz (by omega)), q⟩⟩
  | lst items hne =>
    refine wss_cons (ws_if (wt_tru (we_isiV .str T.isinstance T.str (we_name 0 rfl ?_))))
    refine ⟨_, rfl, ⟨_, .bl _, fun h => (by cases h), fun _ => ?_⟩⟩
    refine wss_nil ?_
    refine wss_cons (ws_if (wt_not (wt_tru (we_call h_is_list B.room (by decide) B.tk (wa_cons (we_name 0 rfl (wa_nil ?_)))))))
    refine ⟨_, _, rfl, rfl, ⟨_, .bl _, fun h => (by cases h), fun _ => ?_⟩⟩
    refine wss_nil ?_
    refine wss_cons (ws_if (wt_cmp (we_blt (id := "len") T.len (wa_cons (we_name 0 rfl (wa_nil ?_))))))
    refine ⟨_, .len (.l (.v _)), ?_⟩
    refine we_int ⟨_, .eqI _ _, fun h => ?_, fun _ => ?_⟩
    · exact absurd (List.eq_nil_of_length_eq_zero (by have := of_decide_eq_true h; omega)) hne
    refine wss_nil ?_
    refine wss_cons (ws_ret (we_ty (T := "list") T.list (wa_cons (we_name 0 rfl (wa_nil ?_)))))
    exact ⟨_, .list (.l (.v _)), q⟩
  | tup items hne =>
    refine wss_cons (ws_if (wt_tru (we_isiV .str T.isinstance T.str (we_name 0 rfl ?_))))
    refine ⟨_, rfl, ⟨_, .bl _, fun h => (by cases h), fun _ => ?_⟩⟩
    refine wss_nil ?_
    refine wss_cons (ws_if (wt_not (wt_tru (we_call h_is_list B.room (by decide) B.tk (wa_cons (we_name 0 rfl (wa_nil ?_)))))))
    refine ⟨_, _, rfl, rfl, ⟨_, .bl _, fun h => (by cases h), fun _ => ?_⟩⟩
    refine wss_nil ?_
    refine wss_cons (ws_if (wt_cmp (we_blt (id := "len") T.len (wa_cons (we_name 0 rfl (wa_nil ?_))))))
    refine ⟨_, .len (.t _), ?_⟩
    refine we_int ⟨_, .eqI _ _, fun h => ?_, fun _ => ?_⟩
    · exact absurd (List.eq_nil_of_length_eq_zero (by have := of_decide_eq_true h; omega)) hne
    refine wss_nil ?_
    refine wss_cons (ws_ret (we_ty (T := "list") T.list (wa_cons (we_name 0 rfl (wa_nil ?_)))))
    exact ⟨_, .list (.t _), q⟩
end K60
set_option Elab.async false
set_option linter.all false
set_option maxRecDepth 100000
set_option maxHeartbeats 4000000
namespace K60
open PySem PySem.Spec PyProof.Rows L2 Evl DW
local macro_rules | `(tactic| walk_at "seq") => `(tactic| first | exact .l (.v _) | exact .t _ | exact .r _ | exact .l (.c setC_same) | exact .l (.c (by assumption)))
local macro_rules | `(tactic| walk_at "lin") => `(tactic| first | exact .v _ | exact .c setC_same | exact .c (by assumption))
local macro_rules | `(tactic| walk_at "size") => `(tactic| first | (refine sz ?_; first | omega | (simp only [List.length_map, List.length_range, List.length_append, List.length_cons, List.length_nil, List.length_replicate] at *; omega)) | decide)
local macro_rules | `(tactic| walk_at "mulok") => `(tactic| first | exact mulR (by decide) (by decide) | exact mulL (by decide) (by decide) | assumption | exact mulL (by omega) (by omega) | exact mulR (by omega) (by omega))
local macro_rules | `(tactic| walk_at "op") => `(tactic| first
  | refine ⟨_, .add _ _, ?_⟩
  | refine ⟨_, .sub _ _, ?_⟩
  | refine ⟨_, .mul _ _ (by walk_at "mulok"), ?_⟩
  | refine ⟨_, .mod _ _ (by first | decide | omega | assumption), ?_⟩
  | refine ⟨_, .div _ _ (by first | decide | omega | assumption) (by first | decide | assumption), ?_⟩
  | refine ⟨_, .pow _ _ (by decide), ?_⟩
  | refine ⟨_, .adds _ _ (by walk_at "size"), ?_⟩
  | refine ⟨_, .catT _ _ (by walk_at "size"), ?_⟩
  | refine ⟨_, .cat (by walk_at "lin") (by walk_at "lin") (by walk_at "size"), ?_⟩
  | refine ⟨_, .rep _ (by walk_at "lin") (by first | decide | omega) (by first | decide | omega) (by walk_at "size"), ?_⟩)
local macro_rules | `(tactic| walk_at "cmp") => `(tactic| first
  | refine ⟨_, .lt _ _, ?_⟩ | refine ⟨_, .le _ _, ?_⟩ | refine ⟨_, .gt _ _, ?_⟩ | refine ⟨_, .ge _ _, ?_⟩
  | refine ⟨_, .eqI _ _, ?_⟩ | refine ⟨_, .neI _ _, ?_⟩ | refine ⟨_, .eqS _ _, ?_⟩ | refine ⟨_, .neS _ _, ?_⟩ | refine ⟨_, .eqB _ _, ?_⟩ | refine ⟨_, .neB _ _, ?_⟩
  | refine ⟨_, .isN, ?_⟩ | refine ⟨_, .ntN, ?_⟩ | refine ⟨_, .isC, ?_⟩ | refine ⟨_, .ntC, ?_⟩ | refine ⟨_, .isNo trivial, ?_⟩ | refine ⟨_, .ntNo trivial, ?_⟩)
local macro_rules | `(tactic| walk_at "ix") => `(tactic| first | refine ⟨_, .seq (by walk_at "seq") rfl, ?_⟩)
local macro_rules | `(tactic| walk_at "slc") => `(tactic| first | refine ⟨_, .lst _ _ (by walk_at "lin"), ?_⟩ | refine ⟨_, .tup _ _ _, ?_⟩ | refine ⟨_, .rol _ _ _, ?_⟩ | refine ⟨_, .str _ _ _ (by walk_at "size"), ?_⟩)
local macro_rules | `(tactic| walk_at "blt") => `(tactic| first
  | refine ⟨_, .len (by walk_at "seq"), ?_⟩ | refine ⟨_, .lenS _ (by walk_at "size"), ?_⟩ | refine ⟨_, .abs _, ?_⟩ | refine ⟨_, .max2 _ _ rfl, ?_⟩ | refine ⟨_, .min2 _ _ rfl, ?_⟩
  | refine ⟨_, .int _, ?_⟩ | refine ⟨_, .intB _, ?_⟩ | refine ⟨_, .bool _, ?_⟩ | refine ⟨_, .boolI _, ?_⟩
  | refine ⟨_, .sum _ (by walk_at "lin") rfl, ?_⟩ | refine ⟨_, .all _ (by walk_at "lin") rfl, ?_⟩ | refine ⟨_, .any _ (by walk_at "lin") rfl, ?_⟩
  | refine ⟨_, .list (by walk_at "seq"), ?_⟩ | refine ⟨_, .tuple (by walk_at "lin"), ?_⟩ | refine ⟨_, .tupleT _, ?_⟩)
local macro_rules | `(tactic| walk_at "sub") => `(tactic| (refine ⟨_, _, _, _, rfl, rfl, (by first | exact setC_same | assumption), rfl, ?_⟩; try rw [setC_setC]))
local macro_rules | `(tactic| walk_at "fun") => `(tactic| first | refine ⟨_, .gcd _ _, ?_⟩ | refine ⟨_, .lcm _ _ (by assumption) (by assumption), ?_⟩ | refine ⟨_, .lcm _ _ (by omega) (by omega), ?_⟩ | refine ⟨_, .comb _ _ (by omega) (by omega) (by omega) (by omega), ?_⟩)
local macro_rules | `(tactic| walk_at "sizelt") => `(tactic| first | (refine szlt ?_; first | omega | (simp only [List.length_map, List.length_range, List.length_append, List.length_cons, List.length_nil, List.length_replicate] at *; omega)) | decide)
local macro_rules | `(tactic| walk_at "meth") => `(tactic| first | refine ⟨_, .startswith _ _, ?_⟩ | refine ⟨_, .strip _ _ (by walk_at "size"), ?_⟩ | refine ⟨_, .partition _ _ rfl (by walk_at "size"), ?_⟩ | refine ⟨_, .split _ _ rfl (by walk_at "size"), ?_⟩)
local macro_rules | `(tactic| walk_at "tsz") => `(tactic| first | decide | exact sz (by simp))
local macro_rules | `(tactic| walk_at "jsz") => `(tactic| first | decide | walk_at "size" | (refine sz ?_; simp; omega))
local macro_rules | `(tactic| walk_at "log") => `(tactic| first | assumption | omega)
structure RowOk (d : D) (es : List (D × (Int × Int))) : Prop where
  row : RowIn " " d (es.map (·.1))
  len : es.length ≤ 1000
  num : ∀ e ∈ es, NumIn e.1 e.2
def rowD (es : List (D × (Int × Int))) : D := .tup (es.map fun e => pD e.2)
theorem sc_read_row : FnScope ["thing", "at", "item"] ["thing"] (defScope s_read_row) := ⟨rfl, rfl, rfl, by decide +kernel, rfl, by decide +kernel, by decide +kernel⟩
def sp_read_row : PreD := fun ds C R RX => ∃ (d : D) (es : List (D × (Int × Int))), ds = [d] ∧ RowOk d es ∧ R (rowD es) C
theorem ok_read_row {P : Program} {w : World} {K : PySem.W.Frag} {tt : List (Addr × Str)} {mg : Str → Option Value} {base : Heap} {f : Addr} {fd : FuncData} (F : FnP K "read_row" s_read_row f fd) (T : Txt K w mg) (h_number_at : HasF P w K tt mg base "number_at" ["thing", "at"] 7 sp_number_at) (h_row_items : HasF P w K tt mg base "row_items" ["thing"] 5 sp_row_items) : FnOk P w K mg base (L2.CX P w) 8 f fd ["thing"] (SpD K tt sp_read_row) := by
  refine body_ok F sc_read_row (fun ds C R RX hp => by (obtain ⟨d, es, rfl, hr, q⟩ := hp; rfl)) fun cdv A outer s H E G0 ds C R RX B hp => ?_
  obtain ⟨d, es, rfl, hr, q⟩ := hp
  refine wss_cons (ws_ret (we_ty (T := "tuple") T.tuple (wa_cons (we_lc [("at", 1), ("item", 2)] [1, 2] (fun _ _ _ _ _ => tgt_tup2 (by decide) (by decide) sc_read_row.nd) sc_read_row.nd (blkOk_by (by kernel_rfl)) (wi_enum T.enumerate (wa_cons (we_call h_row_items B.room (by decide) B.tk (wa_cons (we_name 0 rfl (wa_nil ?_))))))))))
  refine ⟨_, _, rfl, hr.row, ?_⟩
  refine wa_nil ?_
  refine ⟨_, _, rfl, .lst _, ?_⟩
  refine lc_map (List.range es.length) (fun i => pairD (.int (i : Nat)) ((es.map (·.1)).getD i .non)) (fun i => pD ((es.map (·.2)).getD i (0, 0))) (by unfold enumD; rw [List.length_map]) (by rw [List.length_range]; exact sz (by have := hr.len; omega)) (fun x hx => .tup2 _ _ _ _ _) (fun i hx s H cl Cc fp G C' hC => ?_) ?_
  · skip
    have hi : i < es.length := by simpa using hx
    refine we_call h_number_at (blkB B).room (by decide) (blkB B).tk (wa_cons (we_name 2 rfl (wa_cons (we_name 1 rfl (wa_nil ?_)))))
    refine ⟨_, (es.map (·.2)).getD i (0, 0), _, rfl, ?_, rfl, rfl⟩
    rw [getD_map (d := (.non, (0, 0))) hi, getD_map (d := (.non, (0, 0))) hi]
    exact hr.num _ (getD_mem hi)
  refine wa_nil ?_
  walk_at "blt"
  have e1 : (List.range es.length).map (fun i => pD ((es.map (·.2)).getD i (0, 0))) = es.map fun e => pD e.2 := by
    have := range_getD (fun e : Int × Int => pD e) (0, 0) (es.map (·.2))
    rw [List.length_map, List.map_map] at this
    exact this
  unfold rowD at q
  rw [e1]
  exact q
theorem sc_row_at : FnScope ["thing", "at", "row", "fault"] ["thing", "at"] (defScope s_row_at) := ⟨rfl, rfl, rfl, by decide +kernel, rfl, by decide +kernel, by decide +kernel⟩
def sp_row_at : PreD := fun ds C R RX => ∃ (d : D) (at_ : Int) (es : List (D × (Int × Int))), ds = [d, .int at_] ∧ RowOk d es ∧ R (rowD es) C
theorem ok_row_at {P : Program} {w : World} {K : PySem.W.Frag} {tt : List (Addr × Str)} {mg : Str → Option Value} {base : Heap} {f : Addr} {fd : FuncData} (F : FnP K "row_at" s_row_at f fd) (T : Txt K w mg) (h_read_row : HasF P w K tt mg base "read_row" ["thing"] 8 sp_read_row) : FnOk P w K mg base (L2.CX P w) 9 f fd ["thing", "at"] (SpD K tt sp_row_at) := by
  refine body_ok F sc_row_at (fun ds C R RX hp => by (obtain ⟨d, at_, es, rfl, hr, q⟩ := hp; rfl)) fun cdv A outer s H E G0 ds C R RX B hp => ?_
  obtain ⟨d, at_, es, rfl, hr, q⟩ := hp
  refine wss_cut (M := (fun σ' C' => σ' = [some d, some (.int at_), some (rowD es), none] ∧ C' = C)) (ws_try0 ?_) (fun σ' C' hM => ?_)
  · skip
    refine wss_cons (ws_set 2 ?_ sc_row_at.nd)
    refine we_call h_read_row B.nox.room (by decide) B.nox.tk (wa_cons (we_name 0 rfl (wa_nil ?_)))
    refine ⟨_, _, rfl, hr, ?_⟩
    refine wss_nil ?_
    exact ⟨rfl, rfl⟩
  obtain ⟨rfl, rfl⟩ := hM
  refine wss_cons (ws_ret (we_name 2 rfl ?_))
  exact q
end K60
set_option Elab.async false
set_option linter.all false
set_option maxRecDepth 100000
set_option maxHeartbeats 4000000
namespace K60
open PySem PySem.Spec PyProof.Rows L2 Evl DW
local macro_rules | `(tactic| walk_at "seq") => `(tactic| first | exact .l (.v _) | exact .t _ | exact .r _ | exact .l (.c setC_same) | exact .l (.c (by assumption)))
local macro_rules | `(tactic| walk_at "lin") => `(tactic| first | exact .v _ | exact .c setC_same | exact .c (by assumption))
local macro_rules | `(tactic| walk_at "size") => `(tactic| first | (refine sz ?_; first | omega | (simp only [List.length_map, List.length_range, List.length_append, List.length_cons, List.length_nil, List.length_replicate] at *; omega)) | decide)
local macro_rules | `(tactic| walk_at "mulok") => `(tactic| first | exact mulR (by decide) (by decide) | exact mulL (by decide) (by decide) | assumption | exact mulL (by omega) (by omega) | exact mulR (by omega) (by omega))
local macro_rules | `(tactic| walk_at "op") => `(tactic| first
  | refine ⟨_, .add _ _, ?_⟩
  | refine ⟨_, .sub _ _, ?_⟩
  | refine ⟨_, .mul _ _ (by walk_at "mulok"), ?_⟩
  | refine ⟨_, .mod _ _ (by first | decide | omega | assumption), ?_⟩
  | refine ⟨_, .div _ _ (by first | decide | omega | assumption) (by first | decide | assumption), ?_⟩
  | refine ⟨_, .pow _ _ (by decide), ?_⟩
  | refine ⟨_, .adds _ _ (by walk_at "size"), ?_⟩
  | refine ⟨_, .catT _ _ (by walk_at "size"), ?_⟩
  | refine ⟨_, .cat (by walk_at "lin") (by walk_at "lin") (by walk_at "size"), ?_⟩
  | refine ⟨_, .rep _ (by walk_at "lin") (by first | decide | omega) (by first | decide | omega) (by walk_at "size"), ?_⟩)
local macro_rules | `(tactic| walk_at "cmp") => `(tactic| first
  | refine ⟨_, .lt _ _, ?_⟩ | refine ⟨_, .le _ _, ?_⟩ | refine ⟨_, .gt _ _, ?_⟩ | refine ⟨_, .ge _ _, ?_⟩
  | refine ⟨_, .eqI _ _, ?_⟩ | refine ⟨_, .neI _ _, ?_⟩ | refine ⟨_, .eqS _ _, ?_⟩ | refine ⟨_, .neS _ _, ?_⟩ | refine ⟨_, .eqB _ _, ?_⟩ | refine ⟨_, .neB _ _, ?_⟩
  | refine ⟨_, .isN, ?_⟩ | refine ⟨_, .ntN, ?_⟩ | refine ⟨_, .isC, ?_⟩ | refine ⟨_, .ntC, ?_⟩ | refine ⟨_, .isNo trivial, ?_⟩ | refine ⟨_, .ntNo trivial, ?_⟩)
local macro_rules | `(tactic| walk_at "ix") => `(tactic| first | refine ⟨_, .seq (by walk_at "seq") rfl, ?_⟩)
local macro_rules | `(tactic| walk_at "slc") => `(tactic| first | refine ⟨_, .lst _ _ (by walk_at "lin"), ?_⟩ | refine ⟨_, .tup _ _ _, ?_⟩ | refine ⟨_, .rol _ _ _, ?_⟩ | refine ⟨_, .str _ _ _ (by walk_at "size"), ?_⟩)
local macro_rules | `(tactic| walk_at "blt") => `(tactic| first
  | refine ⟨_, .len (by walk_at "seq"), ?_⟩ | refine ⟨_, .lenS _ (by walk_at "size"), ?_⟩ | refine ⟨_, .abs _, ?_⟩ | refine ⟨_, .max2 _ _ rfl, ?_⟩ | refine ⟨_, .min2 _ _ rfl, ?_⟩
  | refine ⟨_, .int _, ?_⟩ | refine ⟨_, .intB _, ?_⟩ | refine ⟨_, .bool _, ?_⟩ | refine ⟨_, .boolI _, ?_⟩
  | refine ⟨_, .sum _ (by walk_at "lin") rfl, ?_⟩ | refine ⟨_, .all _ (by walk_at "lin") rfl, ?_⟩ | refine ⟨_, .any _ (by walk_at "lin") rfl, ?_⟩
  | refine ⟨_, .list (by walk_at "seq"), ?_⟩ | refine ⟨_, .tuple (by walk_at "lin"), ?_⟩ | refine ⟨_, .tupleT _, ?_⟩)
local macro_rules | `(tactic| walk_at "sub") => `(tactic| (refine ⟨_, _, _, _, rfl, rfl, (by first | exact setC_same | assumption), rfl, ?_⟩; try rw [setC_setC]))
local macro_rules | `(tactic| walk_at "fun") => `(tactic| first | refine ⟨_, .gcd _ _, ?_⟩ | refine ⟨_, .lcm _ _ (by assumption) (by assumption), ?_⟩ | refine ⟨_, .lcm _ _ (by omega) (by omega), ?_⟩ | refine ⟨_, .comb _ _ (by omega) (by omega) (by omega) (by omega), ?_⟩)
local macro_rules | `(tactic| walk_at "sizelt") => `(tactic| first | (refine szlt ?_; first | omega | (simp only [List.length_map, List.length_range, List.length_append, List.length_cons, List.length_nil, List.length_replicate] at *; omega)) | decide)
local macro_rules | `(tactic| walk_at "meth") => `(tactic| first | refine ⟨_, .startswith _ _, ?_⟩ | refine ⟨_, .strip _ _ (by walk_at "size"), ?_⟩ | refine ⟨_, .partition _ _ rfl (by walk_at "size"), ?_⟩ | refine ⟨_, .split _ _ rfl (by walk_at "size"), ?_⟩)
local macro_rules | `(tactic| walk_at "tsz") => `(tactic| first | decide | exact sz (by simp))
local macro_rules | `(tactic| walk_at "jsz") => `(tactic| first | decide | walk_at "size" | (refine sz ?_; simp; omega))
local macro_rules | `(tactic| walk_at "log") => `(tactic| first | assumption | omega)
theorem atI_zero {α : Type} {x : α} {xs : List α} : atI (x :: xs) 0 = some x := by
  unfold atI
  rw [ixN_nat (by omega) (by simp)]
  rfl
structure TabOk (d : D) (rows : List (D × List (D × (Int × Int)))) (t : Nat) : Prop where
  tab : RowIn " ; " d (rows.map (·.1))
  len : rows.length ≤ 1000
  row : ∀ r ∈ rows, RowOk r.1 r.2 ∧ r.2.length = t
def rowDs (rows : List (D × List (D × (Int × Int)))) : List D := rows.map fun r => rowD r.2
theorem rowD_len {es : List (D × (Int × Int))} : ∃ ds, rowD es = .tup ds ∧ ds.length = es.length := ⟨_, rfl, by rw [List.length_map]⟩
theorem sc_read_table : FnScope ["thing", "told", "at", "item", "row"] ["thing"] (defScope s_read_table) := ⟨rfl, rfl, rfl, by decide +kernel, rfl, by decide +kernel, by decide +kernel⟩
def sp_read_table : PreD := fun ds C R RX => ∃ (d : D) (rows : List (D × List (D × (Int × Int)))) (t : Nat), ds = [d] ∧ TabOk d rows t ∧ R (.tup (rowDs rows)) C
theorem ok_read_table {P : Program} {w : World} {K : PySem.W.Frag} {tt : List (Addr × Str)} {mg : Str → Option Value} {base : Heap} {f : Addr} {fd : FuncData} (F : FnP K "read_table" s_read_table f fd) (T : Txt K w mg) (h_table_items : HasF P w K tt mg base "table_items" ["thing"] 5 sp_table_items) (h_row_at : HasF P w K tt mg base "row_at" ["thing", "at"] 9 sp_row_at) : FnOk P w K mg base (L2.CX P w) 10 f fd ["thing"] (SpD K tt sp_read_table) := by
  refine body_ok F sc_read_table (fun ds C R RX hp => by (obtain ⟨d, rows, t, rfl, hr, q⟩ := hp; rfl)) fun cdv A outer s H E G0 ds C R RX B hp => ?_
  obtain ⟨d, rows, t, rfl, hr, q⟩ := hp
  refine wss_cons (ws_set 1 ?_ sc_read_table.nd)
  refine we_nilC ?_
  intro p hp
  refine wss_cons (ws_forL ?_ B.po)
  refine wi_enum T.enumerate (wa_cons (we_call h_table_items B.room (by decide) B.tk (wa_cons (we_name 0 rfl (wa_nil ?_)))))
  refine ⟨_, _, rfl, hr.tab, ?_⟩
  refine wa_nil ?_
  refine ⟨_, _, rfl, .lst _, ?_⟩
  refine ⟨_, List.range rows.length, fun i => pairD (.int (i : Nat)) ((rows.map (·.1)).getD i .non), fun pre σ' C' => ∃ o1 o2 o3, σ' = [some d, some (.cell p), o1, o2, o3] ∧ C' = setC C p (.lst (rowDs (rows.take pre.length))), by unfold enumD; rw [List.length_map], ?_, fun G1 hG1 pre1 it1 post1 σ' C' hx1 hI => ?_, fun σ' C' hI => ?_⟩
  · exact ⟨_, _, _, rfl, rfl⟩
  · obtain ⟨o1, o2, o3, rfl, rfl⟩ := hI
    obtain ⟨ei, hlt⟩ := range_split hx1
    subst ei
    have hro := hr.row _ (getD_mem (d := (.non, [])) hlt)
    have hrl := hr.len
    refine wg_tup rfl rfl ?_
    refine ⟨_, _, rfl, wg_name 2 ?_ sc_read_table.nd⟩
    refine ⟨_, _, rfl, wg_name 3 ?_ sc_read_table.nd⟩
    refine ⟨rfl, ?_⟩
    refine wss_cons (ws_set 4 ?_ sc_read_table.nd)
    refine we_call h_row_at (B.base hG1).room (by decide) (B.base hG1).tk (wa_cons (we_name 3 rfl (wa_cons (we_name 2 rfl (wa_nil ?_)))))
    refine ⟨_, _, (rows.getD pre1.length (.non, [])).2, rfl, ?_, ?_⟩
    · rw [getD_map (d := (.non, [])) hlt]
      exact hro.1
    refine wss_cons (ws_if ?_)
    refine WT.mono (Q := fun k C1 => k = false ∧ C1 = setC C p (.lst (rowDs (rows.take pre1.length)))) ?_ (fun k C1 hk => ?_)
    · skip
      refine wt_w (ww_and (wt_cmp (we_name 2 rfl (we_int ?_))))
      walk_at "cmp"
      refine ⟨fun hsc1 => ?_, fun hsc1 => ?_⟩
      rotate_left
      · try replace hsc1 := of_decide_eq_false hsc1
        exact ⟨rfl, rfl⟩
      try replace hsc1 := of_decide_eq_true hsc1
      refine ww_and1 (wt_cmp (we_blt (id := "len") T.len (wa_cons (we_name 4 rfl (wa_nil ?_)))))
      refine ⟨_, .len (.t _), ?_⟩
      refine we_blt (id := "len") T.len (wa_cons (we_ix (we_name 1 rfl (we_int ?_))))
      obtain ⟨r0, rest, er⟩ : ∃ r0 rest, rows = r0 :: rest := by
        cases rows with
        | nil => simp at hlt
        | cons r0 rest => exact ⟨r0, rest, rfl⟩
      obtain ⟨n0, en⟩ : ∃ n0, pre1.length = n0 + 1 := by
        exact ⟨pre1.length - 1, by omega⟩
      refine ⟨rowD r0.2, .seq (.l (.c setC_same)) (by rw [er, en]; unfold rowDs; rw [List.take_succ_cons, List.map_cons]; exact atI_zero), ?_⟩
      refine wa_nil ?_
      refine ⟨_, .len (.t _), ?_⟩
      walk_at "cmp"
      have h0 := (hr.row r0 (by rw [er]; exact List.mem_cons_self)).2
      refine ⟨?_, rfl⟩
      rw [List.length_map, List.length_map, h0, hro.2]
      simp
    obtain ⟨rfl, rfl⟩ := hk
    refine ⟨fun hif1 => ?_, fun hif1 => ?_⟩
    · try replace hif1 := of_decide_eq_true hif1
      cases hif1
    try replace hif1 := of_decide_eq_false hif1
    refine wss_nil ?_
    refine wss_cons (ws_expr (we_append (we_name 1 rfl ?_)))
    refine ⟨_, rfl, ⟨_, by first | assumption | exact setC_same⟩, ?_⟩
    refine we_name 4 rfl ?_
    refine ⟨_, setC_same, szlt (by unfold rowDs; rw [List.length_map, List.length_take]; omega), ?_⟩
    refine wss_nil ?_
    refine ⟨_, _, _, rfl, ?_⟩
    rw [setC_setC]
    have e1 : rows.take (pre1 ++ [pre1.length]).length = rows.take pre1.length ++ [rows.getD pre1.length (.non, [])] := by
      rw [List.length_append, List.length_singleton, List.take_succ, List.getD_eq_getElem?_getD, List.getElem?_eq_getElem hlt]
      rfl
    rw [e1]
    unfold rowDs
    rw [List.map_append]
    rfl
  obtain ⟨o1, o2, o3, rfl, rfl⟩ := hI
  rw [List.length_range, List.take_length]
  refine wss_cons (ws_ret (we_drop (we_ty (T := "tuple") T.tuple (wa_cons (we_name 1 rfl (wa_nil ?_))))))
  walk_at "blt"
  refine ⟨p, _, by first | exact setC_same | assumption, ?_⟩
  rw [delC_setC hp]
  exact q
end K60
set_option Elab.async false
set_option linter.all false
set_option maxRecDepth 100000
set_option maxHeartbeats 4000000
namespace K60
open PySem PySem.Spec PyProof.Rows L2 Evl DW
local macro_rules | `(tactic| walk_at "seq") => `(tactic| first | exact .l (.v _) | exact .t _ | exact .r _ | exact .l (.c setC_same) | exact .l (.c (by assumption)))
local macro_rules | `(tactic| walk_at "lin") => `(tactic| first | exact .v _ | exact .c setC_same | exact .c (by assumption))
local macro_rules | `(tactic| walk_at "size") => `(tactic| first | (refine sz ?_; first | omega | (simp only [List.length_map, List.length_range, List.length_append, List.length_cons, List.length_nil, List.length_replicate] at *; omega)) | decide)
local macro_rules | `(tactic| walk_at "mulok") => `(tactic| first | exact mulR (by decide) (by decide) | exact mulL (by decide) (by decide) | assumption | exact mulL (by omega) (by omega) | exact mulR (by omega) (by omega))
local macro_rules | `(tactic| walk_at "op") => `(tactic| first
  | refine ⟨_, .add _ _, ?_⟩
  | refine ⟨_, .sub _ _, ?_⟩
  | refine ⟨_, .mul _ _ (by walk_at "mulok"), ?_⟩
  | refine ⟨_, .mod _ _ (by first | decide | omega | assumption), ?_⟩
  | refine ⟨_, .div _ _ (by first | decide | omega | assumption) (by first | decide | assumption), ?_⟩
  | refine ⟨_, .pow _ _ (by decide), ?_⟩
  | refine ⟨_, .adds _ _ (by walk_at "size"), ?_⟩
  | refine ⟨_, .catT _ _ (by walk_at "size"), ?_⟩
  | refine ⟨_, .cat (by walk_at "lin") (by walk_at "lin") (by walk_at "size"), ?_⟩
  | refine ⟨_, .rep _ (by walk_at "lin") (by first | decide | omega) (by first | decide | omega) (by walk_at "size"), ?_⟩)
local macro_rules | `(tactic| walk_at "cmp") => `(tactic| first
  | refine ⟨_, .lt _ _, ?_⟩ | refine ⟨_, .le _ _, ?_⟩ | refine ⟨_, .gt _ _, ?_⟩ | refine ⟨_, .ge _ _, ?_⟩
  | refine ⟨_, .eqI _ _, ?_⟩ | refine ⟨_, .neI _ _, ?_⟩ | refine ⟨_, .eqS _ _, ?_⟩ | refine ⟨_, .neS _ _, ?_⟩ | refine ⟨_, .eqB _ _, ?_⟩ | refine ⟨_, .neB _ _, ?_⟩
  | refine ⟨_, .isN, ?_⟩ | refine ⟨_, .ntN, ?_⟩ | refine ⟨_, .isC, ?_⟩ | refine ⟨_, .ntC, ?_⟩ | refine ⟨_, .isNo trivial, ?_⟩ | refine ⟨_, .ntNo trivial, ?_⟩)
local macro_rules | `(tactic| walk_at "ix") => `(tactic| first | refine ⟨_, .seq (by walk_at "seq") rfl, ?_⟩)
local macro_rules | `(tactic| walk_at "slc") => `(tactic| first | refine ⟨_, .lst _ _ (by walk_at "lin"), ?_⟩ | refine ⟨_, .tup _ _ _, ?_⟩ | refine ⟨_, .rol _ _ _, ?_⟩ | refine ⟨_, .str _ _ _ (by walk_at "size"), ?_⟩)
local macro_rules | `(tactic| walk_at "blt") => `(tactic| first
  | refine ⟨_, .len (by walk_at "seq"), ?_⟩ | refine ⟨_, .lenS _ (by walk_at "size"), ?_⟩ | refine ⟨_, .abs _, ?_⟩ | refine ⟨_, .max2 _ _ rfl, ?_⟩ | refine ⟨_, .min2 _ _ rfl, ?_⟩
  | refine ⟨_, .int _, ?_⟩ | refine ⟨_, .intB _, ?_⟩ | refine ⟨_, .bool _, ?_⟩ | refine ⟨_, .boolI _, ?_⟩
  | refine ⟨_, .sum _ (by walk_at "lin") rfl, ?_⟩ | refine ⟨_, .all _ (by walk_at "lin") rfl, ?_⟩ | refine ⟨_, .any _ (by walk_at "lin") rfl, ?_⟩
  | refine ⟨_, .list (by walk_at "seq"), ?_⟩ | refine ⟨_, .tuple (by walk_at "lin"), ?_⟩ | refine ⟨_, .tupleT _, ?_⟩)
local macro_rules | `(tactic| walk_at "sub") => `(tactic| (refine ⟨_, _, _, _, rfl, rfl, (by first | exact setC_same | assumption), rfl, ?_⟩; try rw [setC_setC]))
local macro_rules | `(tactic| walk_at "fun") => `(tactic| first | refine ⟨_, .gcd _ _, ?_⟩ | refine ⟨_, .lcm _ _ (by assumption) (by assumption), ?_⟩ | refine ⟨_, .lcm _ _ (by omega) (by omega), ?_⟩ | refine ⟨_, .comb _ _ (by omega) (by omega) (by omega) (by omega), ?_⟩)
local macro_rules | `(tactic| walk_at "sizelt") => `(tactic| first | (refine szlt ?_; first | omega | (simp only [List.length_map, List.length_range, List.length_append, List.length_cons, List.length_nil, List.length_replicate] at *; omega)) | decide)
local macro_rules | `(tactic| walk_at "meth") => `(tactic| first | refine ⟨_, .startswith _ _, ?_⟩ | refine ⟨_, .strip _ _ (by walk_at "size"), ?_⟩ | refine ⟨_, .partition _ _ rfl (by walk_at "size"), ?_⟩ | refine ⟨_, .split _ _ rfl (by walk_at "size"), ?_⟩)
local macro_rules | `(tactic| walk_at "tsz") => `(tactic| first | decide | exact sz (by simp))
local macro_rules | `(tactic| walk_at "jsz") => `(tactic| first | decide | walk_at "size" | (refine sz ?_; simp; omega))
local macro_rules | `(tactic| walk_at "log") => `(tactic| first | assumption | omega)
theorem log_ok {b : Int} (h : b.natAbs < 18446744073709551616) : b.natAbs.log2 < 9000 := by
  by_cases h0 : b.natAbs = 0
  · rw [h0]
    decide
  · exact (Nat.log2_lt h0).mpr (Nat.lt_of_lt_of_le h (by exact Nat.le_of_ble_eq_true (by rfl)))
def pairsD (r : List (Int × Int)) : D := .tup (r.map pD)
def intsD (r : List Int) : D := .lst (r.map D.int)
def lcmR (rows : List (List (Int × Int))) (u : Int := 1) : Int := rows.foldl (fun u r => ((Nat.lcm u.natAbs (cbP r).natAbs : Nat) : Int)) u
def wholeR (rows : List (List (Int × Int))) : List (List Int) := rows.map fun r => r.map fun p => p.1 * (lcmR rows / p.2)
structure SmallR (rows : List (List (Int × Int))) : Prop where
  len : rows.length ≤ 1000
  wid : ∀ r ∈ rows, r.length ≤ 1000
  den : ∀ r ∈ rows, ∀ p ∈ r, Den p.2
  num : ∀ r ∈ rows, ∀ p ∈ r, -1000 ≤ p.1 ∧ p.1 ≤ 1000
theorem lcm_den6 {a b : Int} (ha : Den6 a) (hb : Den6 b) : Den6 ((Nat.lcm a.natAbs b.natAbs : Nat) : Int) := by
  rcases ha with rfl | rfl | rfl | rfl <;> rcases hb with rfl | rfl | rfl | rfl <;> (first | exact .inl (by decide) | exact .inr (.inl (by decide)) | exact .inr (.inr (.inl (by decide))) | exact .inr (.inr (.inr (by decide))))
theorem lcmR_den : ∀ (rows : List (List (Int × Int))) (u : Int), Den6 u → (∀ r ∈ rows, ∀ p ∈ r, Den p.2) → Den6 (lcmR rows u)
  | [], _, hu, _ => hu
  | r :: rows, u, hu, h => lcmR_den rows _ (lcm_den6 hu (cbP_den r 1 (.inl rfl) (h r List.mem_cons_self))) fun q hq => h q (List.mem_cons_of_mem _ hq)
theorem lcmR_snoc (rows : List (List (Int × Int))) (r : List (Int × Int)) (u : Int) : lcmR (rows ++ [r]) u = ((Nat.lcm (lcmR rows u).natAbs (cbP r).natAbs : Nat) : Int) := by
  unfold lcmR
  rw [List.foldl_append]
  rfl
theorem sc_whole_rows : FnScope ["a", "under", "row", "top", "bottom"] ["a"] (defScope s_whole_rows) := ⟨rfl, rfl, rfl, by decide +kernel, rfl, by decide +kernel, by decide +kernel⟩
def sp_whole_rows : PreD := fun ds C R RX => ∃ rows : List (List (Int × Int)), ds = [.tup (rows.map pairsD)] ∧ SmallR rows ∧ R (.tup [.lst ((wholeR rows).map intsD), .int (lcmR rows)]) C
theorem ok_whole_rows {P : Program} {w : World} {K : PySem.W.Frag} {tt : List (Addr × Str)} {mg : Str → Option Value} {base : Heap} {f : Addr} {fd : FuncData} (F : FnP K "whole_rows" s_whole_rows f fd) (T : Txt K w mg) (h_common_bottom : HasF P w K tt mg base "common_bottom" ["numbers"] 1 sp_common_bottom) : FnOk P w K mg base (L2.CX P w) 2 f fd ["a"] (SpD K tt sp_whole_rows) := by
  refine body_ok F sc_whole_rows (fun ds C R RX hp => by (obtain ⟨rows, rfl, hs, q⟩ := hp; rfl)) fun cdv A outer s H E G0 ds C R RX B hp => ?_
  obtain ⟨rows, rfl, hs, q⟩ := hp
  refine wss_cons (ws_set 1 ?_ sc_whole_rows.nd)
  refine we_int ?_
  refine wss_cons (ws_forL ?_ B.po)
  refine wi_seq (we_name 0 rfl ?_)
  refine ⟨_, .tup _, ?_⟩
  refine ⟨_, rows, pairsD, fun pre σ' C' => ∃ o1, σ' = [some (.tup (rows.map pairsD)), some (.int (lcmR pre)), o1, none, none] ∧ C' = C, rfl, ?_, fun G1 hG1 pre1 it1 post1 σ' C' hx1 hI => ?_, fun σ' C' hI => ?_⟩
  · exact ⟨_, rfl, rfl⟩
  · obtain ⟨o1, rfl, rfl⟩ := hI
    have hm : it1 ∈ rows := by rw [hx1]; simp
    have hu : Den6 (lcmR pre1) := lcmR_den pre1 1 (.inl rfl) fun r hr => hs.den r (by rw [hx1]; simp [hr])
    have hc := (cbP_den it1 1 (.inl rfl) (hs.den it1 hm)).pos
    have hu1 := hu.pos
    refine wg_name 2 ?_ sc_whole_rows.nd
    refine wss_cons (ws_set 1 ?_ sc_whole_rows.nd)
    refine we_fun T.lcm (wa_cons (we_name 1 rfl (wa_cons (we_call h_common_bottom (B.base hG1).room (by decide) (B.base hG1).tk (wa_cons (we_name 2 rfl (wa_nil ?_)))))))
    refine ⟨_, it1, 6, rfl, .inl rfl, by decide, (by decide : (6 : Int).natAbs < 2 ^ 60), fun p hp => (hs.den it1 hm p hp).dvd6, ?_⟩
    refine wa_nil ?_
    walk_at "fun"
    refine wss_nil ?_
    exact ⟨_, by rw [lcmR_snoc]; rfl, rfl⟩
  obtain ⟨o1, rfl, rfl⟩ := hI
  have hu := (lcmR_den rows 1 (.inl rfl) hs.den).pos
  refine wss_cons (ws_ret (we_tup (wa_cons (we_lc [("row", 2)] [2] (fun _ _ _ _ _ => tgt_one (by decide) sc_whole_rows.nd) sc_whole_rows.nd (blkOk_by (by kernel_rfl)) (wi_seq (we_name 0 rfl ?_))))))
  refine ⟨_, .tup _, ?_⟩
  refine lc_map (rows) (pairsD) (fun r => intsD (r.map fun p => p.1 * (lcmR rows / p.2))) (rfl) (sz (by have := hs.len; omega)) (fun x hx => .one _ _ _) (fun r hx s H cl Cc fp G C' hC => ?_) ?_
  · skip
    have hr := hx
    refine we_lc [("top", 3), ("bottom", 4)] [3, 4] (fun _ _ _ _ _ => tgt_tup2 (by decide) (by decide) sc_whole_rows.nd) sc_whole_rows.nd (blkOk_by (by kernel_rfl)) (wi_seq (we_name 2 rfl ?_))
    refine ⟨_, .tup _, ?_⟩
    refine lc_map (r) (pD) (fun p => .int (p.1 * (lcmR rows / p.2))) (rfl) (sz (by have := hs.wid r hr; omega)) (fun x hx => .tup2 _ _ _ _ _) (fun p hx s H cl Cc fp G C' hC => ?_) ?_
    · skip
      have hd := (hs.den r hr p hx).pos
      have hn := hs.num r hr p hx
      refine we_bin (we_name 3 rfl (we_bin (we_name 1 rfl (we_name 4 rfl ?_))))
      refine ⟨_, .div _ _ hd.1 (log_ok (by omega)), ?_⟩
      refine ⟨_, .mul _ _ (mulL (by omega) (by omega)), ?_⟩
      exact ⟨rfl, rfl⟩
    refine ⟨?_, rfl⟩
    unfold intsD
    rw [List.map_map]
    rfl
  refine wa_cons (we_name 1 rfl (wa_nil ?_))
  refine ⟨by walk_at "tsz", ?_⟩
  unfold wholeR at q
  rw [List.map_map] at q
  exact q
end K60
set_option Elab.async false
set_option linter.all false
set_option maxRecDepth 100000
set_option maxHeartbeats 4000000
namespace K60
open PySem PySem.Spec PyProof.Rows L2 Evl DW
local macro_rules | `(tactic| walk_at "seq") => `(tactic| first | exact .l (.v _) | exact .t _ | exact .r _ | exact .l (.c setC_same) | exact .l (.c (by assumption)))
local macro_rules | `(tactic| walk_at "lin") => `(tactic| first | exact .v _ | exact .c setC_same | exact .c (by assumption))
local macro_rules | `(tactic| walk_at "size") => `(tactic| first | (refine sz ?_; first | omega | (simp only [List.length_map, List.length_range, List.length_append, List.length_cons, List.length_nil, List.length_replicate] at *; omega)) | decide)
local macro_rules | `(tactic| walk_at "mulok") => `(tactic| first | exact mulR (by decide) (by decide) | exact mulL (by decide) (by decide) | assumption | exact mulL (by omega) (by omega) | exact mulR (by omega) (by omega))
local macro_rules | `(tactic| walk_at "op") => `(tactic| first
  | refine ⟨_, .add _ _, ?_⟩
  | refine ⟨_, .sub _ _, ?_⟩
  | refine ⟨_, .mul _ _ (by walk_at "mulok"), ?_⟩
  | refine ⟨_, .mod _ _ (by first | decide | omega | assumption), ?_⟩
  | refine ⟨_, .div _ _ (by first | decide | omega | assumption) (by first | decide | assumption), ?_⟩
  | refine ⟨_, .pow _ _ (by decide), ?_⟩
  | refine ⟨_, .adds _ _ (by walk_at "size"), ?_⟩
  | refine ⟨_, .catT _ _ (by walk_at "size"), ?_⟩
  | refine ⟨_, .cat (by walk_at "lin") (by walk_at "lin") (by walk_at "size"), ?_⟩
  | refine ⟨_, .rep _ (by walk_at "lin") (by first | decide | omega) (by first | decide | omega) (by walk_at "size"), ?_⟩)
local macro_rules | `(tactic| walk_at "cmp") => `(tactic| first
  | refine ⟨_, .lt _ _, ?_⟩ | refine ⟨_, .le _ _, ?_⟩ | refine ⟨_, .gt _ _, ?_⟩ | refine ⟨_, .ge _ _, ?_⟩
  | refine ⟨_, .eqI _ _, ?_⟩ | refine ⟨_, .neI _ _, ?_⟩ | refine ⟨_, .eqS _ _, ?_⟩ | refine ⟨_, .neS _ _, ?_⟩ | refine ⟨_, .eqB _ _, ?_⟩ | refine ⟨_, .neB _ _, ?_⟩
  | refine ⟨_, .isN, ?_⟩ | refine ⟨_, .ntN, ?_⟩ | refine ⟨_, .isC, ?_⟩ | refine ⟨_, .ntC, ?_⟩ | refine ⟨_, .isNo trivial, ?_⟩ | refine ⟨_, .ntNo trivial, ?_⟩)
local macro_rules | `(tactic| walk_at "ix") => `(tactic| first | refine ⟨_, .seq (by walk_at "seq") rfl, ?_⟩)
local macro_rules | `(tactic| walk_at "slc") => `(tactic| first | refine ⟨_, .lst _ _ (by walk_at "lin"), ?_⟩ | refine ⟨_, .tup _ _ _, ?_⟩ | refine ⟨_, .rol _ _ _, ?_⟩ | refine ⟨_, .str _ _ _ (by walk_at "size"), ?_⟩)
local macro_rules | `(tactic| walk_at "blt") => `(tactic| first
  | refine ⟨_, .len (by walk_at "seq"), ?_⟩ | refine ⟨_, .lenS _ (by walk_at "size"), ?_⟩ | refine ⟨_, .abs _, ?_⟩ | refine ⟨_, .max2 _ _ rfl, ?_⟩ | refine ⟨_, .min2 _ _ rfl, ?_⟩
  | refine ⟨_, .int _, ?_⟩ | refine ⟨_, .intB _, ?_⟩ | refine ⟨_, .bool _, ?_⟩ | refine ⟨_, .boolI _, ?_⟩
  | refine ⟨_, .sum _ (by walk_at "lin") rfl, ?_⟩ | refine ⟨_, .all _ (by walk_at "lin") rfl, ?_⟩ | refine ⟨_, .any _ (by walk_at "lin") rfl, ?_⟩
  | refine ⟨_, .list (by walk_at "seq"), ?_⟩ | refine ⟨_, .tuple (by walk_at "lin"), ?_⟩ | refine ⟨_, .tupleT _, ?_⟩)
local macro_rules | `(tactic| walk_at "sub") => `(tactic| (refine ⟨_, _, _, _, rfl, rfl, (by first | exact setC_same | assumption), rfl, ?_⟩; try rw [setC_setC]))
local macro_rules | `(tactic| walk_at "fun") => `(tactic| first | refine ⟨_, .gcd _ _, ?_⟩ | refine ⟨_, .lcm _ _ (by assumption) (by assumption), ?_⟩ | refine ⟨_, .lcm _ _ (by omega) (by omega), ?_⟩ | refine ⟨_, .comb _ _ (by omega) (by omega) (by omega) (by omega), ?_⟩)
local macro_rules | `(tactic| walk_at "sizelt") => `(tactic| first | (refine szlt ?_; first | omega | (simp only [List.length_map, List.length_range, List.length_append, List.length_cons, List.length_nil, List.length_replicate] at *; omega)) | decide)
local macro_rules | `(tactic| walk_at "meth") => `(tactic| first | refine ⟨_, .startswith _ _, ?_⟩ | refine ⟨_, .strip _ _ (by walk_at "size"), ?_⟩ | refine ⟨_, .partition _ _ rfl (by walk_at "size"), ?_⟩ | refine ⟨_, .split _ _ rfl (by walk_at "size"), ?_⟩)
local macro_rules | `(tactic| walk_at "tsz") => `(tactic| first | decide | exact sz (by simp))
local macro_rules | `(tactic| walk_at "jsz") => `(tactic| first | decide | walk_at "size" | (refine sz ?_; simp; omega))
local macro_rules | `(tactic| walk_at "log") => `(tactic| first | assumption | omega)
def diagL (t i : Nat) (v : Int) : List Int := (List.range t).map fun j => if i = j then v else 0
theorem diagL_len {t i : Nat} {v : Int} : (diagL t i v).length = t := by unfold diagL; rw [List.length_map, List.length_range]
theorem diagL_at {t i : Nat} {v : Int} {k : Nat} (h : k < t) : atI ((diagL t i v).map D.int) (k : Int) = some (.int (if i = k then v else 0)) := by
  have h1 : (diagL t i v).map D.int = (List.range t).map fun j => D.int (if i = j then v else 0) := by unfold diagL; rw [List.map_map]; rfl
  rw [h1, atI_map 0 (by omega) (by rw [List.length_range]; omega)]
  have : (List.range t).getD ((k : Int)).toNat 0 = k := by
    rw [Int.toNat_natCast, List.getD_eq_getElem?_getD, List.getElem?_range h]
    rfl
  rw [this]
theorem zip_range {α β : Type} {n : Nat} (f : Nat → α) (g : Nat → β) (h : α → β → D) : List.zipWith h ((List.range n).map f) ((List.range n).map g) = (List.range n).map fun k => h (f k) (g k) := by
  rw [List.zipWith_map, List.zipWith_self]
theorem sc_cleared_line : FnScope ["line", "pivot_line", "at", "last", "pivot", "factor", "x", "y"] ["line", "pivot_line", "at", "last"] (defScope s_cleared_line) := ⟨rfl, rfl, rfl, by decide +kernel, rfl, by decide +kernel, by decide +kernel⟩
def sp_cleared_line : PreD := fun ds C R RX => ∃ (t i k : Nat) (v p last : Int), ds = [intsD (diagL t i v), intsD (diagL t k p), .int (k : Nat), .int last] ∧ t ≤ 1000 ∧ k < t ∧ i ≠ k ∧ 0 < last ∧ last < 1000000000 ∧ -1000000000 < p ∧ p < 1000000000 ∧ R (intsD (diagL t i (v * p / last))) C
theorem ok_cleared_line {P : Program} {w : World} {K : PySem.W.Frag} {tt : List (Addr × Str)} {mg : Str → Option Value} {base : Heap} {f : Addr} {fd : FuncData} (F : FnP K "cleared_line" s_cleared_line f fd) (T : Txt K w mg) : FnOk P w K mg base (L2.CX P w) 1 f fd ["line", "pivot_line", "at", "last"] (SpD K tt sp_cleared_line) := by
  refine body_ok F sc_cleared_line (fun ds C R RX hp => by (obtain ⟨t, i, k, v, p, last, rfl, ht, hk, hik, h0, hl, hp1, hp2, q⟩ := hp; rfl)) fun cdv A outer s H E G0 ds C R RX B hp => ?_
  obtain ⟨t, i, k, v, p, last, rfl, ht, hk, hik, h0, hl, hp1, hp2, q⟩ := hp
  refine wss_cons (ws_asg (we_tup (wa_cons (we_ix (we_name 1 rfl (we_name 2 rfl ?_))))))
  refine ⟨_, .seq (.l (.v _)) (diagL_at hk), ?_⟩
  refine wa_cons (we_ix (we_name 0 rfl (we_name 2 rfl ?_)))
  refine ⟨_, .seq (.l (.v _)) (diagL_at hk), ?_⟩
  rw [if_pos rfl, if_neg hik]
  refine wa_nil ?_
  refine ⟨by walk_at "tsz", ?_⟩
  refine wg_tup rfl rfl ?_
  refine ⟨_, _, rfl, wg_name 4 ?_ sc_cleared_line.nd⟩
  refine ⟨_, _, rfl, wg_name 5 ?_ sc_cleared_line.nd⟩
  refine ⟨rfl, ?_⟩
  refine wss_cons (ws_ret (we_lc [("x", 6), ("y", 7)] [6, 7] (fun _ _ _ _ _ => tgt_tup2 (by decide) (by decide) sc_cleared_line.nd) sc_cleared_line.nd (blkOk_by (by kernel_rfl)) (wi_zip T.zip (wa_cons (we_name 0 rfl (wa_cons (we_name 1 rfl (wa_nil ?_))))))))
  refine ⟨_, _, _, _, rfl, .lst _, .lst _, ?_⟩
  refine lc_map (List.range t) (fun j => pairD (.int (if i = j then v else 0)) (.int (if k = j then p else 0))) (fun j => .int (if i = j then v * p / last else 0)) (by unfold diagL; rw [List.map_map, List.map_map]; exact zip_range _ _ _) (sz (by rw [List.length_range]; omega)) (fun x hx => .tup2 _ _ _ _ _) (fun j hx s H cl Cc fp G C' hC => ?_) ?_
  · skip
    refine we_bin (we_bin (we_bin (we_name 6 rfl (we_name 4 rfl ?_))))
    refine ⟨_, .mul _ _ (mulR (by omega) (by omega)), ?_⟩
    refine we_bin (we_name 5 rfl (we_name 7 rfl ?_))
    refine ⟨_, .mul _ _ (mulL (by decide) (by decide)), ?_⟩
    walk_at "op"
    refine we_name 3 rfl ?_
    refine ⟨_, .div _ _ h0 (log_ok (by omega)), ?_⟩
    refine ⟨?_, rfl⟩
    rw [Int.zero_mul, Int.sub_zero]
    split
    · rfl
    · rw [Int.zero_mul, Int.zero_ediv]
  unfold intsD diagL at q
  rw [List.map_map] at q
  exact q
end K60
set_option Elab.async false
set_option linter.all false
set_option maxRecDepth 100000
set_option maxHeartbeats 4000000
namespace K60
open PySem PySem.Spec PyProof.Rows L2 Evl DW
local macro_rules | `(tactic| walk_at "seq") => `(tactic| first | exact .l (.v _) | exact .t _ | exact .r _ | exact .l (.c setC_same) | exact .l (.c (by assumption)))
local macro_rules | `(tactic| walk_at "lin") => `(tactic| first | exact .v _ | exact .c setC_same | exact .c (by assumption))
local macro_rules | `(tactic| walk_at "size") => `(tactic| first | (refine sz ?_; first | omega | (simp only [List.length_map, List.length_range, List.length_append, List.length_cons, List.length_nil, List.length_replicate] at *; omega)) | decide)
local macro_rules | `(tactic| walk_at "mulok") => `(tactic| first | exact mulR (by decide) (by decide) | exact mulL (by decide) (by decide) | assumption | exact mulL (by omega) (by omega) | exact mulR (by omega) (by omega))
local macro_rules | `(tactic| walk_at "op") => `(tactic| first
  | refine ⟨_, .add _ _, ?_⟩
  | refine ⟨_, .sub _ _, ?_⟩
  | refine ⟨_, .mul _ _ (by walk_at "mulok"), ?_⟩
  | refine ⟨_, .mod _ _ (by first | decide | omega | assumption), ?_⟩
  | refine ⟨_, .div _ _ (by first | decide | omega | assumption) (by first | decide | assumption), ?_⟩
  | refine ⟨_, .pow _ _ (by decide), ?_⟩
  | refine ⟨_, .adds _ _ (by walk_at "size"), ?_⟩
  | refine ⟨_, .catT _ _ (by walk_at "size"), ?_⟩
  | refine ⟨_, .cat (by walk_at "lin") (by walk_at "lin") (by walk_at "size"), ?_⟩
  | refine ⟨_, .rep _ (by walk_at "lin") (by first | decide | omega) (by first | decide | omega) (by walk_at "size"), ?_⟩)
local macro_rules | `(tactic| walk_at "cmp") => `(tactic| first
  | refine ⟨_, .lt _ _, ?_⟩ | refine ⟨_, .le _ _, ?_⟩ | refine ⟨_, .gt _ _, ?_⟩ | refine ⟨_, .ge _ _, ?_⟩
  | refine ⟨_, .eqI _ _, ?_⟩ | refine ⟨_, .neI _ _, ?_⟩ | refine ⟨_, .eqS _ _, ?_⟩ | refine ⟨_, .neS _ _, ?_⟩ | refine ⟨_, .eqB _ _, ?_⟩ | refine ⟨_, .neB _ _, ?_⟩
  | refine ⟨_, .isN, ?_⟩ | refine ⟨_, .ntN, ?_⟩ | refine ⟨_, .isC, ?_⟩ | refine ⟨_, .ntC, ?_⟩ | refine ⟨_, .isNo trivial, ?_⟩ | refine ⟨_, .ntNo trivial, ?_⟩)
local macro_rules | `(tactic| walk_at "ix") => `(tactic| first | refine ⟨_, .seq (by walk_at "seq") rfl, ?_⟩)
local macro_rules | `(tactic| walk_at "slc") => `(tactic| first | refine ⟨_, .lst _ _ (by walk_at "lin"), ?_⟩ | refine ⟨_, .tup _ _ _, ?_⟩ | refine ⟨_, .rol _ _ _, ?_⟩ | refine ⟨_, .str _ _ _ (by walk_at "size"), ?_⟩)
local macro_rules | `(tactic| walk_at "blt") => `(tactic| first
  | refine ⟨_, .len (by walk_at "seq"), ?_⟩ | refine ⟨_, .lenS _ (by walk_at "size"), ?_⟩ | refine ⟨_, .abs _, ?_⟩ | refine ⟨_, .max2 _ _ rfl, ?_⟩ | refine ⟨_, .min2 _ _ rfl, ?_⟩
  | refine ⟨_, .int _, ?_⟩ | refine ⟨_, .intB _, ?_⟩ | refine ⟨_, .bool _, ?_⟩ | refine ⟨_, .boolI _, ?_⟩
  | refine ⟨_, .sum _ (by walk_at "lin") rfl, ?_⟩ | refine ⟨_, .all _ (by walk_at "lin") rfl, ?_⟩ | refine ⟨_, .any _ (by walk_at "lin") rfl, ?_⟩
  | refine ⟨_, .list (by walk_at "seq"), ?_⟩ | refine ⟨_, .tuple (by walk_at "lin"), ?_⟩ | refine ⟨_, .tupleT _, ?_⟩)
local macro_rules | `(tactic| walk_at "sub") => `(tactic| (refine ⟨_, _, _, _, rfl, rfl, (by first | exact setC_same | assumption), rfl, ?_⟩; try rw [setC_setC]))
local macro_rules | `(tactic| walk_at "fun") => `(tactic| first | refine ⟨_, .gcd _ _, ?_⟩ | refine ⟨_, .lcm _ _ (by assumption) (by assumption), ?_⟩ | refine ⟨_, .lcm _ _ (by omega) (by omega), ?_⟩ | refine ⟨_, .comb _ _ (by omega) (by omega) (by omega) (by omega), ?_⟩)
local macro_rules | `(tactic| walk_at "sizelt") => `(tactic| first | (refine szlt ?_; first | omega | (simp only [List.length_map, List.length_range, List.length_append, List.length_cons, List.length_nil, List.length_replicate] at *; omega)) | decide)
local macro_rules | `(tactic| walk_at "meth") => `(tactic| first | refine ⟨_, .startswith _ _, ?_⟩ | refine ⟨_, .strip _ _ (by walk_at "size"), ?_⟩ | refine ⟨_, .partition _ _ rfl (by walk_at "size"), ?_⟩ | refine ⟨_, .split _ _ rfl (by walk_at "size"), ?_⟩)
local macro_rules | `(tactic| walk_at "tsz") => `(tactic| first | decide | exact sz (by simp))
local macro_rules | `(tactic| walk_at "jsz") => `(tactic| first | decide | walk_at "size" | (refine sz ?_; simp; omega))
local macro_rules | `(tactic| walk_at "log") => `(tactic| first | assumption | omega)
def PP (c : Nat → Int) : Nat → Int
  | 0 => 1
  | k + 1 => PP c k * (2 * c k)
theorem PP_ok {c : Nat → Int} {t : Nat} (ht : t ≤ 4) (hc : ∀ i, i < t → 0 < c i ∧ c i ≤ 30) : ∀ k, k ≤ t → 0 < PP c k ∧ PP c k ≤ 60 ^ k := by
  intro k
  induction k with
  | zero => intro _; exact ⟨(by decide : (0 : Int) < 1), (by decide : (1 : Int) ≤ 60 ^ 0)⟩
  | succ k ih =>
    intro hk
    obtain ⟨h1, h2⟩ := ih (by omega)
    obtain ⟨h3, h4⟩ := hc k (by omega)
    refine ⟨Int.mul_pos h1 (by omega), ?_⟩
    show PP c k * (2 * c k) ≤ 60 ^ (k + 1)
    rw [Int.pow_succ]
    exact Int.mul_le_mul h2 (by omega) (by omega) (Int.le_trans (Int.le_of_lt h1) h2)
theorem PP_bd {c : Nat → Int} {t : Nat} (ht : t ≤ 4) (hc : ∀ i, i < t → 0 < c i ∧ c i ≤ 30) {k : Nat} (hk : k ≤ t) : 0 < PP c k ∧ PP c k ≤ 12960000 := by
  obtain ⟨h1, h2⟩ := PP_ok ht hc k hk
  refine ⟨h1, Int.le_trans h2 ?_⟩
  have h5 : k = 0 ∨ k = 1 ∨ k = 2 ∨ k = 3 ∨ k = 4 := by omega
  rcases h5 with rfl | rfl | rfl | rfl | rfl <;> decide
def rowsK (c : Nat → Int) (t k : Nat) : List D := (List.range t).map fun i => intsD (diagL t i (2 * c i * PP c (min i k)))
theorem rowsK_len {c : Nat → Int} {t k : Nat} : (rowsK c t k).length = t := by unfold rowsK; rw [List.length_map, List.length_range]
theorem rowsK_at {c : Nat → Int} {t k i : Nat} (h : i < t) : atI (rowsK c t k) (i : Int) = some (intsD (diagL t i (2 * c i * PP c (min i k)))) := by
  unfold rowsK
  rw [atI_map 0 (by omega) (by rw [List.length_range]; omega)]
  have : (List.range t).getD ((i : Int)).toNat 0 = i := by
    rw [Int.toNat_natCast, List.getD_eq_getElem?_getD, List.getElem?_range h]
    rfl
  rw [this]
theorem rows0_at {c : Nat → Int} {t i : Nat} (h : i < t) : atI (((List.range t).map fun i => diagL t i (c i)).map intsD) (i : Int) = some (intsD (diagL t i (c i))) := by
  rw [List.map_map, atI_map 0 (by omega) (by rw [List.length_range]; omega)]
  have : (List.range t).getD ((i : Int)).toNat 0 = i := by
    rw [Int.toNat_natCast, List.getD_eq_getElem?_getD, List.getElem?_range h]
    rfl
  rw [this]
  rfl
theorem cut_take {xs : List D} {n : Nat} (h : n ≤ xs.length) : DW.cutD xs none (some ((n : Nat) : Int)) = xs.take n := by
  unfold DW.cutD
  rw [HT.sIx_none, HT.sIx_nat, Nat.min_eq_left h, List.drop_zero, Nat.sub_zero]
theorem cut_drop {xs : List D} {n : Nat} (h : n ≤ xs.length) : DW.cutD xs (some ((n : Nat) : Int)) none = xs.drop n := by
  unfold DW.cutD
  rw [HT.sIx_none, HT.sIx_nat, Nat.min_eq_left h]
  exact List.take_of_length_le (by rw [List.length_drop]; exact Nat.le_refl _)
theorem mem_drop_range {t k i : Nat} (h : i ∈ (List.range t).drop k) : k ≤ i ∧ i < t := by
  obtain ⟨n, hn, e⟩ := List.mem_iff_getElem.mp h
  rw [List.getElem_drop, List.getElem_range] at e
  simp at hn
  omega
theorem mem_take_range {t k i : Nat} (h : i ∈ (List.range t).take k) : i < k := by
  obtain ⟨n, hn, e⟩ := List.mem_iff_getElem.mp h
  rw [List.getElem_take, List.getElem_range] at e
  simp at hn
  omega
theorem rowsK_step {c : Nat → Int} {t k : Nat} : (rowsK c t k).take (k + 1) ++ ((List.range t).drop (k + 1)).map (fun i => intsD (diagL t i (2 * c i * PP c (min i (k + 1))))) = rowsK c t (k + 1) := by
  have h : rowsK c t (k + 1) = ((List.range t).take (k + 1)).map (fun i => intsD (diagL t i (2 * c i * PP c (min i (k + 1))))) ++ ((List.range t).drop (k + 1)).map (fun i => intsD (diagL t i (2 * c i * PP c (min i (k + 1))))) := by
    rw [← List.map_append, List.take_append_drop]
    rfl
  rw [h]
  congr 1
  unfold rowsK
  rw [← List.map_take]
  refine List.map_congr_left fun i hi => ?_
  have := mem_take_range hi
  rw [Nat.min_eq_left (by omega), Nat.min_eq_left (by omega)]
theorem sc_mat_firm : FnScope ["a", "rows", "under", "size", "j", "i", "last", "at", "pivot_line", "line"] ["a"] (defScope s_mat_firm) := ⟨rfl, rfl, rfl, by decide +kernel, rfl, by decide +kernel, by decide +kernel⟩
def sp_mat_firm : PreD := fun ds C R RX => ∃ (rows : List (List (Int × Int))) (t : Nat) (c : Nat → Int), ds = [.tup (rows.map pairsD)] ∧ SmallR rows ∧ t ≤ 4 ∧ wholeR rows = ((List.range t).map fun i => diagL t i (c i)) ∧ (∀ i, i < t → 0 < c i ∧ c i ≤ 30) ∧ R (.bl true) C
theorem ok_mat_firm {P : Program} {w : World} {K : PySem.W.Frag} {tt : List (Addr × Str)} {mg : Str → Option Value} {base : Heap} {f : Addr} {fd : FuncData} (F : FnP K "mat_firm" s_mat_firm f fd) (T : Txt K w mg) (h_whole_rows : HasF P w K tt mg base "whole_rows" ["a"] 2 sp_whole_rows) (h_cleared_line : HasF P w K tt mg base "cleared_line" ["line", "pivot_line", "at", "last"] 1 sp_cleared_line) : FnOk P w K mg base (L2.CX P w) 3 f fd ["a"] (SpD K tt sp_mat_firm) := by
  refine body_ok F sc_mat_firm (fun ds C R RX hp => by (obtain ⟨rows, t, c, rfl, hs, ht, hw, hc, q⟩ := hp; rfl)) fun cdv A outer s H E G0 ds C R RX B hp => ?_
  obtain ⟨rows, t, c, rfl, hs, ht, hw, hc, q⟩ := hp
  refine wss_cons (ws_asg (we_call h_whole_rows B.room (by decide) B.tk (wa_cons (we_name 0 rfl (wa_nil ?_)))))
  refine ⟨_, rfl, hs, ?_⟩
  rw [hw]
  refine wg_tup rfl rfl ?_
  refine ⟨_, _, rfl, wg_name 1 ?_ sc_mat_firm.nd⟩
  refine ⟨_, _, rfl, wg_name 2 ?_ sc_mat_firm.nd⟩
  refine ⟨rfl, ?_⟩
  refine wss_cons (ws_set 3 ?_ sc_mat_firm.nd)
  refine we_blt (id := "len") T.len (wa_cons (we_name 1 rfl (wa_nil ?_)))
  refine ⟨_, .len (.l (.v _)), ?_⟩
  rw [List.length_map, List.length_map, List.length_range]
  refine wss_cons (ws_set 1 ?_ sc_mat_firm.nd)
  refine we_lc [("i", 5)] [5] (fun _ _ _ _ _ => tgt_one (by decide) sc_mat_firm.nd) sc_mat_firm.nd (blkOk_by (by kernel_rfl)) (wi_range1 T.range (wa_cons (we_name 3 rfl (wa_nil ?_))))
  refine ⟨_, rfl, ⟨by omega, by omega⟩, ?_⟩
  rw [Int.toNat_natCast, rangeD0]
  refine lc_map (List.range t) (fun i => D.int (i : Nat)) (fun i => intsD (diagL t i (2 * c i))) (rfl) (sz (by rw [List.length_range]; omega)) (fun x hx => .one _ _ _) (fun i hx s H cl Cc fp G C' hC => ?_) ?_
  · skip
    have hi : i < t := List.mem_range.mp hx
    refine we_lc [("j", 4)] [4] (fun _ _ _ _ _ => tgt_one (by decide) sc_mat_firm.nd) sc_mat_firm.nd (blkOk_by (by kernel_rfl)) (wi_range1 T.range (wa_cons (we_name 3 rfl (wa_nil ?_))))
    refine ⟨_, rfl, ⟨by omega, by omega⟩, ?_⟩
    rw [Int.toNat_natCast, rangeD0]
    refine lc_map (List.range t) (fun i => D.int (i : Nat)) (fun j => .int (if i = j then 2 * c i else 0)) (rfl) (sz (by rw [List.length_range]; omega)) (fun x hx => .one _ _ _) (fun j hx s H cl Cc fp G C' hC => ?_) ?_
    · skip
      have hj : j < t := List.mem_range.mp hx
      refine we_bin (we_ix (we_ix (we_name 1 rfl (we_name 5 rfl ?_))))
      refine ⟨_, .seq (.l (.v _)) (rows0_at hi), ?_⟩
      refine we_name 4 rfl ?_
      refine ⟨_, .seq (.l (.v _)) (diagL_at hj), ?_⟩
      refine we_ix (we_ix (we_name 1 rfl (we_name 4 rfl ?_)))
      refine ⟨_, .seq (.l (.v _)) (rows0_at hj), ?_⟩
      refine we_name 5 rfl ?_
      refine ⟨_, .seq (.l (.v _)) (diagL_at hi), ?_⟩
      walk_at "op"
      refine ⟨?_, rfl⟩
      by_cases h : i = j
      · subst h
        simp
        omega
      · rw [if_neg h, if_neg (Ne.symm h), if_neg h]
        rfl
    refine ⟨?_, rfl⟩
    unfold intsD diagL
    rw [List.map_map]
    rfl
  refine wss_cons (ws_set 6 ?_ sc_mat_firm.nd)
  refine we_int ?_
  refine wss_cons (ws_forL ?_ B.po)
  refine wi_range1 T.range (wa_cons (we_name 3 rfl (wa_nil ?_)))
  refine ⟨_, rfl, ⟨by omega, by omega⟩, ?_⟩
  rw [Int.toNat_natCast, rangeD0]
  refine ⟨_, List.range t, fun i => D.int (i : Nat), fun pre σ' C' => ∃ o7 o8, σ' = [some (.tup (rows.map pairsD)), some (.lst (rowsK c t pre.length)), some (.int (lcmR rows)), some (.int (t : Nat)), none, none, some (.int (PP c pre.length)), o7, o8, none] ∧ C' = C, rfl, ?_, fun G1 hG1 pre1 it1 post1 σ' C' hx1 hI => ?_, fun σ' C' hI => ?_⟩
  · have e : rowsK c t 0 = (List.range t).map fun i => intsD (diagL t i (2 * c i)) := by
      unfold rowsK
      refine List.map_congr_left fun i _ => ?_
      rw [Nat.min_zero]
      show intsD (diagL t i (2 * c i * 1)) = _
      rw [Int.mul_one]
    refine ⟨none, none, ?_, rfl⟩
    show _ = ([_, some (D.lst (rowsK c t 0)), _, _, _, _, _, _, _, _] : Sl)
    rw [e]
    rfl
  · obtain ⟨o7, o8, rfl, rfl⟩ := hI
    obtain ⟨ei, hlt⟩ := range_split hx1
    subst ei
    have hP := PP_bd ht hc (k := pre1.length) (by omega)
    have hP1 := PP_bd ht hc (k := pre1.length + 1) (by omega)
    have hck := hc pre1.length hlt
    refine wg_name 7 ?_ sc_mat_firm.nd
    refine wss_cons (ws_set 8 ?_ sc_mat_firm.nd)
    refine we_ix (we_name 1 rfl (we_name 7 rfl ?_))
    refine ⟨intsD (diagL t pre1.length (PP c (pre1.length + 1))), .seq (.l (.v _)) (by rw [rowsK_at hlt, Nat.min_self, Int.mul_comm]; rfl), ?_⟩
    refine wss_cons (ws_if (wt_cmp (we_ix (we_name 8 rfl (we_name 7 rfl ?_)))))
    refine ⟨.int (PP c (pre1.length + 1)), .seq (.l (.v _)) (by rw [diagL_at hlt, if_pos rfl]), ?_⟩
    refine we_int ?_
    walk_at "cmp"
    refine ⟨fun hif1 => ?_, fun hif1 => ?_⟩
    · try replace hif1 := of_decide_eq_true hif1
      exact absurd hif1 (by omega)
    try replace hif1 := of_decide_eq_false hif1
    refine wss_nil ?_
    refine wss_cons (ws_set 1 ?_ sc_mat_firm.nd)
    refine we_bin (we_slice (we_name 1 rfl (we_bin (we_name 7 rfl (we_int ?_)))))
    walk_at "op"
    refine ⟨_, rfl, ?_⟩
    refine ⟨_, .lst _ _ (.v _), ?_⟩
    rw [show ((pre1.length : Nat) : Int) + 1 = ((pre1.length + 1 : Nat) : Int) by omega, cut_take (by rw [rowsK_len]; omega)]
    refine we_lc [("line", 9)] [9] (fun _ _ _ _ _ => tgt_one (by decide) sc_mat_firm.nd) sc_mat_firm.nd (blkOk_by (by kernel_rfl)) (wi_seq (we_slice (we_name 1 rfl (we_bin (we_name 7 rfl (we_int ?_))))))
    walk_at "op"
    refine ⟨_, rfl, ?_⟩
    refine ⟨_, .lst _ _ (.v _), ?_⟩
    rw [show ((pre1.length : Nat) : Int) + 1 = ((pre1.length + 1 : Nat) : Int) by omega, cut_drop (by rw [rowsK_len]; omega)]
    refine ⟨_, .lst _, ?_⟩
    refine lc_map ((List.range t).drop (pre1.length + 1)) (fun i => intsD (diagL t i (2 * c i * PP c (min i pre1.length)))) (fun i => intsD (diagL t i (2 * c i * PP c (min i (pre1.length + 1))))) (by unfold rowsK; rw [List.map_drop]) (sz (by rw [List.length_drop, List.length_range]; omega)) (fun x hx => .one _ _ _) (fun i hx s H cl Cc fp G C' hC => ?_) ?_
    · skip
      have hi := mem_drop_range hx
      refine we_call h_cleared_line (blkB (B.base hG1)).room (by decide) (blkB (B.base hG1)).tk (wa_cons (we_name 9 rfl (wa_cons (we_name 8 rfl (wa_cons (we_name 7 rfl (wa_cons (we_name 6 rfl (wa_nil ?_)))))))))
      refine ⟨t, i, pre1.length, 2 * c i * PP c (min i pre1.length), _, _, rfl, by omega, hlt, by omega, hP.1, by omega, by omega, by omega, ?_, rfl⟩
      rw [Nat.min_eq_right (by omega), Nat.min_eq_right (by omega), Int.mul_assoc, Int.mul_comm (PP c pre1.length), ← Int.mul_assoc, Int.mul_ediv_cancel _ (by omega)]
    refine ⟨_, .cat (.v _) (.v _) (sz (by rw [List.length_take, rowsK_len, List.length_map, List.length_drop, List.length_range]; omega)), ?_⟩
    rw [rowsK_step]
    refine wss_cons (ws_set 6 ?_ sc_mat_firm.nd)
    refine we_ix (we_name 8 rfl (we_name 7 rfl ?_))
    refine ⟨.int (PP c (pre1.length + 1)), .seq (.l (.v _)) (by rw [diagL_at hlt, if_pos rfl]), ?_⟩
    refine wss_nil ?_
    refine ⟨some (.int (pre1.length : Nat)), some (intsD (diagL t pre1.length (PP c (pre1.length + 1)))), ?_, rfl⟩
    rw [List.length_append, List.length_singleton]
    rfl
  obtain ⟨o7, o8, rfl, rfl⟩ := hI
  refine wss_cons (ws_ret (we_bl ?_))
  exact q
end K60
set_option Elab.async false
set_option linter.all false
set_option maxRecDepth 100000
set_option maxHeartbeats 4000000
namespace K60
open PySem PySem.Spec PyProof.Rows L2 Evl DW
local macro_rules | `(tactic| walk_at "seq") => `(tactic| first | exact .l (.v _) | exact .t _ | exact .r _ | exact .l (.c setC_same) | exact .l (.c (by assumption)))
local macro_rules | `(tactic| walk_at "lin") => `(tactic| first | exact .v _ | exact .c setC_same | exact .c (by assumption))
local macro_rules | `(tactic| walk_at "size") => `(tactic| first | (refine sz ?_; first | omega | (simp only [List.length_map, List.length_range, List.length_append, List.length_cons, List.length_nil, List.length_replicate] at *; omega)) | decide)
local macro_rules | `(tactic| walk_at "mulok") => `(tactic| first | exact mulR (by decide) (by decide) | exact mulL (by decide) (by decide) | assumption | exact mulL (by omega) (by omega) | exact mulR (by omega) (by omega))
local macro_rules | `(tactic| walk_at "op") => `(tactic| first
  | refine ⟨_, .add _ _, ?_⟩
  | refine ⟨_, .sub _ _, ?_⟩
  | refine ⟨_, .mul _ _ (by walk_at "mulok"), ?_⟩
  | refine ⟨_, .mod _ _ (by first | decide | omega | assumption), ?_⟩
  | refine ⟨_, .div _ _ (by first | decide | omega | assumption) (by first | decide | assumption), ?_⟩
  | refine ⟨_, .pow _ _ (by decide), ?_⟩
  | refine ⟨_, .adds _ _ (by walk_at "size"), ?_⟩
  | refine ⟨_, .catT _ _ (by walk_at "size"), ?_⟩
  | refine ⟨_, .cat (by walk_at "lin") (by walk_at "lin") (by walk_at "size"), ?_⟩
  | refine ⟨_, .rep _ (by walk_at "lin") (by first | decide | omega) (by first | decide | omega) (by walk_at "size"), ?_⟩)
local macro_rules | `(tactic| walk_at "cmp") => `(tactic| first
  | refine ⟨_, .lt _ _, ?_⟩ | refine ⟨_, .le _ _, ?_⟩ | refine ⟨_, .gt _ _, ?_⟩ | refine ⟨_, .ge _ _, ?_⟩
  | refine ⟨_, .eqI _ _, ?_⟩ | refine ⟨_, .neI _ _, ?_⟩ | refine ⟨_, .eqS _ _, ?_⟩ | refine ⟨_, .neS _ _, ?_⟩ | refine ⟨_, .eqB _ _, ?_⟩ | refine ⟨_, .neB _ _, ?_⟩
  | refine ⟨_, .isN, ?_⟩ | refine ⟨_, .ntN, ?_⟩ | refine ⟨_, .isC, ?_⟩ | refine ⟨_, .ntC, ?_⟩ | refine ⟨_, .isNo trivial, ?_⟩ | refine ⟨_, .ntNo trivial, ?_⟩)
local macro_rules | `(tactic| walk_at "ix") => `(tactic| first | refine ⟨_, .seq (by walk_at "seq") rfl, ?_⟩)
local macro_rules | `(tactic| walk_at "slc") => `(tactic| first | refine ⟨_, .lst _ _ (by walk_at "lin"), ?_⟩ | refine ⟨_, .tup _ _ _, ?_⟩ | refine ⟨_, .rol _ _ _, ?_⟩ | refine ⟨_, .str _ _ _ (by walk_at "size"), ?_⟩)
local macro_rules | `(tactic| walk_at "blt") => `(tactic| first
  | refine ⟨_, .len (by walk_at "seq"), ?_⟩ | refine ⟨_, .lenS _ (by walk_at "size"), ?_⟩ | refine ⟨_, .abs _, ?_⟩ | refine ⟨_, .max2 _ _ rfl, ?_⟩ | refine ⟨_, .min2 _ _ rfl, ?_⟩
  | refine ⟨_, .int _, ?_⟩ | refine ⟨_, .intB _, ?_⟩ | refine ⟨_, .bool _, ?_⟩ | refine ⟨_, .boolI _, ?_⟩
  | refine ⟨_, .sum _ (by walk_at "lin") rfl, ?_⟩ | refine ⟨_, .all _ (by walk_at "lin") rfl, ?_⟩ | refine ⟨_, .any _ (by walk_at "lin") rfl, ?_⟩
  | refine ⟨_, .list (by walk_at "seq"), ?_⟩ | refine ⟨_, .tuple (by walk_at "lin"), ?_⟩ | refine ⟨_, .tupleT _, ?_⟩)
local macro_rules | `(tactic| walk_at "sub") => `(tactic| (refine ⟨_, _, _, _, rfl, rfl, (by first | exact setC_same | assumption), rfl, ?_⟩; try rw [setC_setC]))
local macro_rules | `(tactic| walk_at "fun") => `(tactic| first | refine ⟨_, .gcd _ _, ?_⟩ | refine ⟨_, .lcm _ _ (by assumption) (by assumption), ?_⟩ | refine ⟨_, .lcm _ _ (by omega) (by omega), ?_⟩ | refine ⟨_, .comb _ _ (by omega) (by omega) (by omega) (by omega), ?_⟩)
local macro_rules | `(tactic| walk_at "sizelt") => `(tactic| first | (refine szlt ?_; first | omega | (simp only [List.length_map, List.length_range, List.length_append, List.length_cons, List.length_nil, List.length_replicate] at *; omega)) | decide)
local macro_rules | `(tactic| walk_at "meth") => `(tactic| first | refine ⟨_, .startswith _ _, ?_⟩ | refine ⟨_, .strip _ _ (by walk_at "size"), ?_⟩ | refine ⟨_, .partition _ _ rfl (by walk_at "size"), ?_⟩ | refine ⟨_, .split _ _ rfl (by walk_at "size"), ?_⟩)
local macro_rules | `(tactic| walk_at "tsz") => `(tactic| first | decide | exact sz (by simp))
local macro_rules | `(tactic| walk_at "jsz") => `(tactic| first | decide | walk_at "size" | (refine sz ?_; simp; omega))
local macro_rules | `(tactic| walk_at "log") => `(tactic| first | assumption | omega)
theorem atI_int {xs : List Int} {i : Nat} (h : i < xs.length) : atI (xs.map D.int) (i : Int) = some (.int (xs.getD i 0)) := by
  rw [atI_map 0 (by omega) (by omega), Int.toNat_natCast]
theorem enum_int {xs : List Int} : enumD (xs.map D.int) = (List.range xs.length).map fun i => pairD (.int (i : Nat)) (.int (xs.getD i 0)) := by
  unfold enumD
  rw [List.length_map]
  refine List.map_congr_left fun i hi => ?_
  rw [getD_map (d := (0 : Int)) (List.mem_range.mp hi)]
def fpN : List Int → Nat
  | [] => 0
  | x :: r => if x = 0 then fpN r + 1 else 0
theorem fpN_le : ∀ xs : List Int, fpN xs ≤ xs.length
  | [] => Nat.le_refl _
  | x :: r => by
    unfold fpN
    have := fpN_le r
    split <;> simp <;> omega
theorem fpN_spec : ∀ (xs : List Int) (i : Nat), i < xs.length → (∀ j, j < i → xs.getD j 0 = 0) → xs.getD i 0 ≠ 0 → fpN xs = i
  | [], i, h, _, _ => absurd h (by simp)
  | x :: r, 0, _, _, h0 => by
    unfold fpN
    rw [if_neg (by simpa using h0)]
  | x :: r, i + 1, h, hz, h0 => by
    unfold fpN
    have hx : x = 0 := by simpa using hz 0 (by omega)
    rw [if_pos hx, fpN_spec r i (by simpa using h) (fun j hj => by simpa using hz (j + 1) (by omega)) (by simpa using h0)]
theorem fpN_all : ∀ (xs : List Int), (∀ j, j < xs.length → xs.getD j 0 = 0) → fpN xs = xs.length
  | [], _ => rfl
  | x :: r, h => by
    unfold fpN
    have hx : x = 0 := by simpa using h 0 (by simp)
    rw [if_pos hx, fpN_all r fun j hj => by simpa using h (j + 1) (by simpa using hj)]
    rfl
theorem fpN_ne : ∀ (xs : List Int), fpN xs < xs.length → xs.getD (fpN xs) 0 ≠ 0
  | [], h => absurd h (by simp)
  | x :: r, h => by
    unfold fpN at h ⊢
    split at h
    · rename_i hx
      rw [if_pos hx]
      simpa using fpN_ne r (by simpa using h)
    · rename_i hx
      rw [if_neg hx]
      simpa using hx
def gR (row : List Int) (c : Nat := 0) : Nat := row.foldl (fun c n => Nat.gcd c n.natAbs) c
theorem gR_dvd : ∀ (row : List Int) (c : Nat), gR row c ∣ c ∧ ∀ v ∈ row, ((gR row c : Nat) : Int) ∣ v
  | [], c => ⟨Nat.dvd_refl _, fun v h => by simp at h⟩
  | x :: r, c => by
    obtain ⟨h1, h2⟩ := gR_dvd r (Nat.gcd c x.natAbs)
    refine ⟨Nat.dvd_trans h1 (Nat.gcd_dvd_left _ _), fun v hv => ?_⟩
    rcases List.mem_cons.mp hv with rfl | hv
    · exact Int.ofNat_dvd_left.mpr (Nat.dvd_trans h1 (Nat.gcd_dvd_right _ _))
    · exact h2 v hv
theorem gR_one : ∀ row : List Int, gR row 1 = 1
  | [] => rfl
  | x :: r => by
    show gR r (Nat.gcd 1 x.natAbs) = 1
    rw [Nat.gcd_one_left]
    exact gR_one r
theorem gR_app (a b : List Int) (c : Nat) : gR (a ++ b) c = gR b (gR a c) := List.foldl_append
def shD (row : List Int) : Int := if row.getD (fpN row) 0 < 0 then -((gR row : Nat) : Int) else ((gR row : Nat) : Int)
def shF (row : List Int) : List Int := if fpN row < row.length then row.map (fun v => v.fdiv (shD row)) else row
def lI (xs : List Int) : D := .lst (xs.map D.int)
theorem sc_whole_row : FnScope ["row", "under", "top", "bottom"] ["row"] (defScope s_whole_row) := ⟨rfl, rfl, rfl, by decide +kernel, rfl, by decide +kernel, by decide +kernel⟩
theorem ediv_bd {k : Nat} {a b : Int} (h : Bd k a) : Bd k (a / b) := by
  unfold Bd at *
  exact Nat.lt_of_le_of_lt (Int.natAbs_ediv_le_natAbs a b) h
def sp_whole_row : PreD := fun ds C R RX => ∃ (ps : List (Int × Int)) (m : Int), ds = [.tup (ps.map pD)] ∧ ps.length ≤ 1000 ∧ 0 < m ∧ Bd 60 m ∧ (∀ p ∈ ps, 0 < p.2 ∧ p.2 ∣ m) ∧ (∀ p ∈ ps, Bd 60 p.1) ∧ R (lI (ps.map fun p => p.1 * (cbP ps / p.2))) C
theorem ok_whole_row {P : Program} {w : World} {K : PySem.W.Frag} {tt : List (Addr × Str)} {mg : Str → Option Value} {base : Heap} {f : Addr} {fd : FuncData} (F : FnP K "whole_row" s_whole_row f fd) (T : Txt K w mg) (h_common_bottom : HasF P w K tt mg base "common_bottom" ["numbers"] 1 sp_common_bottom) : FnOk P w K mg base (L2.CX P w) 2 f fd ["row"] (SpD K tt sp_whole_row) := by
  refine body_ok F sc_whole_row (fun ds C R RX hp => by (obtain ⟨ps, m, rfl, hl, hm, hb, hd, ht, q⟩ := hp; rfl)) fun cdv A outer s H E G0 ds C R RX B hp => ?_
  obtain ⟨ps, m, rfl, hl, hm, hb, hd, ht, q⟩ := hp
  have hu := cbP_dvd ps 1 m ⟨by decide, Int.one_dvd m⟩ hd
  have hub : Bd 60 (cbP ps) := dvd_bd hm hu.2 hb
  refine wss_cons (ws_set 1 ?_ sc_whole_row.nd)
  refine we_call h_common_bottom B.room (by decide) B.tk (wa_cons (we_name 0 rfl (wa_nil ?_)))
  refine ⟨_, ps, m, rfl, .inl rfl, hm, hb, hd, ?_⟩
  refine wss_cons (ws_ret (we_lc [("top", 2), ("bottom", 3)] [2, 3] (fun _ _ _ _ _ => tgt_tup2 (by decide) (by decide) sc_whole_row.nd) sc_whole_row.nd (blkOk_by (by kernel_rfl)) (wi_seq (we_name 0 rfl ?_))))
  refine ⟨_, .tup _, ?_⟩
  refine lc_map (ps) (pD) (fun p => .int (p.1 * (cbP ps / p.2))) (rfl) (sz (by omega)) (fun x hx => .tup2 _ _ _ _ _) (fun p hx s H cl Cc fp G C' hC => ?_) ?_
  · skip
    have h1 := hd p hx
    have h2 : Bd 60 p.2 := dvd_bd hm h1.2 hb
    have h3 : Bd 60 (cbP ps / p.2) := ediv_bd hub
    refine we_bin (we_name 2 rfl (we_bin (we_name 1 rfl (we_name 3 rfl ?_))))
    refine ⟨_, .div _ _ h1.1 (h2.log (by decide)), ?_⟩
    refine ⟨_, .mul _ _ ((ht p hx).mulOk h3), ?_⟩
    exact ⟨rfl, rfl⟩
  unfold lI at q
  rw [List.map_map] at q
  exact q
theorem sc_first_place : FnScope ["row", "at", "number"] ["row"] (defScope s_first_place) := ⟨rfl, rfl, rfl, by decide +kernel, rfl, by decide +kernel, by decide +kernel⟩
def sp_first_place : PreD := fun ds C R RX => ∃ xs : List Int, ds = [lI xs] ∧ R (if fpN xs < xs.length then .int (fpN xs : Nat) else .non) C
theorem ok_first_place {P : Program} {w : World} {K : PySem.W.Frag} {tt : List (Addr × Str)} {mg : Str → Option Value} {base : Heap} {f : Addr} {fd : FuncData} (F : FnP K "first_place" s_first_place f fd) (T : Txt K w mg) : FnOk P w K mg base (L2.CX P w) 1 f fd ["row"] (SpD K tt sp_first_place) := by
  refine body_ok F sc_first_place (fun ds C R RX hp => by (obtain ⟨xs, rfl, q⟩ := hp; rfl)) fun cdv A outer s H E G0 ds C R RX B hp => ?_
  obtain ⟨xs, rfl, q⟩ := hp
  refine wss_cons (ws_forL ?_ B.po)
  refine wi_enum T.enumerate (wa_cons (we_name 0 rfl (wa_nil ?_)))
  refine ⟨_, _, rfl, .lst _, ?_⟩
  refine ⟨_, List.range xs.length, fun i => pairD (.int (i : Nat)) (.int (xs.getD i 0)), fun pre σ' C' => ∃ o1 o2, σ' = [some (lI xs), o1, o2] ∧ C' = C ∧ ∀ j, j < pre.length → xs.getD j 0 = 0, enum_int, ?_, fun G1 hG1 pre1 it1 post1 σ' C' hx1 hI => ?_, fun σ' C' hI => ?_⟩
  · exact ⟨_, _, rfl, rfl, fun j hj => absurd hj (by simp)⟩
  · obtain ⟨o1, o2, rfl, rfl, hz⟩ := hI
    obtain ⟨ei, hlt⟩ := range_split hx1
    subst ei
    refine wg_tup rfl rfl ?_
    refine ⟨_, _, rfl, wg_name 1 ?_ sc_first_place.nd⟩
    refine ⟨_, _, rfl, wg_name 2 ?_ sc_first_place.nd⟩
    refine ⟨rfl, ?_⟩
    refine wss_cons (ws_if (wt_cmp (we_name 2 rfl (we_int ?_))))
    walk_at "cmp"
    refine ⟨fun hif1 => ?_, fun hif1 => ?_⟩
    · try replace hif1 := of_decide_eq_true hif1
      refine wss_cons (ws_ret (we_name 1 rfl ?_))
      have hn : xs.getD pre1.length 0 ≠ 0 := by simpa using hif1
      rw [fpN_spec xs _ hlt hz hn, if_pos hlt] at q
      exact q
    try replace hif1 := of_decide_eq_false hif1
    refine wss_nil ?_
    refine wss_nil ?_
    refine ⟨some (.int (pre1.length : Nat)), some (.int (xs.getD pre1.length 0)), rfl, rfl, fun j hj => ?_⟩
    rw [List.length_append, List.length_singleton] at hj
    rcases Nat.lt_or_ge j pre1.length with h | h
    · exact hz j h
    · rw [show j = pre1.length by omega]
      simpa using hif1
  obtain ⟨o1, o2, rfl, rfl, hz⟩ := hI
  refine wss_cons (ws_ret (we_non ?_))
  rw [fpN_all xs (fun j hj => hz j (by rw [List.length_range]; exact hj)), if_neg (by omega)] at q
  exact q
theorem sc_shortened : FnScope ["row", "common", "number", "at"] ["row"] (defScope s_shortened) := ⟨rfl, rfl, rfl, by decide +kernel, rfl, by decide +kernel, by decide +kernel⟩
theorem fpN_none {Z : Zx} {C : Cells} {xs : List Int} : CmpR Z C .Is (if fpN xs < xs.length then .int (fpN xs : Nat) else .non) .non (decide (¬ fpN xs < xs.length)) := by
  by_cases h : fpN xs < xs.length
  · rw [if_pos h, decide_eq_false (by simpa using h)]
    exact .isNo trivial
  · rw [if_neg h, decide_eq_true h]
    exact .isN
theorem shD_ok {xs : List Int} {k : Nat} (h : fpN xs < xs.length) (hb : ∀ v ∈ xs, Bd k v) : shD xs ≠ 0 ∧ Bd k (shD xs) := by
  have h0 := fpN_ne xs h
  have hm := getD_mem (d := (0 : Int)) h
  have hd := (gR_dvd xs 0).2 _ hm
  have hk := hb _ hm
  have h1 : 0 < gR xs := by
    refine Nat.pos_of_ne_zero fun e => h0 ?_
    rw [e] at hd
    exact Int.zero_dvd.mp hd
  have h2 : gR xs ≤ (xs.getD (fpN xs) 0).natAbs := Nat.le_of_dvd (Int.natAbs_pos.mpr h0) (Int.ofNat_dvd_left.mp hd)
  unfold Bd shD at *
  split <;> omega
theorem shD_dvd {xs : List Int} : ∀ v ∈ xs, shD xs ∣ v := by
  intro v hv
  have := (gR_dvd xs 0).2 v hv
  unfold shD
  split
  · exact Int.neg_dvd.mpr this
  · exact this
def sp_shortened : PreD := fun ds C R RX => ∃ xs : List Int, ds = [lI xs] ∧ xs.length ≤ 1000 ∧ (∀ v ∈ xs, Bd 4000 v) ∧ R (lI (shF xs)) C
theorem ok_shortened {P : Program} {w : World} {K : PySem.W.Frag} {tt : List (Addr × Str)} {mg : Str → Option Value} {base : Heap} {f : Addr} {fd : FuncData} (F : FnP K "shortened" s_shortened f fd) (T : Txt K w mg) (h_first_place : HasF P w K tt mg base "first_place" ["row"] 1 sp_first_place) : FnOk P w K mg base (L2.CX P w) 2 f fd ["row"] (SpD K tt sp_shortened) := by
  refine body_ok F sc_shortened (fun ds C R RX hp => by (obtain ⟨xs, rfl, hl, hb, q⟩ := hp; rfl)) fun cdv A outer s H E G0 ds C R RX B hp => ?_
  obtain ⟨xs, rfl, hl, hb, q⟩ := hp
  refine wss_cons (ws_set 1 ?_ sc_shortened.nd)
  refine we_int ?_
  refine wss_cut (M := (fun σ' C' => ∃ o1, σ' = [some (lI xs), some (.int (gR xs : Nat)), o1, none] ∧ C' = C)) (ws_forL ?_ B.po) (fun σ' C' hM => ?_)
  · skip
    refine wi_seq (we_name 0 rfl ?_)
    refine ⟨_, .lst _, ?_⟩
    refine ⟨_, xs, D.int, fun pre σ' C' => ∃ o1, σ' = [some (lI xs), some (.int (gR pre : Nat)), o1, none] ∧ C' = C, rfl, ?_, fun G1 hG1 pre1 it1 post1 σ' C' hx1 hI => ?_, fun σ' C' hI => ?_⟩
    · exact ⟨_, rfl, rfl⟩
    · obtain ⟨o1, rfl, rfl⟩ := hI
      refine wg_name 2 ?_ sc_shortened.nd
      refine wss_cons (ws_set 1 ?_ sc_shortened.nd)
      refine we_fun T.gcd (wa_cons (we_name 1 rfl (wa_cons (we_name 2 rfl (wa_nil ?_)))))
      walk_at "fun"
      refine wss_cons (ws_if (wt_cmp (we_name 1 rfl (we_int ?_))))
      walk_at "cmp"
      refine ⟨fun hif1 => ?_, fun hif1 => ?_⟩
      · try replace hif1 := of_decide_eq_true hif1
        refine wss_cons (ws_break ?_)
        refine ⟨some (.int it1), ?_, rfl⟩
        have e1 : Nat.gcd (gR pre1) it1.natAbs = 1 := by
          have := hif1
          rw [Int.natAbs_natCast] at this
          omega
        have e2 : gR xs = 1 := by
          rw [hx1, gR_app]
          show gR post1 (Nat.gcd (gR pre1) it1.natAbs) = 1
          rw [e1, gR_one]
        rw [e2]
        simp [e1]
      try replace hif1 := of_decide_eq_false hif1
      refine wss_nil ?_
      refine wss_nil ?_
      refine ⟨some (.int it1), ?_, rfl⟩
      rw [gR_app]
      rfl
    obtain ⟨o1, rfl, rfl⟩ := hI
    exact ⟨_, rfl, rfl⟩
  obtain ⟨o1, rfl, hC⟩ := hM
  replace hC := hC.symm
  subst hC
  refine wss_cons (ws_set 3 ?_ sc_shortened.nd)
  refine we_call h_first_place B.room (by decide) B.tk (wa_cons (we_name 0 rfl (wa_nil ?_)))
  refine ⟨_, rfl, ?_⟩
  refine wss_cons (ws_if (wt_cmp (we_name 3 rfl (we_non ?_))))
  refine ⟨decide (¬ fpN xs < xs.length), fpN_none, ?_⟩
  refine ⟨fun hif2 => ?_, fun hif2 => ?_⟩
  · try replace hif2 := of_decide_eq_true hif2
    refine wss_cons (ws_ret (we_name 0 rfl ?_))
    unfold shF at q
    rw [if_neg hif2] at q
    exact q
  try replace hif2 := of_decide_eq_false hif2
  refine wss_nil ?_
  refine wss_cut (M := (fun σ' C' => σ' = [some (lI xs), some (.int (shD xs)), o1, some (.int (fpN xs : Nat))] ∧ C' = C)) ?_ (fun σ' C' hM => ?_)
  · skip
    refine ws_if (wt_cmp (we_ix (we_name 0 rfl (we_name 3 rfl ?_))))
    have hlt : fpN xs < xs.length := Classical.not_not.mp hif2
    rw [if_pos hlt]
    refine ⟨_, .seq (.l (.v _)) (atI_int hlt), ?_⟩
    refine we_int ?_
    walk_at "cmp"
    refine ⟨fun hif3 => ?_, fun hif3 => ?_⟩
    · try replace hif3 := of_decide_eq_true hif3
      refine wss_cons (ws_set 1 ?_ sc_shortened.nd)
      refine we_neg (we_name 1 rfl ?_)
      refine ⟨_, rfl, ?_⟩
      refine wss_nil ?_
      unfold shD
      rw [if_pos hif3]
      exact ⟨rfl, rfl⟩
    try replace hif3 := of_decide_eq_false hif3
    refine wss_nil ?_
    unfold shD
    rw [if_neg hif3]
    exact ⟨rfl, rfl⟩
  obtain ⟨rfl, hC⟩ := hM
  replace hC := hC.symm
  subst hC
  have hlt : fpN xs < xs.length := Classical.not_not.mp hif2
  have hs := shD_ok hlt hb
  refine wss_cons (ws_ret (we_lc [("number", 2)] [2] (fun _ _ _ _ _ => tgt_one (by decide) sc_shortened.nd) sc_shortened.nd (blkOk_by (by kernel_rfl)) (wi_seq (we_name 0 rfl ?_))))
  refine ⟨_, .lst _, ?_⟩
  refine lc_map (xs) (D.int) (fun v => .int (v.fdiv (shD xs))) (rfl) (sz (by omega)) (fun x hx => .one _ _ _) (fun v hx s H cl Cc fp G C' hC => ?_) ?_
  · skip
    refine we_bin (we_name 2 rfl (we_name 1 rfl ?_))
    refine ⟨_, .fdiv _ _ hs.1 (hs.2.log (by decide)), ?_⟩
    exact ⟨rfl, rfl⟩
  unfold shF at q
  rw [if_pos hlt] at q
  unfold lI at q
  rw [List.map_map] at q
  exact q
end K60
set_option Elab.async false
set_option linter.all false
set_option maxRecDepth 100000
set_option maxHeartbeats 4000000
namespace K60
open PySem PySem.Spec PyProof.Rows L2 Evl DW
local macro_rules | `(tactic| walk_at "seq") => `(tactic| first | exact .l (.v _) | exact .t _ | exact .r _ | exact .l (.c setC_same) | exact .l (.c (by assumption)))
local macro_rules | `(tactic| walk_at "lin") => `(tactic| first | exact .v _ | exact .c setC_same | exact .c (by assumption))
local macro_rules | `(tactic| walk_at "size") => `(tactic| first | (refine sz ?_; first | omega | (simp only [List.length_map, List.length_range, List.length_append, List.length_cons, List.length_nil, List.length_replicate] at *; omega)) | decide)
local macro_rules | `(tactic| walk_at "mulok") => `(tactic| first | exact mulR (by decide) (by decide) | exact mulL (by decide) (by decide) | assumption | exact mulL (by omega) (by omega) | exact mulR (by omega) (by omega))
local macro_rules | `(tactic| walk_at "op") => `(tactic| first
  | refine ⟨_, .add _ _, ?_⟩
  | refine ⟨_, .sub _ _, ?_⟩
  | refine ⟨_, .mul _ _ (by walk_at "mulok"), ?_⟩
  | refine ⟨_, .mod _ _ (by first | decide | omega | assumption), ?_⟩
  | refine ⟨_, .div _ _ (by first | decide | omega | assumption) (by first | decide | assumption), ?_⟩
  | refine ⟨_, .pow _ _ (by decide), ?_⟩
  | refine ⟨_, .adds _ _ (by walk_at "size"), ?_⟩
  | refine ⟨_, .catT _ _ (by walk_at "size"), ?_⟩
  | refine ⟨_, .cat (by walk_at "lin") (by walk_at "lin") (by walk_at "size"), ?_⟩
  | refine ⟨_, .rep _ (by walk_at "lin") (by first | decide | omega) (by first | decide | omega) (by walk_at "size"), ?_⟩)
local macro_rules | `(tactic| walk_at "cmp") => `(tactic| first
  | refine ⟨_, .lt _ _, ?_⟩ | refine ⟨_, .le _ _, ?_⟩ | refine ⟨_, .gt _ _, ?_⟩ | refine ⟨_, .ge _ _, ?_⟩
  | refine ⟨_, .eqI _ _, ?_⟩ | refine ⟨_, .neI _ _, ?_⟩ | refine ⟨_, .eqS _ _, ?_⟩ | refine ⟨_, .neS _ _, ?_⟩ | refine ⟨_, .eqB _ _, ?_⟩ | refine ⟨_, .neB _ _, ?_⟩
  | refine ⟨_, .isN, ?_⟩ | refine ⟨_, .ntN, ?_⟩ | refine ⟨_, .isC, ?_⟩ | refine ⟨_, .ntC, ?_⟩ | refine ⟨_, .isNo trivial, ?_⟩ | refine ⟨_, .ntNo trivial, ?_⟩)
local macro_rules | `(tactic| walk_at "ix") => `(tactic| first | refine ⟨_, .seq (by walk_at "seq") rfl, ?_⟩)
local macro_rules | `(tactic| walk_at "slc") => `(tactic| first | refine ⟨_, .lst _ _ (by walk_at "lin"), ?_⟩ | refine ⟨_, .tup _ _ _, ?_⟩ | refine ⟨_, .rol _ _ _, ?_⟩ | refine ⟨_, .str _ _ _ (by walk_at "size"), ?_⟩)
local macro_rules | `(tactic| walk_at "blt") => `(tactic| first
  | refine ⟨_, .len (by walk_at "seq"), ?_⟩ | refine ⟨_, .lenS _ (by walk_at "size"), ?_⟩ | refine ⟨_, .abs _, ?_⟩ | refine ⟨_, .max2 _ _ rfl, ?_⟩ | refine ⟨_, .min2 _ _ rfl, ?_⟩
  | refine ⟨_, .int _, ?_⟩ | refine ⟨_, .intB _, ?_⟩ | refine ⟨_, .bool _, ?_⟩ | refine ⟨_, .boolI _, ?_⟩
  | refine ⟨_, .sum _ (by walk_at "lin") rfl, ?_⟩ | refine ⟨_, .all _ (by walk_at "lin") rfl, ?_⟩ | refine ⟨_, .any _ (by walk_at "lin") rfl, ?_⟩
  | refine ⟨_, .list (by walk_at "seq"), ?_⟩ | refine ⟨_, .tuple (by walk_at "lin"), ?_⟩ | refine ⟨_, .tupleT _, ?_⟩)
local macro_rules | `(tactic| walk_at "sub") => `(tactic| (refine ⟨_, _, _, _, rfl, rfl, (by first | exact setC_same | assumption), rfl, ?_⟩; try rw [setC_setC]))
local macro_rules | `(tactic| walk_at "fun") => `(tactic| first | refine ⟨_, .gcd _ _, ?_⟩ | refine ⟨_, .lcm _ _ (by assumption) (by assumption), ?_⟩ | refine ⟨_, .lcm _ _ (by omega) (by omega), ?_⟩ | refine ⟨_, .comb _ _ (by omega) (by omega) (by omega) (by omega), ?_⟩)
local macro_rules | `(tactic| walk_at "sizelt") => `(tactic| first | (refine szlt ?_; first | omega | (simp only [List.length_map, List.length_range, List.length_append, List.length_cons, List.length_nil, List.length_replicate] at *; omega)) | decide)
local macro_rules | `(tactic| walk_at "meth") => `(tactic| first | refine ⟨_, .startswith _ _, ?_⟩ | refine ⟨_, .strip _ _ (by walk_at "size"), ?_⟩ | refine ⟨_, .partition _ _ rfl (by walk_at "size"), ?_⟩ | refine ⟨_, .split _ _ rfl (by walk_at "size"), ?_⟩)
local macro_rules | `(tactic| walk_at "tsz") => `(tactic| first | decide | exact sz (by simp))
local macro_rules | `(tactic| walk_at "jsz") => `(tactic| first | decide | walk_at "size" | (refine sz ?_; simp; omega))
local macro_rules | `(tactic| walk_at "log") => `(tactic| first | assumption | omega)
def bD (k : Nat × List Int) : D := .tup [.int (k.1 : Nat), lI k.2]
def usP (row : List Int) (k : Nat × List Int) : Bool := !decide (row.getD k.1 0 = 0)
def clM1 (row : List Int) (k : Nat × List Int) : Int := ((Nat.lcm (1 : Int).natAbs (k.2.getD k.1 0 / ((Nat.gcd (row.getD k.1 0).natAbs (k.2.getD k.1 0).natAbs : Nat) : Int)).natAbs : Nat) : Int)
def clG1 (row : List Int) (k : Nat × List Int) : Int := (clM1 row k * row.getD k.1 0).fdiv (k.2.getD k.1 0)
def clV1 (row : List Int) (k : Nat × List Int) : List Int := ((row.map fun v => clM1 row k * v).zip k.2).map fun p => p.1 - clG1 row k * p.2
def clV (row : List Int) : List (Nat × List Int) → List Int
  | [] => row
  | k :: _ => if usP row k then clV1 row k else row
def clM (row : List Int) : List (Nat × List Int) → Int
  | [] => 1
  | k :: _ => if usP row k then clM1 row k else 1
theorem cl_neg {row : List Int} {k : Nat × List Int} {r : List (Nat × List Int)} (h : usP row k = false) : clV row (k :: r) = row ∧ clM row (k :: r) = 1 :=
  ⟨if_neg (by rw [h]; decide), if_neg (by rw [h]; decide)⟩
theorem cl_pos {row : List Int} {k : Nat × List Int} {r : List (Nat × List Int)} (h : usP row k = true) : clV row (k :: r) = clV1 row k ∧ clM row (k :: r) = clM1 row k := ⟨if_pos h, if_pos h⟩
structure ClOk (row : List Int) (ks : List (Nat × List Int)) : Prop where
  len : ks.length ≤ 1
  rl : row.length ≤ 1000
  rb : ∀ v ∈ row, Bd 63 v
  at_ : ∀ k ∈ ks, k.1 < row.length
  kl : ∀ k ∈ ks, k.2.length = row.length
  k0 : ∀ k ∈ ks, k.2.getD k.1 0 ≠ 0
  kb : ∀ k ∈ ks, ∀ v ∈ k.2, Bd 63 v
theorem one_split {α : Type} {k x : α} {pre post : List α} (h : [k] = pre ++ x :: post) : pre = [] ∧ k = x := by
  cases pre with
  | nil => cases h; exact ⟨rfl, rfl⟩
  | cons a b => simp at h
theorem zip_int {xs ys : List Int} : List.zipWith pairD (xs.map D.int) (ys.map D.int) = (xs.zip ys).map fun p => pairD (.int p.1) (.int p.2) := by
  rw [List.zipWith_map, List.zip, List.map_zipWith]
theorem getD_bd {k i : Nat} {xs : List Int} (h : ∀ v ∈ xs, Bd k v) : Bd k (xs.getD i 0) := by
  by_cases hi : i < xs.length
  · exact h _ (DW.getD_mem hi)
  · rw [List.getD_eq_getElem?_getD, List.getElem?_eq_none (by omega)]
    exact Nat.pow_pos (by decide)
theorem clM1_dvd {row : List Int} {k : Nat × List Int} : k.2.getD k.1 0 ∣ clM1 row k * row.getD k.1 0 := by
  unfold clM1
  generalize k.2.getD k.1 0 = b
  generalize row.getD k.1 0 = t
  rw [← Int.natAbs_dvd_natAbs, Int.natAbs_mul, Int.natAbs_natCast]
  have e1 : Nat.lcm (1 : Int).natAbs (b / ((Nat.gcd t.natAbs b.natAbs : Nat) : Int)).natAbs = b.natAbs / Nat.gcd t.natAbs b.natAbs := by
    show Nat.lcm 1 _ = _
    rw [Nat.lcm_one_left, Int.natAbs_ediv_of_dvd (Int.ofNat_dvd_left.mpr (Nat.gcd_dvd_right _ _)), Int.natAbs_natCast]
  rw [e1]
  obtain ⟨c, hc⟩ := Nat.gcd_dvd_left t.natAbs b.natAbs
  obtain ⟨d, hd⟩ := Nat.gcd_dvd_right t.natAbs b.natAbs
  rcases Nat.eq_zero_or_pos (Nat.gcd t.natAbs b.natAbs) with h | h
  · rw [h] at hc hd
    rw [Nat.zero_mul] at hc
    rw [hc, Nat.mul_zero]
    exact Nat.dvd_zero _
  · have e2 : b.natAbs / Nat.gcd t.natAbs b.natAbs = d := Nat.div_eq_of_eq_mul_right h hd
    rw [e2]
    refine ⟨c, ?_⟩
    have : d * t.natAbs = d * (Nat.gcd t.natAbs b.natAbs * c) := by rw [← hc]
    rw [this, ← Nat.mul_assoc, Nat.mul_comm d, ← hd]
theorem clM1_bd {row : List Int} {k : Nat × List Int} {n : Nat} (hb : Bd n (k.2.getD k.1 0)) : Bd n (clM1 row k) := by
  unfold clM1
  show Bd n ((Nat.lcm 1 _ : Nat) : Int)
  rw [Nat.lcm_one_left]
  unfold Bd at *
  rw [Int.natAbs_natCast]
  exact Nat.lt_of_le_of_lt (Int.natAbs_ediv_le_natAbs _ _) hb
theorem sc_cleared : FnScope ["row", "kept", "used", "place", "base", "many", "top", "bottom", "told", "number", "factor", "x", "y"] ["row", "kept"] (defScope s_cleared) := ⟨rfl, rfl, rfl, by decide +kernel, rfl, by decide +kernel, by decide +kernel⟩
def sp_cleared : PreD := fun ds C R RX => ∃ (row : List Int) (ks : List (Nat × List Int)) (x : D), ds = [lI row, x] ∧ (x = .tup (ks.map bD) ∨ x = .lst (ks.map bD)) ∧ ClOk row ks ∧ R (.tup [lI (clV row ks), .int (clM row ks)]) C
theorem ok_cleared {P : Program} {w : World} {K : PySem.W.Frag} {tt : List (Addr × Str)} {mg : Str → Option Value} {base : Heap} {f : Addr} {fd : FuncData} (F : FnP K "cleared" s_cleared f fd) (T : Txt K w mg) : FnOk P w K mg base (L2.CX P w) 1 f fd ["row", "kept"] (SpD K tt sp_cleared) := by
  refine body_ok F sc_cleared (fun ds C R RX hp => by (obtain ⟨row, ks, x, rfl, hx0, hc, q⟩ := hp; rfl)) fun cdv A outer s H E G0 ds C R RX B hp => ?_
  obtain ⟨row, ks, x, rfl, hx0, hc, q⟩ := hp
  refine wss_cons (ws_setLc 2 [("place", 3), ("base", 4)] [3, 4] (fun _ _ _ _ _ => tgt_tup2 (by decide) (by decide) sc_cleared.nd) sc_cleared.nd (blkOk_by (by kernel_rfl)) (wi_seq (we_name 1 rfl ?_)))
  refine ⟨ks.map bD, by rcases hx0 with e | e <;> (subst e; constructor), ?_⟩
  refine lc_filter (ks) (bD) (fun k => .tup [lI k.2, .int (row.getD k.1 0), .int (k.2.getD k.1 0)]) (usP row) (rfl) (sz (by have := hc.len; omega)) (fun x hx => .tup2 _ _ _ _ _) (fun k hx s H cl Cc fp G C' hC => ?_) (fun k hx hp s H cl Cc fp G C' hC => ?_) ?_
  · skip
    refine wts_one (wt_cmp (we_ix (we_name 0 rfl (we_name 3 rfl ?_))))
    refine ⟨_, .seq (.l (.v _)) (atI_int (hc.at_ k hx)), ?_⟩
    refine we_int ?_
    walk_at "cmp"
    exact ⟨rfl, rfl⟩
  · skip
    refine we_tup (wa_cons (we_name 4 rfl (wa_cons (we_ix (we_name 0 rfl (we_name 3 rfl ?_))))))
    refine ⟨_, .seq (.l (.v _)) (atI_int (hc.at_ k hx)), ?_⟩
    refine wa_cons (we_ix (we_name 4 rfl (we_name 3 rfl ?_)))
    refine ⟨_, .seq (.l (.v _)) (atI_int (by rw [hc.kl k hx]; exact hc.at_ k hx)), ?_⟩
    refine wa_nil ?_
    refine ⟨by walk_at "tsz", ?_⟩
    exact ⟨rfl, rfl⟩
  refine wss_cons (ws_if (wt_cmp (we_blt (id := "len") T.len (wa_cons (we_name 2 rfl (wa_nil ?_))))))
  walk_at "blt"
  refine we_int ?_
  walk_at "cmp"
  refine ⟨fun hif1 => ?_, fun hif1 => ?_⟩
  · try replace hif1 := of_decide_eq_true hif1
    refine wss_cons (ws_ret (we_tup (wa_cons (we_ty (T := "list") T.list (wa_cons (we_name 0 rfl (wa_nil ?_)))))))
    walk_at "blt"
    refine wa_cons (we_int (wa_nil ?_))
    refine ⟨by walk_at "tsz", ?_⟩
    have e : clV row ks = row ∧ clM row ks = 1 := by
      cases ks with
      | nil => exact ⟨rfl, rfl⟩
      | cons k r =>
        have hu : usP row k = false := by
          cases h : usP row k
          · rfl
          · rw [List.filter_cons_of_pos h] at hif1
            exact absurd hif1 (by simp; omega)
        exact cl_neg hu
    rw [e.1, e.2] at q
    exact q
  try replace hif1 := of_decide_eq_false hif1
  refine wss_nil ?_
  obtain ⟨k, rfl, hu⟩ : ∃ k, ks = [k] ∧ usP row k = true := by
    have hl := hc.len
    match ks, hl with
    | [], _ => exact absurd rfl hif1
    | [k], _ =>
      refine ⟨k, rfl, ?_⟩
      cases h : usP row k
      · rw [List.filter_cons_of_neg (by rw [h]; decide)] at hif1
        exact absurd rfl hif1
      · rfl
    | _ :: _ :: _, hl => exact absurd hl (by simp)
  have hus : [k].filter (usP row) = [k] := by rw [List.filter_cons_of_pos hu]; rfl
  have hk := List.mem_singleton_self k
  have hb0 : Bd 63 (k.2.getD k.1 0) := getD_bd (hc.kb k hk)
  have ht0 : Bd 63 (row.getD k.1 0) := getD_bd hc.rb
  have hne := hc.k0 k hk
  have hg := gcd_ok (a := row.getD k.1 0) hne (hb0.mono (by decide))
  have hM : Bd 63 (clM1 row k) := clM1_bd hb0
  have hG : Bd 126 (clG1 row k) := ((hM.mul ht0).mono (by decide)).fdiv
  refine wss_cons (ws_set 5 ?_ sc_cleared.nd)
  refine we_int ?_
  refine wss_cons (ws_forL ?_ B.po)
  refine wi_seq (we_name 2 rfl ?_)
  refine ⟨_, .lst _, ?_⟩
  refine ⟨_, [k], fun k => .tup [lI k.2, .int (row.getD k.1 0), .int (k.2.getD k.1 0)], fun pre σ' C' => ∃ o4 o6 o7, σ' = [some (lI row), some x, some (.lst (([k].filter (usP row)).map fun k => .tup [lI k.2, .int (row.getD k.1 0), .int (k.2.getD k.1 0)])), none, o4, some (.int (if pre = [] then 1 else clM1 row k)), o6, o7, none, none, none, none, none] ∧ C' = C, (by rw [hus]), ?_, fun G1 hG1 pre1 it1 post1 σ' C' hx1 hI => ?_, fun σ' C' hI => ?_⟩
  · exact ⟨_, _, _, rfl, rfl⟩
  · obtain ⟨o4, o6, o7, rfl, rfl⟩ := hI
    obtain ⟨rfl, hit⟩ : pre1 = [] ∧ k = it1 := one_split hx1
    subst hit
    rw [if_pos rfl]
    have hl2 : (k.2.getD k.1 0 / ((Nat.gcd (row.getD k.1 0).natAbs (k.2.getD k.1 0).natAbs : Nat) : Int)).natAbs < 18446744073709551616 := by
      have : Bd 64 (k.2.getD k.1 0 / ((Nat.gcd (row.getD k.1 0).natAbs (k.2.getD k.1 0).natAbs : Nat) : Int)) := ediv_bd (hb0.mono (by decide))
      exact this
    refine wg_tup rfl rfl ?_
    refine ⟨_, _, rfl, wg_name 4 ?_ sc_cleared.nd⟩
    refine ⟨_, _, rfl, wg_name 6 ?_ sc_cleared.nd⟩
    refine ⟨_, _, rfl, wg_name 7 ?_ sc_cleared.nd⟩
    refine ⟨rfl, ?_⟩
    refine wss_cons (ws_set 5 ?_ sc_cleared.nd)
    refine we_fun T.lcm (wa_cons (we_name 5 rfl (wa_cons (we_bin (we_name 7 rfl (we_fun T.gcd (wa_cons (we_name 6 rfl (wa_cons (we_name 7 rfl (wa_nil ?_)))))))))))
    walk_at "fun"
    refine ⟨_, .div _ _ hg.1 hg.2, ?_⟩
    refine wa_nil ?_
    refine ⟨_, .lcm _ _ (by decide) hl2, ?_⟩
    refine wss_nil ?_
    exact ⟨_, _, _, rfl, rfl⟩
  obtain ⟨o4, o6, o7, rfl, hC⟩ := hI
  replace hC := hC.symm
  subst hC
  rw [if_neg (by simp)]
  refine wss_cons (ws_setLc 8 [("number", 9)] [9] (fun _ _ _ _ _ => tgt_one (by decide) sc_cleared.nd) sc_cleared.nd (blkOk_by (by kernel_rfl)) (wi_seq (we_name 0 rfl ?_)))
  refine ⟨_, .lst _, ?_⟩
  refine lc_map (row) (D.int) (fun v => .int (clM1 row k * v)) (rfl) (sz (by have := hc.rl; omega)) (fun x hx => .one _ _ _) (fun v hx s H cl Cc fp G C' hC => ?_) ?_
  · skip
    refine we_bin (we_name 5 rfl (we_name 9 rfl ?_))
    refine ⟨_, .mul _ _ (hM.mulOk (hc.rb v hx)), ?_⟩
    exact ⟨rfl, rfl⟩
  refine wss_cons (ws_forL ?_ B.po)
  refine wi_seq (we_name 2 rfl ?_)
  refine ⟨_, .lst _, ?_⟩
  refine ⟨_, [k], fun k => .tup [lI k.2, .int (row.getD k.1 0), .int (k.2.getD k.1 0)], fun pre σ' C' => ∃ o4 o6 o7 o10, σ' = [some (lI row), some x, some (.lst (([k].filter (usP row)).map fun k => .tup [lI k.2, .int (row.getD k.1 0), .int (k.2.getD k.1 0)])), none, o4, some (.int (clM1 row k)), o6, o7, some (lI (if pre = [] then row.map (fun v => clM1 row k * v) else clV1 row k)), none, o10, none, none] ∧ C' = C, (by rw [hus]), ?_, fun G2 hG2 pre2 it2 post2 σ' C' hx2 hI => ?_, fun σ' C' hI => ?_⟩
  · refine ⟨o4, o6, o7, none, ?_, rfl⟩
    rw [if_pos rfl]
    unfold lI
    rw [List.map_map]
    rfl
  · obtain ⟨o4, o6, o7, o10, rfl, rfl⟩ := hI
    obtain ⟨rfl, hit⟩ : pre2 = [] ∧ k = it2 := one_split hx2
    subst hit
    rw [if_pos rfl]
    refine wg_tup rfl rfl ?_
    refine ⟨_, _, rfl, wg_name 4 ?_ sc_cleared.nd⟩
    refine ⟨_, _, rfl, wg_name 6 ?_ sc_cleared.nd⟩
    refine ⟨_, _, rfl, wg_name 7 ?_ sc_cleared.nd⟩
    refine ⟨rfl, ?_⟩
    refine wss_cons (ws_set 10 ?_ sc_cleared.nd)
    refine we_bin (we_bin (we_name 5 rfl (we_name 6 rfl ?_)))
    refine ⟨_, .mul _ _ (hM.mulOk ht0), ?_⟩
    refine we_name 7 rfl ?_
    refine ⟨_, .fdiv _ _ hne (hb0.log (by decide)), ?_⟩
    refine wss_cons (ws_setLc 8 [("x", 11), ("y", 12)] [11, 12] (fun _ _ _ _ _ => tgt_tup2 (by decide) (by decide) sc_cleared.nd) sc_cleared.nd (blkOk_by (by kernel_rfl)) (wi_zip T.zip (wa_cons (we_name 8 rfl (wa_cons (we_name 4 rfl (wa_nil ?_)))))))
    refine ⟨_, _, _, _, rfl, .lst _, .lst _, ?_⟩
    refine lc_map ((row.map fun v => clM1 row k * v).zip k.2) (fun p => pairD (.int p.1) (.int p.2)) (fun p => .int (p.1 - clG1 row k * p.2)) (zip_int) (sz (by rw [List.length_zip, List.length_map]; have := hc.rl; omega)) (fun x hx => .tup2 _ _ _ _ _) (fun p hx s H cl Cc fp G C' hC => ?_) ?_
    · skip
      have hp2 := hc.kb k hk p.2 (List.of_mem_zip hx).2
      refine we_bin (we_name 11 rfl (we_bin (we_name 10 rfl (we_name 12 rfl ?_))))
      refine ⟨_, .mul _ _ (hG.mulOk hp2), ?_⟩
      walk_at "op"
      exact ⟨rfl, rfl⟩
    refine wss_nil ?_
    refine ⟨some (lI k.2), some (.int (row.getD k.1 0)), some (.int (k.2.getD k.1 0)), some (.int (clG1 row k)), ?_, rfl⟩
    have e : lI (clV1 row k) = .lst (((row.map fun v => clM1 row k * v).zip k.2).map fun p => .int (p.1 - clG1 row k * p.2)) := by
      unfold lI clV1
      rw [List.map_map]
      rfl
    rw [if_neg (by simp), e]
    rfl
  obtain ⟨o4, o6, o7, o10, rfl, rfl⟩ := hI
  rw [if_neg (by simp)]
  refine wss_cons (ws_ret (we_tup (wa_cons (we_name 8 rfl (wa_cons (we_name 5 rfl (wa_nil ?_)))))))
  refine ⟨by walk_at "tsz", ?_⟩
  rw [(cl_pos hu).1, (cl_pos hu).2] at q
  exact q
end K60
set_option Elab.async false
set_option linter.all false
set_option maxRecDepth 100000
set_option maxHeartbeats 4000000
namespace K60
open PySem PySem.Spec PyProof.Rows L2 Evl DW
local macro_rules | `(tactic| walk_at "seq") => `(tactic| first | exact .l (.v _) | exact .t _ | exact .r _ | exact .l (.c setC_same) | exact .l (.c (by assumption)))
local macro_rules | `(tactic| walk_at "lin") => `(tactic| first | exact .v _ | exact .c setC_same | exact .c (by assumption))
local macro_rules | `(tactic| walk_at "size") => `(tactic| first | (refine sz ?_; first | omega | (simp only [List.length_map, List.length_range, List.length_append, List.length_cons, List.length_nil, List.length_replicate] at *; omega)) | decide)
local macro_rules | `(tactic| walk_at "mulok") => `(tactic| first | exact mulR (by decide) (by decide) | exact mulL (by decide) (by decide) | assumption | exact mulL (by omega) (by omega) | exact mulR (by omega) (by omega))
local macro_rules | `(tactic| walk_at "op") => `(tactic| first
  | refine ⟨_, .add _ _, ?_⟩
  | refine ⟨_, .sub _ _, ?_⟩
  | refine ⟨_, .mul _ _ (by walk_at "mulok"), ?_⟩
  | refine ⟨_, .mod _ _ (by first | decide | omega | assumption), ?_⟩
  | refine ⟨_, .div _ _ (by first | decide | omega | assumption) (by first | decide | assumption), ?_⟩
  | refine ⟨_, .pow _ _ (by decide), ?_⟩
  | refine ⟨_, .adds _ _ (by walk_at "size"), ?_⟩
  | refine ⟨_, .catT _ _ (by walk_at "size"), ?_⟩
  | refine ⟨_, .cat (by walk_at "lin") (by walk_at "lin") (by walk_at "size"), ?_⟩
  | refine ⟨_, .rep _ (by walk_at "lin") (by first | decide | omega) (by first | decide | omega) (by walk_at "size"), ?_⟩)
local macro_rules | `(tactic| walk_at "cmp") => `(tactic| first
  | refine ⟨_, .lt _ _, ?_⟩ | refine ⟨_, .le _ _, ?_⟩ | refine ⟨_, .gt _ _, ?_⟩ | refine ⟨_, .ge _ _, ?_⟩
  | refine ⟨_, .eqI _ _, ?_⟩ | refine ⟨_, .neI _ _, ?_⟩ | refine ⟨_, .eqS _ _, ?_⟩ | refine ⟨_, .neS _ _, ?_⟩ | refine ⟨_, .eqB _ _, ?_⟩ | refine ⟨_, .neB _ _, ?_⟩
  | refine ⟨_, .isN, ?_⟩ | refine ⟨_, .ntN, ?_⟩ | refine ⟨_, .isC, ?_⟩ | refine ⟨_, .ntC, ?_⟩ | refine ⟨_, .isNo trivial, ?_⟩ | refine ⟨_, .ntNo trivial, ?_⟩)
local macro_rules | `(tactic| walk_at "ix") => `(tactic| first | refine ⟨_, .seq (by walk_at "seq") rfl, ?_⟩)
local macro_rules | `(tactic| walk_at "slc") => `(tactic| first | refine ⟨_, .lst _ _ (by walk_at "lin"), ?_⟩ | refine ⟨_, .tup _ _ _, ?_⟩ | refine ⟨_, .rol _ _ _, ?_⟩ | refine ⟨_, .str _ _ _ (by walk_at "size"), ?_⟩)
local macro_rules | `(tactic| walk_at "blt") => `(tactic| first
  | refine ⟨_, .len (by walk_at "seq"), ?_⟩ | refine ⟨_, .lenS _ (by walk_at "size"), ?_⟩ | refine ⟨_, .abs _, ?_⟩ | refine ⟨_, .max2 _ _ rfl, ?_⟩ | refine ⟨_, .min2 _ _ rfl, ?_⟩
  | refine ⟨_, .int _, ?_⟩ | refine ⟨_, .intB _, ?_⟩ | refine ⟨_, .bool _, ?_⟩ | refine ⟨_, .boolI _, ?_⟩
  | refine ⟨_, .sum _ (by walk_at "lin") rfl, ?_⟩ | refine ⟨_, .all _ (by walk_at "lin") rfl, ?_⟩ | refine ⟨_, .any _ (by walk_at "lin") rfl, ?_⟩
  | refine ⟨_, .list (by walk_at "seq"), ?_⟩ | refine ⟨_, .tuple (by walk_at "lin"), ?_⟩ | refine ⟨_, .tupleT _, ?_⟩)
local macro_rules | `(tactic| walk_at "sub") => `(tactic| (refine ⟨_, _, _, _, rfl, rfl, (by first | exact setC_same | assumption), rfl, ?_⟩; try rw [setC_setC]))
local macro_rules | `(tactic| walk_at "fun") => `(tactic| first | refine ⟨_, .gcd _ _, ?_⟩ | refine ⟨_, .lcm _ _ (by assumption) (by assumption), ?_⟩ | refine ⟨_, .lcm _ _ (by omega) (by omega), ?_⟩ | refine ⟨_, .comb _ _ (by omega) (by omega) (by omega) (by omega), ?_⟩)
local macro_rules | `(tactic| walk_at "sizelt") => `(tactic| first | (refine szlt ?_; first | omega | (simp only [List.length_map, List.length_range, List.length_append, List.length_cons, List.length_nil, List.length_replicate] at *; omega)) | decide)
local macro_rules | `(tactic| walk_at "meth") => `(tactic| first | refine ⟨_, .startswith _ _, ?_⟩ | refine ⟨_, .strip _ _ (by walk_at "size"), ?_⟩ | refine ⟨_, .partition _ _ rfl (by walk_at "size"), ?_⟩ | refine ⟨_, .split _ _ rfl (by walk_at "size"), ?_⟩)
local macro_rules | `(tactic| walk_at "tsz") => `(tactic| first | decide | exact sz (by simp))
local macro_rules | `(tactic| walk_at "jsz") => `(tactic| first | decide | walk_at "size" | (refine sz ?_; simp; omega))
local macro_rules | `(tactic| walk_at "log") => `(tactic| first | assumption | omega)
def wrO (at_ : Nat) (new : List Int) (k : Nat × List Int) : Nat × List Int := (k.1, if k.2.getD at_ 0 = 0 then k.2 else shF (clV k.2 [(at_, new)]))
def wrN (ks : List (Nat × List Int)) (row : List Int) : List Int := shF (clV row ks)
def wrF (ks : List (Nat × List Int)) (row : List Int) : List (Nat × List Int) :=
  if fpN (wrN ks row) < (wrN ks row).length then (ks.map (wrO (fpN (wrN ks row)) (wrN ks row)) ++ [(fpN (wrN ks row), wrN ks row)]).mergeSort (fun a b => decide ((a.1 : Int) ≤ (b.1 : Int))) else ks
structure KeptOk (t e : Nat) (ks : List (Nat × List Int)) : Prop where
  at_ : ∀ k ∈ ks, k.1 < t
  kl : ∀ k ∈ ks, k.2.length = t
  k0 : ∀ k ∈ ks, k.2.getD k.1 0 ≠ 0
  kb : ∀ k ∈ ks, ∀ v ∈ k.2, Bd e v
theorem KeptOk.cl {t e : Nat} {ks : List (Nat × List Int)} (h : KeptOk t e ks) (he : e ≤ 63) (hl : ks.length ≤ 1) (ht : t ≤ 1000) {row : List Int} (hr : row.length = t) (hb : ∀ v ∈ row, Bd e v) : ClOk row ks :=
  ⟨hl, by omega, fun v hv => (hb v hv).mono he, fun k hk => by rw [hr]; exact h.at_ k hk, fun k hk => by rw [hr]; exact h.kl k hk, h.k0, fun k hk v hv => (h.kb k hk v hv).mono he⟩
theorem getD_map0 {f : Int → Int} {xs : List Int} {i : Nat} (h : i < xs.length) : (xs.map f).getD i 0 = f (xs.getD i 0) := DW.getD_map h
theorem shF_len {xs : List Int} : (shF xs).length = xs.length := by
  unfold shF
  split <;> simp
theorem shF_bd {n : Nat} {xs : List Int} (h : ∀ v ∈ xs, Bd n v) : ∀ v ∈ shF xs, Bd n v := by
  unfold shF
  split
  · intro v hv
    obtain ⟨u, hu, rfl⟩ := List.mem_map.mp hv
    exact (h u hu).fdiv
  · exact h
theorem shF_zero {xs : List Int} {i : Nat} (hi : i < xs.length) (h : xs.getD i 0 = 0) : (shF xs).getD i 0 = 0 := by
  unfold shF
  split
  · rw [getD_map0 hi, h]
    exact Int.zero_fdiv _
  · exact h
theorem shF_ne {xs : List Int} {i : Nat} (hi : i < xs.length) (h : xs.getD i 0 ≠ 0) : (shF xs).getD i 0 ≠ 0 := by
  unfold shF
  split
  · rw [getD_map0 hi]
    obtain ⟨c, hc⟩ := shD_dvd _ (DW.getD_mem (d := (0 : Int)) hi)
    rw [hc] at h ⊢
    have h1 : shD xs ≠ 0 := fun e => h (by rw [e, Int.zero_mul])
    have h2 : c ≠ 0 := fun e => h (by rw [e, Int.mul_zero])
    rw [Int.mul_fdiv_cancel_left _ h1]
    exact h2
  · exact h
theorem clV1_len {row : List Int} {k : Nat × List Int} (h : k.2.length = row.length) : (clV1 row k).length = row.length := by
  unfold clV1
  rw [List.length_map, List.length_zip, List.length_map]
  omega
theorem clV_len {row : List Int} {ks : List (Nat × List Int)} (h : ∀ k ∈ ks, k.2.length = row.length) : (clV row ks).length = row.length := by
  cases ks with
  | nil => rfl
  | cons k r =>
    show (if usP row k then clV1 row k else row).length = _
    split
    · exact clV1_len (h k List.mem_cons_self)
    · rfl
theorem clV1_at {row : List Int} {k : Nat × List Int} (h : k.2.length = row.length) {i : Nat} (hi : i < row.length) : (clV1 row k).getD i 0 = clM1 row k * row.getD i 0 - clG1 row k * k.2.getD i 0 := by
  have h1 : (clV1 row k)[i]? = some (clM1 row k * row[i] - clG1 row k * k.2[i]) := by
    unfold clV1
    rw [List.getElem?_map, List.getElem?_eq_getElem (by rw [List.length_zip, List.length_map]; omega), List.getElem_zip, List.getElem_map]
    rfl
  rw [List.getD_eq_getElem?_getD, h1, List.getD_eq_getElem?_getD, List.getD_eq_getElem?_getD, List.getElem?_eq_getElem hi, List.getElem?_eq_getElem (by omega)]
  rfl
theorem clM1_ne {row : List Int} {k : Nat × List Int} (h : k.2.getD k.1 0 ≠ 0) : clM1 row k ≠ 0 := by
  unfold clM1
  show ((Nat.lcm 1 _ : Nat) : Int) ≠ 0
  rw [Nat.lcm_one_left, Int.natAbs_ediv_of_dvd (Int.ofNat_dvd_left.mpr (Nat.gcd_dvd_right _ _)), Int.natAbs_natCast]
  have h1 : 0 < (k.2.getD k.1 0).natAbs := Int.natAbs_pos.mpr h
  have h2 := Nat.gcd_pos_of_pos_right (row.getD k.1 0).natAbs h1
  have h3 := Nat.le_of_dvd h1 (Nat.gcd_dvd_right (row.getD k.1 0).natAbs (k.2.getD k.1 0).natAbs)
  have h4 := Nat.div_pos h3 h2
  omega
theorem clV1_zero {row : List Int} {k : Nat × List Int} (hl : k.2.length = row.length) (hi : k.1 < row.length) (h : k.2.getD k.1 0 ≠ 0) : (clV1 row k).getD k.1 0 = 0 := by
  rw [clV1_at hl hi]
  unfold clG1
  rw [Int.fdiv_mul_cancel clM1_dvd, Int.sub_self]
theorem clG1_bd {n : Nat} {row : List Int} {k : Nat × List Int} (h0 : k.2.getD k.1 0 ≠ 0) (hb : Bd n (row.getD k.1 0)) : Bd n (clG1 row k) := by
  have h1 : clG1 row k * k.2.getD k.1 0 = clM1 row k * row.getD k.1 0 := by unfold clG1; exact Int.fdiv_mul_cancel clM1_dvd
  have h2 : (clM1 row k).natAbs ≤ (k.2.getD k.1 0).natAbs := by
    unfold clM1
    show (((Nat.lcm 1 _ : Nat) : Int)).natAbs ≤ _
    rw [Nat.lcm_one_left, Int.natAbs_natCast]
    exact Int.natAbs_ediv_le_natAbs _ _
  have h3 := congrArg Int.natAbs h1
  rw [Int.natAbs_mul, Int.natAbs_mul] at h3
  have h4 : 0 < (k.2.getD k.1 0).natAbs := Int.natAbs_pos.mpr h0
  unfold Bd at *
  refine Nat.lt_of_le_of_lt ?_ hb
  refine Nat.le_of_mul_le_mul_right (c := (k.2.getD k.1 0).natAbs) ?_ h4
  rw [h3, Nat.mul_comm (row.getD k.1 0).natAbs]
  exact Nat.mul_le_mul_right _ h2
theorem clV1_bd {a b : Nat} {row : List Int} {k : Nat × List Int} (h0 : k.2.getD k.1 0 ≠ 0) (ha : ∀ v ∈ row, Bd a v) (hb : ∀ v ∈ k.2, Bd b v) : ∀ v ∈ clV1 row k, Bd (a + b + 1) v := by
  intro v hv
  unfold clV1 at hv
  obtain ⟨p, hp, rfl⟩ := List.mem_map.mp hv
  obtain ⟨h1, h2⟩ := List.of_mem_zip hp
  obtain ⟨u, hu, e⟩ := List.mem_map.mp h1
  rw [← e]
  exact Bd.sub (((clM1_bd (getD_bd hb)).mul (ha u hu)).mono (by omega)) ((clG1_bd h0 (getD_bd ha)).mul (hb _ h2))
theorem usP_true {row : List Int} {k : Nat × List Int} (h : row.getD k.1 0 ≠ 0) : usP row k = true := by
  unfold usP
  rw [decide_eq_false h]
  rfl
theorem usP_false {row : List Int} {k : Nat × List Int} (h : row.getD k.1 0 = 0) : usP row k = false := by
  unfold usP
  rw [decide_eq_true h]
  rfl
theorem wrN_ok {t e : Nat} {ks : List (Nat × List Int)} (h : KeptOk t e ks) {row : List Int} (hr : row.length = t) (hb : ∀ v ∈ row, Bd e v) :
    (wrN ks row).length = t ∧ (∀ v ∈ wrN ks row, Bd (2 * e + 1) v) ∧ (ks = [] → ∀ v ∈ wrN ks row, Bd e v) ∧ (∀ k r, ks = k :: r → (wrN ks row).getD k.1 0 = 0) := by
  have hl : (clV row ks).length = t := by rw [clV_len fun k hk => by rw [h.kl k hk, hr]]; exact hr
  unfold wrN
  refine ⟨by rw [shF_len, hl], shF_bd ?_, fun e => shF_bd ?_, fun k r e => ?_⟩
  · cases ks with
    | nil => exact fun v hv => (hb v hv).mono (by omega)
    | cons k r =>
      show ∀ v ∈ (if usP row k then clV1 row k else row), _
      split
      · exact fun v hv => (clV1_bd (h.k0 k List.mem_cons_self) hb (h.kb k List.mem_cons_self) v hv).mono (by omega)
      · exact fun v hv => (hb v hv).mono (by omega)
  · subst e
    exact hb
  · subst e
    have hk := h.at_ k List.mem_cons_self
    have hkl := h.kl k List.mem_cons_self
    refine shF_zero (by rw [hl]; exact hk) ?_
    show (if usP row k then clV1 row k else row).getD k.1 0 = 0
    by_cases h0 : row.getD k.1 0 = 0
    · rw [usP_false h0]
      exact h0
    · rw [usP_true h0]
      exact clV1_zero (by rw [hkl, hr]) (by rw [hr]; exact hk) (h.k0 k List.mem_cons_self)
theorem wrO_ok {t e : Nat} {k : Nat × List Int} {at_ : Nat} {new : List Int} (h1 : k.1 < t) (h2 : k.2.length = t) (h3 : k.2.getD k.1 0 ≠ 0) (h4 : ∀ v ∈ k.2, Bd e v) (n1 : new.length = t) (n2 : at_ < t) (n3 : new.getD at_ 0 ≠ 0) (n4 : ∀ v ∈ new, Bd (2 * e + 1) v) (n5 : new.getD k.1 0 = 0) :
    (wrO at_ new k).1 < t ∧ (wrO at_ new k).2.length = t ∧ (wrO at_ new k).2.getD (wrO at_ new k).1 0 ≠ 0 ∧ ∀ v ∈ (wrO at_ new k).2, Bd (3 * e + 2) v := by
  refine ⟨h1, ?_⟩
  show (if k.2.getD at_ 0 = 0 then k.2 else shF (clV k.2 [(at_, new)])).length = t ∧ (if k.2.getD at_ 0 = 0 then k.2 else shF (clV k.2 [(at_, new)])).getD k.1 0 ≠ 0 ∧ ∀ v ∈ (if k.2.getD at_ 0 = 0 then k.2 else shF (clV k.2 [(at_, new)])), Bd (3 * e + 2) v
  by_cases h0 : k.2.getD at_ 0 = 0
  · rw [if_pos h0]
    exact ⟨h2, h3, fun v hv => (h4 v hv).mono (by omega)⟩
  · rw [if_neg h0]
    have e1 : clV k.2 [(at_, new)] = clV1 k.2 (at_, new) := (cl_pos (usP_true (k := (at_, new)) h0)).1
    have el : (clV1 k.2 (at_, new)).length = t := by rw [clV1_len (by show new.length = _; omega)]; exact h2
    rw [e1]
    refine ⟨by rw [shF_len]; exact el, shF_ne (by rw [el]; exact h1) ?_, shF_bd fun v hv => (clV1_bd (k := (at_, new)) n3 h4 n4 v hv).mono (by omega)⟩
    rw [clV1_at (k := (at_, new)) (by show new.length = _; omega) (by rw [h2]; exact h1)]
    show _ - _ * new.getD k.1 0 ≠ 0
    rw [n5, Int.mul_zero, Int.sub_zero]
    exact Int.mul_ne_zero (clM1_ne (k := (at_, new)) n3) h3
theorem wrF_ok {t e : Nat} {ks : List (Nat × List Int)} (h : KeptOk t e ks) (hl : ks.length ≤ 1) {row : List Int} (hr : row.length = t) (hb : ∀ v ∈ row, Bd e v) :
    KeptOk t (3 * e + 2) (wrF ks row) ∧ (wrF ks row).length ≤ ks.length + 1 ∧ (ks = [] → KeptOk t e (wrF ks row)) := by
  obtain ⟨n1, n2, n3, n4⟩ := wrN_ok h hr hb
  unfold wrF
  by_cases hf : fpN (wrN ks row) < (wrN ks row).length
  · rw [if_pos hf]
    have n0 := fpN_ne _ hf
    rw [n1] at hf
    have mem : ∀ x, x ∈ (ks.map (wrO (fpN (wrN ks row)) (wrN ks row)) ++ [(fpN (wrN ks row), wrN ks row)]).mergeSort (fun a b => decide ((a.1 : Int) ≤ (b.1 : Int))) → (∃ k, ks = [k] ∧ x = wrO (fpN (wrN ks row)) (wrN ks row) k) ∨ x = (fpN (wrN ks row), wrN ks row) := by
      intro x hx
      rw [List.mem_mergeSort] at hx
      rcases List.mem_append.mp hx with hx | hx
      · obtain ⟨k, hk, rfl⟩ := List.mem_map.mp hx
        left
        match ks, hl, hk with
        | [k'], _, hk => exact ⟨k', rfl, by rw [List.mem_singleton.mp hk]⟩
        | _ :: _ :: _, hl, _ => exact absurd hl (by simp)
      · exact .inr (List.mem_singleton.mp hx)
    have all : ∀ x, x ∈ (ks.map (wrO (fpN (wrN ks row)) (wrN ks row)) ++ [(fpN (wrN ks row), wrN ks row)]).mergeSort (fun a b => decide ((a.1 : Int) ≤ (b.1 : Int))) → x.1 < t ∧ x.2.length = t ∧ x.2.getD x.1 0 ≠ 0 ∧ ∀ v ∈ x.2, Bd (3 * e + 2) v := by
      intro x hx
      rcases mem x hx with ⟨k, ek, rfl⟩ | rfl
      · have hk : k ∈ ks := by rw [ek]; exact List.mem_singleton_self k
        exact wrO_ok (h.at_ k hk) (h.kl k hk) (h.k0 k hk) (h.kb k hk) n1 hf n0 n2 (n4 k [] ek)
      · exact ⟨hf, n1, n0, fun v hv => (n2 v hv).mono (by omega)⟩
    refine ⟨⟨fun k hk => (all k hk).1, fun k hk => (all k hk).2.1, fun k hk => (all k hk).2.2.1, fun k hk => (all k hk).2.2.2⟩, ?_, fun e0 => ?_⟩
    · rw [List.length_mergeSort, List.length_append, List.length_map]
      exact Nat.le_refl _
    · have one : ∀ x, x ∈ (ks.map (wrO (fpN (wrN ks row)) (wrN ks row)) ++ [(fpN (wrN ks row), wrN ks row)]).mergeSort (fun a b => decide ((a.1 : Int) ≤ (b.1 : Int))) → x = (fpN (wrN ks row), wrN ks row) := by
        intro x hx
        rcases mem x hx with ⟨k, ek, rfl⟩ | e1
        · rw [e0] at ek; cases ek
        · exact e1
      exact ⟨fun k hk => by rw [one k hk]; exact hf, fun k hk => by rw [one k hk]; exact n1, fun k hk => by rw [one k hk]; exact n0, fun k hk => by rw [one k hk]; exact n3 e0⟩
  · rw [if_neg hf]
    exact ⟨⟨h.at_, h.kl, h.k0, fun k hk v hv => (h.kb k hk v hv).mono (by omega)⟩, by omega, fun _ => h⟩
theorem sc_with_row : FnScope ["kept", "row", "rest", "many", "new", "at", "others", "place", "base"] ["kept", "row"] (defScope s_with_row) := ⟨rfl, rfl, rfl, by decide +kernel, rfl, by decide +kernel, by decide +kernel⟩
def sp_with_row : PreD := fun ds C R RX => ∃ (t e : Nat) (ks : List (Nat × List Int)) (row : List Int), ds = [.tup (ks.map bD), lI row] ∧ KeptOk t e ks ∧ e ≤ 31 ∧ ks.length ≤ 1 ∧ t ≤ 1000 ∧ row.length = t ∧ (∀ v ∈ row, Bd e v) ∧ R (.tup ((wrF ks row).map bD)) C
theorem ok_with_row {P : Program} {w : World} {K : PySem.W.Frag} {tt : List (Addr × Str)} {mg : Str → Option Value} {base : Heap} {f : Addr} {fd : FuncData} (F : FnP K "with_row" s_with_row f fd) (T : Txt K w mg) (h_cleared : HasF P w K tt mg base "cleared" ["row", "kept"] 1 sp_cleared) (h_shortened : HasF P w K tt mg base "shortened" ["row"] 2 sp_shortened) (h_first_place : HasF P w K tt mg base "first_place" ["row"] 1 sp_first_place) {cL PL : Addr} (hcode : fd.code = .ref cL) (TB : LamX.TabB base mg cL PL) (hmT : (PL, ("with_row.<locals>.<lambda>" : Str)) ∈ tt) (hu : ∀ p ∈ tt, p.1 = PL → p.2 = ("with_row.<locals>.<lambda>" : Str)) : FnOk P w K mg base (L2.CX P w) 3 f fd ["kept", "row"] (SpD K tt sp_with_row) := by
  refine body_okC F hcode sc_with_row (fun ds C R RX hp => by (obtain ⟨t, e, ks, row, rfl, hk, he, hl, ht, hr, hb, q⟩ := hp; rfl)) fun A outer s H E G0 ds C R RX B hp => ?_
  obtain ⟨t, e, ks, row, rfl, hk, he, hl, ht, hr, hb, q⟩ := hp
  obtain ⟨n1, n2, n3, n4⟩ := wrN_ok hk hr hb
  have hc := hk.cl (by omega) hl ht hr hb
  have hcl : (clV row ks).length = t := by rw [clV_len hc.kl]; exact hr
  have hcb : ∀ v ∈ clV row ks, Bd 4000 v := by
    cases ks with
    | nil => exact fun v hv => (hb v hv).mono (by omega)
    | cons k r =>
      show ∀ v ∈ (if usP row k then clV1 row k else row), _
      split
      · exact fun v hv => (clV1_bd (hk.k0 k List.mem_cons_self) hb (hk.kb k List.mem_cons_self) v hv).mono (by omega)
      · exact fun v hv => (hb v hv).mono (by omega)
  refine wss_cons (ws_asg (we_call h_cleared B.room (by decide) B.tk (wa_cons (we_name 1 rfl (wa_cons (we_name 0 rfl (wa_nil ?_)))))))
  refine ⟨row, ks, _, rfl, .inl rfl, hc, ?_⟩
  refine wg_tup rfl rfl ?_
  refine ⟨_, _, rfl, wg_name 2 ?_ sc_with_row.nd⟩
  refine ⟨_, _, rfl, wg_name 3 ?_ sc_with_row.nd⟩
  refine ⟨rfl, ?_⟩
  refine wss_cons (ws_set 4 ?_ sc_with_row.nd)
  refine we_call h_shortened B.room (by decide) B.tk (wa_cons (we_name 2 rfl (wa_nil ?_)))
  refine ⟨_, rfl, by omega, hcb, ?_⟩
  rw [show shF (clV row ks) = wrN ks row from rfl]
  refine wss_cons (ws_set 5 ?_ sc_with_row.nd)
  refine we_call h_first_place B.room (by decide) B.tk (wa_cons (we_name 4 rfl (wa_nil ?_)))
  refine ⟨_, rfl, ?_⟩
  refine wss_cons (ws_if (wt_cmp (we_name 5 rfl (we_non ?_))))
  refine ⟨decide (¬ fpN (wrN ks row) < (wrN ks row).length), fpN_none, ?_⟩
  refine ⟨fun hif1 => ?_, fun hif1 => ?_⟩
  · try replace hif1 := of_decide_eq_true hif1
    refine wss_cons (ws_ret (we_name 0 rfl ?_))
    unfold wrF at q
    rw [if_neg hif1] at q
    exact q
  try replace hif1 := of_decide_eq_false hif1
  refine wss_nil ?_
  refine wss_cons (ws_setLc 6 [("place", 7), ("base", 8)] [7, 8] (fun _ _ _ _ _ => tgt_tup2 (by decide) (by decide) sc_with_row.nd) sc_with_row.nd (blkOk_by (by kernel_rfl)) (wi_seq (we_name 0 rfl ?_)))
  have hlt : fpN (wrN ks row) < (wrN ks row).length := Classical.not_not.mp hif1
  rw [if_pos hlt]
  refine ⟨_, .tup _, ?_⟩
  refine lc_map (ks) (bD) (fun k => bD (wrO (fpN (wrN ks row)) (wrN ks row) k)) (rfl) (sz (by omega)) (fun x hx => .tup2 _ _ _ _ _) (fun k hx s H cl Cc fp G C' hC => ?_) ?_
  · skip
    have hkl := hk.kl k hx
    have hkt := hk.at_ k hx
    have hkb := hk.kb k hx
    have n0 := fpN_ne _ hlt
    refine we_tup (wa_cons (we_name 7 rfl (wa_cons ?_)))
    refine WE.mono (Q := fun d C1 => d = lI (wrO (fpN (wrN ks row)) (wrN ks row) k).2 ∧ C1 = C') ?_ (fun d C1 hd => ?_)
    · skip
      refine we_if (wt_cmp (we_ix (we_name 8 rfl (we_name 5 rfl ?_))))
      refine ⟨_, .seq (.l (.v _)) (atI_int (by omega)), ?_⟩
      refine we_int ?_
      walk_at "cmp"
      refine ⟨fun hife1 => ?_, fun hife1 => ?_⟩
      · try replace hife1 := of_decide_eq_true hife1
        refine we_name 8 rfl ?_
        refine ⟨?_, rfl⟩
        unfold wrO
        rw [if_pos hife1]
      · try replace hife1 := of_decide_eq_false hife1
        refine we_call h_shortened (blkB B).room (by decide) (blkB B).tk (wa_cons (we_ix (we_call h_cleared (blkB B).room (by decide) (blkB B).tk (wa_cons (we_name 8 rfl (wa_cons (we_lst (wa_cons (we_tup (wa_cons (we_name 5 rfl (wa_cons (we_name 4 rfl (wa_nil ?_))))))))))))))
        refine ⟨by walk_at "tsz", ?_⟩
        refine wa_nil ?_
        refine ⟨by walk_at "tsz", ?_⟩
        refine wa_nil ?_
        refine ⟨k.2, [(fpN (wrN ks row), wrN ks row)], _, rfl, .inr rfl, ⟨by simp, by omega, fun v hv => (hkb v hv).mono (by omega), fun x hx => by rw [List.mem_singleton.mp hx]; omega, fun x hx => by rw [List.mem_singleton.mp hx]; show (wrN ks row).length = _; omega, fun x hx => by rw [List.mem_singleton.mp hx]; exact n0, fun x hx v hv => (n2 v (by rw [List.mem_singleton.mp hx] at hv; exact hv)).mono (by omega)⟩, ?_⟩
        refine we_int ?_
        refine ⟨_, .seq (.t _) rfl, ?_⟩
        refine wa_nil ?_
        have ecl : clV k.2 [(fpN (wrN ks row), wrN ks row)] = clV1 k.2 (fpN (wrN ks row), wrN ks row) := (cl_pos (usP_true (k := (fpN (wrN ks row), wrN ks row)) hife1)).1
        have ell : (clV k.2 [(fpN (wrN ks row), wrN ks row)]).length = t := by rw [ecl, clV1_len (by show (wrN ks row).length = _; omega)]; exact hkl
        refine ⟨_, rfl, by omega, fun v hv => ?_, ?_⟩
        · rw [ecl] at hv
          exact (clV1_bd (k := (fpN (wrN ks row), wrN ks row)) n0 hkb n2 v hv).mono (by omega)
        refine ⟨?_, rfl⟩
        unfold wrO
        rw [if_neg hife1]
    obtain ⟨rfl, rfl⟩ := hd
    refine wa_nil ?_
    refine ⟨by walk_at "tsz", ?_⟩
    exact ⟨rfl, rfl⟩
  refine wss_cons (ws_ret (we_ty (T := "tuple") T.tuple (wa_cons (we_sortedFirst TB rfl hmT hu (by constructor <;> first | rfl | decide +kernel | (intro y hy; revert y; decide +kernel)) B.room T.sorted (wa_cons (we_bin (we_name 6 rfl (we_lst (wa_cons (we_tup (wa_cons (we_name 5 rfl (wa_cons (we_name 4 rfl (wa_nil ?_)))))))))))))))
  refine ⟨by walk_at "tsz", ?_⟩
  refine wa_nil ?_
  refine ⟨by walk_at "tsz", ?_⟩
  walk_at "op"
  refine wa_nil ?_
  refine ⟨_, (ks.map (wrO (fpN (wrN ks row)) (wrN ks row)) ++ [(fpN (wrN ks row), wrN ks row)]).map (fun k => ((k.1 : Int), bD k)), rfl, ?_, ?_, ?_⟩
  · rw [List.map_map, List.map_append, List.map_map]
    exact .v _
  · intro kd hkd
    obtain ⟨x, _, rfl⟩ := List.mem_map.mp hkd
    exact ⟨_, rfl⟩
  rw [← List.map_mergeSort (r := fun a b => decide ((a.1 : Int) ≤ (b.1 : Int))) (fun a _ b _ => rfl), List.map_map]
  refine wa_nil ?_
  walk_at "blt"
  unfold wrF at q
  rw [if_pos hlt] at q
  exact q
end K60
set_option Elab.async false
set_option linter.all false
set_option maxRecDepth 100000
set_option maxHeartbeats 4000000
namespace K60
open PySem PySem.Spec PyProof.Rows L2 Evl DW
local macro_rules | `(tactic| walk_at "seq") => `(tactic| first | exact .l (.v _) | exact .t _ | exact .r _ | exact .l (.c setC_same) | exact .l (.c (by assumption)))
local macro_rules | `(tactic| walk_at "lin") => `(tactic| first | exact .v _ | exact .c setC_same | exact .c (by assumption))
local macro_rules | `(tactic| walk_at "size") => `(tactic| first | (refine sz ?_; first | omega | (simp only [List.length_map, List.length_range, List.length_append, List.length_cons, List.length_nil, List.length_replicate] at *; omega)) | decide)
local macro_rules | `(tactic| walk_at "mulok") => `(tactic| first | exact mulR (by decide) (by decide) | exact mulL (by decide) (by decide) | assumption | exact mulL (by omega) (by omega) | exact mulR (by omega) (by omega))
local macro_rules | `(tactic| walk_at "op") => `(tactic| first
  | refine ⟨_, .add _ _, ?_⟩
  | refine ⟨_, .sub _ _, ?_⟩
  | refine ⟨_, .mul _ _ (by walk_at "mulok"), ?_⟩
  | refine ⟨_, .mod _ _ (by first | decide | omega | assumption), ?_⟩
  | refine ⟨_, .div _ _ (by first | decide | omega | assumption) (by first | decide | assumption), ?_⟩
  | refine ⟨_, .pow _ _ (by decide), ?_⟩
  | refine ⟨_, .adds _ _ (by walk_at "size"), ?_⟩
  | refine ⟨_, .catT _ _ (by walk_at "size"), ?_⟩
  | refine ⟨_, .cat (by walk_at "lin") (by walk_at "lin") (by walk_at "size"), ?_⟩
  | refine ⟨_, .rep _ (by walk_at "lin") (by first | decide | omega) (by first | decide | omega) (by walk_at "size"), ?_⟩)
local macro_rules | `(tactic| walk_at "cmp") => `(tactic| first
  | refine ⟨_, .lt _ _, ?_⟩ | refine ⟨_, .le _ _, ?_⟩ | refine ⟨_, .gt _ _, ?_⟩ | refine ⟨_, .ge _ _, ?_⟩
  | refine ⟨_, .eqI _ _, ?_⟩ | refine ⟨_, .neI _ _, ?_⟩ | refine ⟨_, .eqS _ _, ?_⟩ | refine ⟨_, .neS _ _, ?_⟩ | refine ⟨_, .eqB _ _, ?_⟩ | refine ⟨_, .neB _ _, ?_⟩
  | refine ⟨_, .isN, ?_⟩ | refine ⟨_, .ntN, ?_⟩ | refine ⟨_, .isC, ?_⟩ | refine ⟨_, .ntC, ?_⟩ | refine ⟨_, .isNo trivial, ?_⟩ | refine ⟨_, .ntNo trivial, ?_⟩)
local macro_rules | `(tactic| walk_at "ix") => `(tactic| first | refine ⟨_, .seq (by walk_at "seq") rfl, ?_⟩)
local macro_rules | `(tactic| walk_at "slc") => `(tactic| first | refine ⟨_, .lst _ _ (by walk_at "lin"), ?_⟩ | refine ⟨_, .tup _ _ _, ?_⟩ | refine ⟨_, .rol _ _ _, ?_⟩ | refine ⟨_, .str _ _ _ (by walk_at "size"), ?_⟩)
local macro_rules | `(tactic| walk_at "blt") => `(tactic| first
  | refine ⟨_, .len (by walk_at "seq"), ?_⟩ | refine ⟨_, .lenS _ (by walk_at "size"), ?_⟩ | refine ⟨_, .abs _, ?_⟩ | refine ⟨_, .max2 _ _ rfl, ?_⟩ | refine ⟨_, .min2 _ _ rfl, ?_⟩
  | refine ⟨_, .int _, ?_⟩ | refine ⟨_, .intB _, ?_⟩ | refine ⟨_, .bool _, ?_⟩ | refine ⟨_, .boolI _, ?_⟩
  | refine ⟨_, .sum _ (by walk_at "lin") rfl, ?_⟩ | refine ⟨_, .all _ (by walk_at "lin") rfl, ?_⟩ | refine ⟨_, .any _ (by walk_at "lin") rfl, ?_⟩
  | refine ⟨_, .list (by walk_at "seq"), ?_⟩ | refine ⟨_, .tuple (by walk_at "lin"), ?_⟩ | refine ⟨_, .tupleT _, ?_⟩)
local macro_rules | `(tactic| walk_at "sub") => `(tactic| (refine ⟨_, _, _, _, rfl, rfl, (by first | exact setC_same | assumption), rfl, ?_⟩; try rw [setC_setC]))
local macro_rules | `(tactic| walk_at "fun") => `(tactic| first | refine ⟨_, .gcd _ _, ?_⟩ | refine ⟨_, .lcm _ _ (by assumption) (by assumption), ?_⟩ | refine ⟨_, .lcm _ _ (by omega) (by omega), ?_⟩ | refine ⟨_, .comb _ _ (by omega) (by omega) (by omega) (by omega), ?_⟩)
local macro_rules | `(tactic| walk_at "sizelt") => `(tactic| first | (refine szlt ?_; first | omega | (simp only [List.length_map, List.length_range, List.length_append, List.length_cons, List.length_nil, List.length_replicate] at *; omega)) | decide)
local macro_rules | `(tactic| walk_at "meth") => `(tactic| first | refine ⟨_, .startswith _ _, ?_⟩ | refine ⟨_, .strip _ _ (by walk_at "size"), ?_⟩ | refine ⟨_, .partition _ _ rfl (by walk_at "size"), ?_⟩ | refine ⟨_, .split _ _ rfl (by walk_at "size"), ?_⟩)
local macro_rules | `(tactic| walk_at "tsz") => `(tactic| first | decide | exact sz (by simp))
local macro_rules | `(tactic| walk_at "jsz") => `(tactic| first | decide | walk_at "size" | (refine sz ?_; simp; omega))
local macro_rules | `(tactic| walk_at "log") => `(tactic| first | assumption | omega)
def whR (ps : List (Int × Int)) : List Int := ps.map fun p => p.1 * (cbP ps / p.2)
structure PRow (t a b : Nat) (ps : List (Int × Int)) : Prop where
  len : ps.length = t
  top : ∀ p ∈ ps, Bd a p.1
  bot : ∃ m : Int, 0 < m ∧ Bd b m ∧ ∀ p ∈ ps, 0 < p.2 ∧ p.2 ∣ m
theorem whR_ok {t a b : Nat} {ps : List (Int × Int)} (h : PRow t a b ps) : (whR ps).length = t ∧ ∀ v ∈ whR ps, Bd (a + b) v := by
  obtain ⟨m, hm, hb, hd⟩ := h.bot
  refine ⟨by unfold whR; rw [List.length_map]; exact h.len, fun v hv => ?_⟩
  unfold whR at hv
  obtain ⟨p, hp, rfl⟩ := List.mem_map.mp hv
  have hu := cbP_dvd ps 1 m ⟨by decide, Int.one_dvd m⟩ hd
  exact (h.top p hp).mul (ediv_bd (dvd_bd hm hu.2 hb))
def spF (rows : List (List (Int × Int))) : List (Nat × List Int) := rows.foldl (fun ks ps => wrF ks (whR ps)) []
theorem spF_snoc (rows : List (List (Int × Int))) (r : List (Int × Int)) : spF (rows ++ [r]) = wrF (spF rows) (whR r) := by
  unfold spF
  rw [List.foldl_append]
  rfl
theorem kept_nil {t e : Nat} : KeptOk t e [] := ⟨fun k h => (nomatch h), fun k h => (nomatch h), fun k h => (nomatch h), fun k h => (nomatch h)⟩
theorem spF_one {t a b : Nat} {rows : List (List (Int × Int))} (hl : rows.length ≤ 1) (h : ∀ r ∈ rows, PRow t a b r) : KeptOk t (a + b) (spF rows) ∧ (spF rows).length ≤ 1 := by
  match rows, hl with
  | [], _ => exact ⟨kept_nil, by decide⟩
  | [r], _ =>
    have h1 := whR_ok (h r (List.mem_singleton_self r))
    have h2 := wrF_ok (kept_nil (t := t) (e := a + b)) (by decide) h1.1 h1.2
    exact ⟨h2.2.2 rfl, h2.2.1⟩
  | _ :: _ :: _, hl => exact absurd hl (by simp)
theorem spF_two {t a b : Nat} {rows : List (List (Int × Int))} (hl : rows.length ≤ 2) (h : ∀ r ∈ rows, PRow t a b r) : KeptOk t (3 * (a + b) + 2) (spF rows) ∧ (spF rows).length ≤ 2 := by
  rcases List.eq_nil_or_concat rows with rfl | ⟨pre, r, rfl⟩
  · exact ⟨kept_nil, by decide⟩
  · rw [List.concat_eq_append] at hl h ⊢
    rw [List.length_append, List.length_singleton] at hl
    obtain ⟨h1, h2⟩ := spF_one (rows := pre) (by omega) fun r hr => h r (List.mem_append_left _ hr)
    have h3 := whR_ok (h r (by simp))
    have h4 := wrF_ok h1 h2 h3.1 h3.2
    rw [spF_snoc]
    exact ⟨h4.1, by omega⟩
def krR (k : Nat × List Int) : List (Int × Int) := k.2.map fun v => lowP v (k.2.getD k.1 0)
theorem lowP_ok {v p : Int} (h : p ≠ 0) : 0 < (lowP v p).2 ∧ (lowP v p).2 ∣ ((p.natAbs : Nat) : Int) ∧ (lowP v p).1.natAbs ≤ v.natAbs := by
  have hg := Nat.gcd_dvd_right v.natAbs p.natAbs
  have h1 : 0 < p.natAbs := Int.natAbs_pos.mpr h
  have h2 := Nat.gcd_pos_of_pos_right v.natAbs h1
  have h3 : 0 < p.natAbs / Nat.gcd v.natAbs p.natAbs := Nat.div_pos (Nat.le_of_dvd h1 hg) h2
  have h4 : p.natAbs / Nat.gcd v.natAbs p.natAbs ∣ p.natAbs := Nat.div_dvd_of_dvd hg
  have key : ∀ q : Int, q.natAbs = p.natAbs → 0 < q → 0 < q / ((Nat.gcd v.natAbs p.natAbs : Nat) : Int) ∧ q / ((Nat.gcd v.natAbs p.natAbs : Nat) : Int) ∣ ((p.natAbs : Nat) : Int) := by
    intro q hq h0
    have e : q = ((p.natAbs : Nat) : Int) := by omega
    rw [e, ← Int.natCast_ediv]
    exact ⟨by omega, Int.natCast_dvd_natCast.mpr h4⟩
  unfold lowP
  split
  · obtain ⟨k1, k2⟩ := key (-p) (by omega) (by omega)
    exact ⟨k1, k2, Nat.le_trans (Int.natAbs_ediv_le_natAbs _ _) (by omega)⟩
  · obtain ⟨k1, k2⟩ := key p rfl (by omega)
    exact ⟨k1, k2, Int.natAbs_ediv_le_natAbs _ _⟩
theorem krR_ok {t e : Nat} {ks : List (Nat × List Int)} (h : KeptOk t e ks) : ∀ k ∈ ks, PRow t e e (krR k) := by
  intro k hk
  have h0 := h.k0 k hk
  have hp : Bd e (k.2.getD k.1 0) := getD_bd (h.kb k hk)
  refine ⟨by unfold krR; rw [List.length_map]; exact h.kl k hk, fun p hp => ?_, (((k.2.getD k.1 0).natAbs : Nat) : Int), ?_, ?_, fun p hp => ?_⟩
  · unfold krR at hp
    obtain ⟨v, hv, rfl⟩ := List.mem_map.mp hp
    exact Nat.lt_of_le_of_lt (lowP_ok h0).2.2 (h.kb k hk v hv)
  · have := Int.natAbs_pos.mpr h0
    omega
  · unfold Bd at *
    rw [Int.natAbs_natCast]
    exact hp
  · unfold krR at hp
    obtain ⟨v, hv, rfl⟩ := List.mem_map.mp hp
    exact ⟨(lowP_ok h0).1, (lowP_ok h0).2.1⟩
def rdF (rows : List (List (Int × Int))) : List (List (Int × Int)) := (spF rows).map krR
theorem rdF_ok {t a b : Nat} {rows : List (List (Int × Int))} (hl : rows.length ≤ 2) (h : ∀ r ∈ rows, PRow t a b r) : (rdF rows).length ≤ 2 ∧ ∀ r ∈ rdF rows, PRow t (3 * (a + b) + 2) (3 * (a + b) + 2) r := by
  obtain ⟨h1, h2⟩ := spF_two hl h
  unfold rdF
  refine ⟨by rw [List.length_map]; exact h2, fun r hr => ?_⟩
  obtain ⟨k, hk, rfl⟩ := List.mem_map.mp hr
  exact krR_ok h1 k hk
theorem sc_added : FnScope ["kept", "row"] ["kept", "row"] (defScope s_added) := ⟨rfl, rfl, rfl, by decide +kernel, rfl, by decide +kernel, by decide +kernel⟩
def sp_added : PreD := fun ds C R RX => ∃ (t a b : Nat) (ks : List (Nat × List Int)) (ps : List (Int × Int)), ds = [.tup (ks.map bD), pairsD ps] ∧ KeptOk t (a + b) ks ∧ a + b ≤ 31 ∧ ks.length ≤ 1 ∧ t ≤ 1000 ∧ PRow t a b ps ∧ R (.tup ((wrF ks (whR ps)).map bD)) C
theorem ok_added {P : Program} {w : World} {K : PySem.W.Frag} {tt : List (Addr × Str)} {mg : Str → Option Value} {base : Heap} {f : Addr} {fd : FuncData} (F : FnP K "added" s_added f fd) (T : Txt K w mg) (h_with_row : HasF P w K tt mg base "with_row" ["kept", "row"] 3 sp_with_row) (h_whole_row : HasF P w K tt mg base "whole_row" ["row"] 2 sp_whole_row) : FnOk P w K mg base (L2.CX P w) 4 f fd ["kept", "row"] (SpD K tt sp_added) := by
  refine body_ok F sc_added (fun ds C R RX hp => by (obtain ⟨t, a, b, ks, ps, rfl, hk, he, hl, ht, hp, q⟩ := hp; rfl)) fun cdv A outer s H E G0 ds C R RX B hp => ?_
  obtain ⟨t, a, b, ks, ps, rfl, hk, he, hl, ht, hp, q⟩ := hp
  obtain ⟨m, hm, hmb, hd⟩ := hp.bot
  have hw := whR_ok hp
  refine wss_cons (ws_ret (we_call h_with_row B.room (by decide) B.tk (wa_cons (we_name 0 rfl (wa_cons (we_call h_whole_row B.room (by decide) B.tk (wa_cons (we_name 1 rfl (wa_nil ?_)))))))))
  refine ⟨ps, m, rfl, by rw [hp.len]; omega, hm, hmb.mono (by omega), hd, fun p h => (hp.top p h).mono (by omega), ?_⟩
  refine wa_nil ?_
  exact ⟨t, a + b, ks, whR ps, rfl, hk, he, hl, ht, hw.1, hw.2, q⟩
theorem sc_kept_rows : FnScope ["kept", "number", "place", "row"] ["kept"] (defScope s_kept_rows) := ⟨rfl, rfl, rfl, by decide +kernel, rfl, by decide +kernel, by decide +kernel⟩
def sp_kept_rows : PreD := fun ds C R RX => ∃ (t : Nat) (ks : List (Nat × List Int)), ds = [.tup (ks.map bD)] ∧ KeptOk t 4000 ks ∧ ks.length ≤ 1000 ∧ t ≤ 1000 ∧ R (.tup ((ks.map krR).map pairsD)) C
theorem ok_kept_rows {P : Program} {w : World} {K : PySem.W.Frag} {tt : List (Addr × Str)} {mg : Str → Option Value} {base : Heap} {f : Addr} {fd : FuncData} (F : FnP K "kept_rows" s_kept_rows f fd) (T : Txt K w mg) (h_lowest : HasF P w K tt mg base "lowest" ["top", "bottom"] 1 sp_lowest) : FnOk P w K mg base (L2.CX P w) 2 f fd ["kept"] (SpD K tt sp_kept_rows) := by
  refine body_ok F sc_kept_rows (fun ds C R RX hp => by (obtain ⟨t, ks, rfl, hk, hl, ht, q⟩ := hp; rfl)) fun cdv A outer s H E G0 ds C R RX B hp => ?_
  obtain ⟨t, ks, rfl, hk, hl, ht, q⟩ := hp
  refine wss_cons (ws_ret (we_ty (T := "tuple") T.tuple (wa_cons (we_lc [("place", 2), ("row", 3)] [2, 3] (fun _ _ _ _ _ => tgt_tup2 (by decide) (by decide) sc_kept_rows.nd) sc_kept_rows.nd (blkOk_by (by kernel_rfl)) (wi_seq (we_name 0 rfl ?_))))))
  refine ⟨_, .tup _, ?_⟩
  refine lc_map (ks) (bD) (fun k => pairsD (krR k)) (rfl) (sz (by omega)) (fun x hx => .tup2 _ _ _ _ _) (fun k hx s H cl Cc fp G C' hC => ?_) ?_
  · skip
    have hkl := hk.kl k hx
    have hkt := hk.at_ k hx
    have hk0 := hk.k0 k hx
    have hkb := hk.kb k hx
    refine we_ty (T := "tuple") T.tuple (wa_cons (we_lc [("number", 1)] [1] (fun _ _ _ _ _ => tgt_one (by decide) sc_kept_rows.nd) sc_kept_rows.nd (blkOk_by (by kernel_rfl)) (wi_seq (we_name 3 rfl ?_))))
    refine ⟨_, .lst _, ?_⟩
    refine lc_map (k.2) (D.int) (fun v => pD (lowP v (k.2.getD k.1 0))) (rfl) (sz (by omega)) (fun x hx => .one _ _ _) (fun v hx s H cl Cc fp G C' hC => ?_) ?_
    · skip
      refine we_call h_lowest (blkC (blkB B)).room (by decide) (blkC (blkB B)).tk (wa_cons (we_name 1 rfl (wa_cons (we_ix (we_name 3 rfl (we_name 2 rfl ?_))))))
      refine ⟨_, .seq (.l (.v _)) (atI_int (by omega)), ?_⟩
      refine wa_nil ?_
      refine ⟨_, _, rfl, hk0, getD_bd hkb, rfl, rfl⟩
    refine wa_nil ?_
    walk_at "blt"
    refine ⟨?_, rfl⟩
    unfold pairsD krR
    rw [List.map_map]
    rfl
  refine wa_nil ?_
  walk_at "blt"
  rw [List.map_map] at q
  exact q
theorem sc_span_of : FnScope ["rows", "kept", "row"] ["rows"] (defScope s_span_of) := ⟨rfl, rfl, rfl, by decide +kernel, rfl, by decide +kernel, by decide +kernel⟩
def sp_span_of : PreD := fun ds C R RX => ∃ (t a b : Nat) (rows : List (List (Int × Int))) (x : D), ds = [x] ∧ (x = .tup (rows.map pairsD) ∨ x = .lst (rows.map pairsD)) ∧ a + b ≤ 31 ∧ rows.length ≤ 2 ∧ t ≤ 1000 ∧ (∀ r ∈ rows, PRow t a b r) ∧ R (.tup ((spF rows).map bD)) C
theorem ok_span_of {P : Program} {w : World} {K : PySem.W.Frag} {tt : List (Addr × Str)} {mg : Str → Option Value} {base : Heap} {f : Addr} {fd : FuncData} (F : FnP K "span_of" s_span_of f fd) (T : Txt K w mg) (h_added : HasF P w K tt mg base "added" ["kept", "row"] 4 sp_added) : FnOk P w K mg base (L2.CX P w) 5 f fd ["rows"] (SpD K tt sp_span_of) := by
  refine body_ok F sc_span_of (fun ds C R RX hp => by (obtain ⟨t, a, b, rows, x, rfl, hx0, he, hl, ht, hp, q⟩ := hp; rfl)) fun cdv A outer s H E G0 ds C R RX B hp => ?_
  obtain ⟨t, a, b, rows, x, rfl, hx0, he, hl, ht, hp, q⟩ := hp
  refine wss_cons (ws_set 1 ?_ sc_span_of.nd)
  refine we_tup (wa_nil ?_)
  refine ⟨by walk_at "tsz", ?_⟩
  refine wss_cons (ws_forL ?_ B.po)
  refine wi_seq (we_name 0 rfl ?_)
  refine ⟨rows.map pairsD, by rcases hx0 with e | e <;> (subst e; constructor), ?_⟩
  refine ⟨_, rows, pairsD, fun pre σ' C' => ∃ o, σ' = [some x, some (.tup ((spF pre).map bD)), o] ∧ C' = C, rfl, ?_, fun G1 hG1 pre1 it1 post1 σ' C' hx1 hI => ?_, fun σ' C' hI => ?_⟩
  · exact ⟨_, rfl, rfl⟩
  · obtain ⟨o, rfl, rfl⟩ := hI
    have hlen : pre1.length ≤ 1 := by
      have := congrArg List.length hx1
      rw [List.length_append, List.length_cons] at this
      omega
    obtain ⟨h1, h2⟩ := spF_one hlen fun r hr => hp r (by rw [hx1]; simp [hr])
    refine wg_name 2 ?_ sc_span_of.nd
    refine wss_cons (ws_set 1 ?_ sc_span_of.nd)
    refine we_call h_added (B.base hG1).room (by decide) (B.base hG1).tk (wa_cons (we_name 1 rfl (wa_cons (we_name 2 rfl (wa_nil ?_)))))
    refine ⟨t, a, b, _, it1, rfl, h1, he, h2, ht, hp it1 (by rw [hx1]; simp), ?_⟩
    refine wss_nil ?_
    refine ⟨some (pairsD it1), ?_, rfl⟩
    rw [spF_snoc]
    rfl
  obtain ⟨o, rfl, rfl⟩ := hI
  refine wss_cons (ws_ret (we_name 1 rfl ?_))
  exact q
theorem sc_reduce_rows : FnScope ["rows"] ["rows"] (defScope s_reduce_rows) := ⟨rfl, rfl, rfl, by decide +kernel, rfl, by decide +kernel, by decide +kernel⟩
def sp_reduce_rows : PreD := fun ds C R RX => ∃ (t a b : Nat) (rows : List (List (Int × Int))) (x : D), ds = [x] ∧ (x = .tup (rows.map pairsD) ∨ x = .lst (rows.map pairsD)) ∧ a + b ≤ 31 ∧ rows.length ≤ 2 ∧ t ≤ 1000 ∧ (∀ r ∈ rows, PRow t a b r) ∧ R (.tup ((rdF rows).map pairsD)) C
theorem ok_reduce_rows {P : Program} {w : World} {K : PySem.W.Frag} {tt : List (Addr × Str)} {mg : Str → Option Value} {base : Heap} {f : Addr} {fd : FuncData} (F : FnP K "reduce_rows" s_reduce_rows f fd) (T : Txt K w mg) (h_kept_rows : HasF P w K tt mg base "kept_rows" ["kept"] 2 sp_kept_rows) (h_span_of : HasF P w K tt mg base "span_of" ["rows"] 5 sp_span_of) : FnOk P w K mg base (L2.CX P w) 6 f fd ["rows"] (SpD K tt sp_reduce_rows) := by
  refine body_ok F sc_reduce_rows (fun ds C R RX hp => by (obtain ⟨t, a, b, rows, x, rfl, hx0, he, hl, ht, hp, q⟩ := hp; rfl)) fun cdv A outer s H E G0 ds C R RX B hp => ?_
  obtain ⟨t, a, b, rows, x, rfl, hx0, he, hl, ht, hp, q⟩ := hp
  refine wss_cons (ws_ret (we_call h_kept_rows B.room (by decide) B.tk (wa_cons (we_call h_span_of B.room (by decide) B.tk (wa_cons (we_name 0 rfl (wa_nil ?_)))))))
  refine ⟨t, a, b, rows, x, rfl, hx0, he, hl, ht, hp, ?_⟩
  refine wa_nil ?_
  obtain ⟨h1, h2⟩ := spF_two hl hp
  exact ⟨t, _, rfl, ⟨h1.at_, h1.kl, h1.k0, fun k hk v hv => (h1.kb k hk v hv).mono (by omega)⟩, by omega, ht, q⟩
end K60
set_option Elab.async false
set_option linter.all false
set_option maxRecDepth 100000
set_option maxHeartbeats 4000000
namespace K60
open PySem PySem.Spec PyProof.Rows L2 Evl DW
local macro_rules | `(tactic| walk_at "seq") => `(tactic| first | exact .l (.v _) | exact .t _ | exact .r _ | exact .l (.c setC_same) | exact .l (.c (by assumption)))
local macro_rules | `(tactic| walk_at "lin") => `(tactic| first | exact .v _ | exact .c setC_same | exact .c (by assumption))
local macro_rules | `(tactic| walk_at "size") => `(tactic| first | (refine sz ?_; first | omega | (simp only [List.length_map, List.length_range, List.length_append, List.length_cons, List.length_nil, List.length_replicate] at *; omega)) | decide)
local macro_rules | `(tactic| walk_at "mulok") => `(tactic| first | exact mulR (by decide) (by decide) | exact mulL (by decide) (by decide) | assumption | exact mulL (by omega) (by omega) | exact mulR (by omega) (by omega))
local macro_rules | `(tactic| walk_at "op") => `(tactic| first
  | refine ⟨_, .add _ _, ?_⟩
  | refine ⟨_, .sub _ _, ?_⟩
  | refine ⟨_, .mul _ _ (by walk_at "mulok"), ?_⟩
  | refine ⟨_, .mod _ _ (by first | decide | omega | assumption), ?_⟩
  | refine ⟨_, .div _ _ (by first | decide | omega | assumption) (by first | decide | assumption), ?_⟩
  | refine ⟨_, .pow _ _ (by decide), ?_⟩
  | refine ⟨_, .adds _ _ (by walk_at "size"), ?_⟩
  | refine ⟨_, .catT _ _ (by walk_at "size"), ?_⟩
  | refine ⟨_, .cat (by walk_at "lin") (by walk_at "lin") (by walk_at "size"), ?_⟩
  | refine ⟨_, .rep _ (by walk_at "lin") (by first | decide | omega) (by first | decide | omega) (by walk_at "size"), ?_⟩)
local macro_rules | `(tactic| walk_at "cmp") => `(tactic| first
  | refine ⟨_, .lt _ _, ?_⟩ | refine ⟨_, .le _ _, ?_⟩ | refine ⟨_, .gt _ _, ?_⟩ | refine ⟨_, .ge _ _, ?_⟩
  | refine ⟨_, .eqI _ _, ?_⟩ | refine ⟨_, .neI _ _, ?_⟩ | refine ⟨_, .eqS _ _, ?_⟩ | refine ⟨_, .neS _ _, ?_⟩ | refine ⟨_, .eqB _ _, ?_⟩ | refine ⟨_, .neB _ _, ?_⟩
  | refine ⟨_, .isN, ?_⟩ | refine ⟨_, .ntN, ?_⟩ | refine ⟨_, .isC, ?_⟩ | refine ⟨_, .ntC, ?_⟩ | refine ⟨_, .isNo trivial, ?_⟩ | refine ⟨_, .ntNo trivial, ?_⟩)
local macro_rules | `(tactic| walk_at "ix") => `(tactic| first | refine ⟨_, .seq (by walk_at "seq") rfl, ?_⟩)
local macro_rules | `(tactic| walk_at "slc") => `(tactic| first | refine ⟨_, .lst _ _ (by walk_at "lin"), ?_⟩ | refine ⟨_, .tup _ _ _, ?_⟩ | refine ⟨_, .rol _ _ _, ?_⟩ | refine ⟨_, .str _ _ _ (by walk_at "size"), ?_⟩)
local macro_rules | `(tactic| walk_at "blt") => `(tactic| first
  | refine ⟨_, .len (by walk_at "seq"), ?_⟩ | refine ⟨_, .lenS _ (by walk_at "size"), ?_⟩ | refine ⟨_, .abs _, ?_⟩ | refine ⟨_, .max2 _ _ rfl, ?_⟩ | refine ⟨_, .min2 _ _ rfl, ?_⟩
  | refine ⟨_, .int _, ?_⟩ | refine ⟨_, .intB _, ?_⟩ | refine ⟨_, .bool _, ?_⟩ | refine ⟨_, .boolI _, ?_⟩
  | refine ⟨_, .sum _ (by walk_at "lin") rfl, ?_⟩ | refine ⟨_, .all _ (by walk_at "lin") rfl, ?_⟩ | refine ⟨_, .any _ (by walk_at "lin") rfl, ?_⟩
  | refine ⟨_, .list (by walk_at "seq"), ?_⟩ | refine ⟨_, .tuple (by walk_at "lin"), ?_⟩ | refine ⟨_, .tupleT _, ?_⟩)
local macro_rules | `(tactic| walk_at "sub") => `(tactic| (refine ⟨_, _, _, _, rfl, rfl, (by first | exact setC_same | assumption), rfl, ?_⟩; try rw [setC_setC]))
local macro_rules | `(tactic| walk_at "fun") => `(tactic| first | refine ⟨_, .gcd _ _, ?_⟩ | refine ⟨_, .lcm _ _ (by assumption) (by assumption), ?_⟩ | refine ⟨_, .lcm _ _ (by omega) (by omega), ?_⟩ | refine ⟨_, .comb _ _ (by omega) (by omega) (by omega) (by omega), ?_⟩)
local macro_rules | `(tactic| walk_at "sizelt") => `(tactic| first | (refine szlt ?_; first | omega | (simp only [List.length_map, List.length_range, List.length_append, List.length_cons, List.length_nil, List.length_replicate] at *; omega)) | decide)
local macro_rules | `(tactic| walk_at "meth") => `(tactic| first | refine ⟨_, .startswith _ _, ?_⟩ | refine ⟨_, .strip _ _ (by walk_at "size"), ?_⟩ | refine ⟨_, .partition _ _ rfl (by walk_at "size"), ?_⟩ | refine ⟨_, .split _ _ rfl (by walk_at "size"), ?_⟩)
local macro_rules | `(tactic| walk_at "tsz") => `(tactic| first | decide | exact sz (by simp))
local macro_rules | `(tactic| walk_at "jsz") => `(tactic| first | decide | walk_at "size" | (refine sz ?_; simp; omega))
local macro_rules | `(tactic| walk_at "log") => `(tactic| first | assumption | omega)
def natD (i : Nat) : D := .int (i : Int)
def powD (l : List Nat) : D := .tup (l.map natD)
def bgD (b : List Nat × Nat) : D := .tup [powD b.1, natD b.2]
def stepF (bs : List (List Nat × Nat)) : List (List Nat × Nat) := bs.flatMap fun b => (List.range (b.2 + 1)).map fun y => (b.1 ++ [b.2 - y], y)
def bgF (d : Nat) : Nat → List (List Nat × Nat)
  | 0 => [([], d)]
  | k + 1 => stepF (bgF d k)
def pwF (n d : Nat) : List (List Nat) := if n = 0 then (if d = 0 then [[]] else []) else (bgF d (n - 1)).map fun b => b.1 ++ [b.2]
def orF (n d : Nat) : List (List Nat) := (List.range (d + 1)).flatMap fun k => pwF n (d - k)
structure PwOk (n d : Nat) : Prop where
  ln : n ≤ 1000
  ld : d ≤ 1000
  bg : ∀ k, k < n → (bgF d k).length ≤ 1000
theorem rg_down {n : Nat} (h : n ≤ 1000) : RgC ((n : Nat) : Int) (-1) (-1) (n + 1) := by
  have := RgC.neg (i := ((n : Nat) : Int)) (j := -1) (by omega) (by omega) (by decide) (by decide)
  rwa [show (((n : Nat) : Int) - -1).toNat = n + 1 by omega] at this
theorem range_down {n : Nat} : rangeCD ((n : Nat) : Int) (-1) (n + 1) = (List.range (n + 1)).map fun k => natD (n - k) := by
  unfold rangeCD natD
  refine List.map_congr_left fun k hk => ?_
  have := List.mem_range.mp hk
  rw [show ((n : Nat) : Int) + (k : Nat) * -1 = ((n - k : Nat) : Int) by omega]
theorem bgF_ok (d : Nat) : ∀ k, ∀ b ∈ bgF d k, b.1.length = k ∧ b.2 ≤ d
  | 0, b, h => by
    rw [List.mem_singleton.mp h]
    exact ⟨rfl, Nat.le_refl _⟩
  | k + 1, b, h => by
    obtain ⟨c, hc, hb⟩ := List.mem_flatMap.mp h
    obtain ⟨y, hy, rfl⟩ := List.mem_map.mp hb
    have hy := List.mem_range.mp hy
    obtain ⟨h1, h2⟩ := bgF_ok d k c hc
    refine ⟨by rw [List.length_append, h1]; rfl, ?_⟩
    show y ≤ d
    omega
local macro_rules | `(tactic| walk_at "attr") => `(tactic| refine ⟨_, _, _, .v _ _, (by first | exact Txt.c_Field (by assumption) | exact Txt.c_Lot (by assumption)), (by first | exact Txt.n_Field (by assumption) _ (by decide) | exact Txt.n_Lot (by assumption) _ (by decide)), rfl, ?_⟩)
theorem bgF_snoc (d k : Nat) : bgF d (k + 1) = (bgF d k).flatMap fun b => (List.range (b.2 + 1)).map fun y => (b.1 ++ [b.2 - y], y) := rfl
theorem pwF_len {n d : Nat} : ∀ l ∈ pwF n d, l.length = n := by
  intro l h
  unfold pwF at h
  split at h
  · split at h
    · rw [List.mem_singleton.mp h]
      subst n
      rfl
    · cases h
  · obtain ⟨b, hb, rfl⟩ := List.mem_map.mp h
    have := (bgF_ok d (n - 1) b hb).1
    rw [List.length_append, this]
    show n - 1 + 1 = n
    omega
theorem orF_len {n d : Nat} : ∀ l ∈ orF n d, l.length = n := by
  intro l h
  obtain ⟨k, _, hk⟩ := List.mem_flatMap.mp h
  exact pwF_len l hk
abbrev cmb (n d : Nat) : Int := PySem.W.mcComb ((n : Int) + (d : Int)) (d : Int)
def ordB (n d : Nat) : Bool := decide (1 ≤ n ∧ n ≤ 1000 ∧ d ≤ 1000) && (List.range (d + 1)).all (fun e => (List.range n).all fun k => decide ((bgF e k).length ≤ 1000)) && decide ((orF n d).length ≤ 1000)
structure OrOk (n d : Nat) : Prop where
  n1 : 1 ≤ n
  pw : ∀ e, e ≤ d → PwOk n e
  ln : (orF n d).length ≤ 1000
theorem ordB_ok {n d : Nat} (h : ordB n d = true) : OrOk n d := by
  unfold ordB at h
  rw [Bool.and_eq_true, Bool.and_eq_true] at h
  obtain ⟨⟨h1, h2⟩, h3⟩ := h
  have h1 := of_decide_eq_true h1
  refine ⟨h1.1, fun e he => ⟨h1.2.1, by omega, fun k hk => ?_⟩, of_decide_eq_true h3⟩
  have := List.all_eq_true.mp (List.all_eq_true.mp h2 e (List.mem_range.mpr (by omega))) k (List.mem_range.mpr hk)
  exact of_decide_eq_true this
theorem ord_all : ∀ n : Nat, n < 22 → ∀ d : Nat, d < 5 → 1 ≤ n → cmb n d ≤ 150 → ordB n d = true := by decide +kernel
def LotD (K : PySem.W.Frag) (t s : Nat) (d : D) : Prop := ∃ (names : List Str) (p1 p2 dd ll b : D), d = .obj (He.ga K "Lot") [("field", .obj (He.ga K "Field") [("parts", p1), ("numbers", .int (t : Nat)), ("directions", dd), ("lead", ll)]), ("parts", p2), ("stuffs", .tup (names.map D.str)), ("base", b)] ∧ names.length = s ∧ 1 ≤ s ∧ s ≤ 6 ∧ 1 ≤ t ∧ t ≤ 4
def fmF (t : Nat) (l : List Nat) : List Nat := l.take (t * t) ++ [0] ++ l.drop (t * t)
theorem nat_cat {xs ys : List Nat} : D.tup (xs.map natD ++ ys.map natD) = powD (xs ++ ys) := by
  unfold powD
  rw [List.map_append]
theorem tt_le {t : Nat} (h : t ≤ 4) : t * t ≤ 16 := Nat.mul_le_mul h h
theorem mulOk_nat {t : Nat} (h : t ≤ 4) : IntMulOk ((t : Nat) : Int) ((t : Nat) : Int) := mulL (by omega) (by omega)
theorem tcut_take {xs : List D} {n : Nat} : DW.cutD xs none (some ((n : Nat) : Int)) = xs.take n := by
  unfold DW.cutD
  rw [HT.sIx_none, HT.sIx_nat, List.drop_zero, Nat.sub_zero]
  rcases Nat.le_total n xs.length with h | h
  · rw [Nat.min_eq_left h]
  · rw [Nat.min_eq_right h, List.take_of_length_le (Nat.le_refl _), List.take_of_length_le h]
theorem tcut_drop {xs : List D} {n : Nat} : DW.cutD xs (some ((n : Nat) : Int)) none = xs.drop n := by
  unfold DW.cutD
  rw [HT.sIx_none, HT.sIx_nat]
  rcases Nat.le_total n xs.length with h | h
  · rw [Nat.min_eq_left h]
    exact List.take_of_length_le (by rw [List.length_drop]; exact Nat.le_refl _)
  · rw [Nat.min_eq_right h, List.drop_of_length_le (Nat.le_refl _), List.drop_of_length_le h]
    exact List.take_nil
theorem sc_powers_of : FnScope ["unknowns", "degree", "begun", "_", "told", "left", "power"] ["unknowns", "degree"] (defScope s_powers_of) := ⟨rfl, rfl, rfl, by decide +kernel, rfl, by decide +kernel, by decide +kernel⟩
def sp_powers_of : PreD := fun ds C R RX => ∃ n d : Nat, ds = [natD n, natD d] ∧ PwOk n d ∧ R (.lst ((pwF n d).map powD)) C
theorem ok_powers_of {P : Program} {w : World} {K : PySem.W.Frag} {tt : List (Addr × Str)} {mg : Str → Option Value} {base : Heap} {f : Addr} {fd : FuncData} (F : FnP K "powers_of" s_powers_of f fd) (T : Txt K w mg) : FnOk P w K mg base (L2.CX P w) 1 f fd ["unknowns", "degree"] (SpD K tt sp_powers_of) := by
  refine body_ok F sc_powers_of (fun ds C R RX hp => by (obtain ⟨n, d, rfl, hp, q⟩ := hp; rfl)) fun cdv A outer s H E G0 ds C R RX B hp => ?_
  obtain ⟨n, d, rfl, hp, q⟩ := hp
  have hn := hp.ln
  have hd := hp.ld
  refine wss_cons (ws_if (wt_cmp (we_name 0 rfl (we_int ?_))))
  walk_at "cmp"
  refine ⟨fun hif1 => ?_, fun hif1 => ?_⟩
  · try replace hif1 := of_decide_eq_true hif1
    refine wss_cons (ws_ret ?_)
    refine WE.mono (Q := fun dv C1 => dv = (.lst ((pwF n d).map powD)) ∧ C1 = C) ?_ (fun d C1 hd => ?_)
    · skip
      refine we_if (wt_cmp (we_name 1 rfl (we_int ?_)))
      walk_at "cmp"
      refine ⟨fun hife1 => ?_, fun hife1 => ?_⟩
      · try replace hife1 := of_decide_eq_true hife1
        refine we_lst (wa_cons (we_tup (wa_nil ?_)))
        refine ⟨by walk_at "tsz", ?_⟩
        refine wa_nil ?_
        refine ⟨by walk_at "tsz", ?_⟩
        have e1 : n = 0 := by omega
        have e2 : d = 0 := by omega
        subst e1 e2
        exact ⟨rfl, rfl⟩
      · try replace hife1 := of_decide_eq_false hife1
        refine we_nil ?_
        have e1 : n = 0 := by omega
        have e2 : ¬ d = 0 := by omega
        subst e1
        unfold pwF
        rw [if_pos rfl, if_neg e2]
        exact ⟨rfl, rfl⟩
    obtain ⟨rfl, rfl⟩ := hd
    exact q
  try replace hif1 := of_decide_eq_false hif1
  refine wss_nil ?_
  refine wss_cons (ws_set 2 ?_ sc_powers_of.nd)
  refine we_lst (wa_cons (we_tup (wa_cons (we_tup (wa_nil ?_)))))
  refine ⟨by walk_at "tsz", ?_⟩
  refine wa_cons (we_name 1 rfl (wa_nil ?_))
  refine ⟨by walk_at "tsz", ?_⟩
  refine wa_nil ?_
  refine ⟨by walk_at "tsz", ?_⟩
  refine wss_cons (ws_forL ?_ B.po)
  refine wi_range1 T.range (wa_cons (we_bin (we_name 0 rfl (we_int ?_))))
  walk_at "op"
  refine wa_nil ?_
  refine ⟨((n : Nat) : Int) - 1, rfl, ⟨by omega, by omega⟩, ?_⟩
  rw [show (((n : Nat) : Int) - 1).toNat = n - 1 by omega, rangeD0]
  refine ⟨_, List.range (n - 1), natD, fun pre σ' C' => ∃ o, σ' = [some (natD n), some (natD d), some (.lst ((bgF d pre.length).map bgD)), o, none, none, none] ∧ C' = C, rfl, ?_, fun G1 hG1 pre1 it1 post1 σ' C' hx1 hI => ?_, fun σ' C' hI => ?_⟩
  · exact ⟨_, rfl, rfl⟩
  · obtain ⟨o, rfl, rfl⟩ := hI
    obtain ⟨ei, hlt⟩ := range_split hx1
    have hb := hp.bg (pre1.length + 1) (by omega)
    refine wg_name 3 ?_ sc_powers_of.nd
    refine wss_cons (ws_setLc2 2 [("told", 4), ("left", 5), ("power", 6)] [4, 5] [6] [6] (by decide) (fun _ _ _ _ _ => tgt_tup2 (by decide) (by decide) sc_powers_of.nd) (fun _ _ _ _ _ => tgt_one (by decide) sc_powers_of.nd) sc_powers_of.nd (blkOk_by (by kernel_rfl)) (wi_seq (we_name 2 rfl ?_)))
    refine ⟨_, .lst _, ?_⟩
    refine ⟨_, _, bgF d pre1.length, bgD, fun b => List.range (b.2 + 1), fun b y => natD (b.2 - y), fun b y => bgD (b.1 ++ [b.2 - y], y), _, _, rfl, (by refine sz ?_; have e : (stepF (bgF d pre1.length)).length = ((bgF d pre1.length).flatMap fun b => List.range (b.2 + 1)).length := (by unfold stepF; rw [List.length_flatMap, List.length_flatMap]; simp); have : (stepF (bgF d pre1.length)).length ≤ 1000 := hb; omega), fun x hx => .tup2 _ _ _ _ _, fun b hx s H cl Cc fp G C' hC => ?_, fun x hx y hy => .one _ _ _, fun b hx y hy s H cl Cc fp G C' hC => ?_, ?_⟩
    · skip
      refine wi_range3 T.range (wa_cons (we_name 5 rfl (wa_cons (we_neg (we_int ?_)))))
      refine ⟨_, rfl, ?_⟩
      refine wa_cons (we_neg (we_int ?_))
      refine ⟨_, rfl, ?_⟩
      refine wa_nil ?_
      have hbx := bgF_ok d pre1.length b hx
      refine ⟨((b.2 : Nat) : Int), -1, -1, b.2 + 1, rfl, rg_down (by omega), ?_⟩
      exact ⟨rfl, range_down⟩
    · skip
      refine we_tup (wa_cons (we_bin (we_name 4 rfl (we_tup (wa_cons (we_name 6 rfl (wa_nil ?_)))))))
      refine ⟨by walk_at "tsz", ?_⟩
      refine ⟨_, .catT _ _ (sz (by rw [List.length_map, (bgF_ok d pre1.length b hx).1]; exact Nat.le_trans (show pre1.length + 1 ≤ 1001 by omega) (by decide))), ?_⟩
      refine wa_cons (we_bin (we_name 5 rfl (we_name 6 rfl ?_)))
      walk_at "op"
      refine wa_nil ?_
      refine ⟨by walk_at "tsz", ?_⟩
      refine ⟨?_, rfl⟩
      have hy1 := List.mem_range.mp hy
      show D.tup [_, _] = D.tup [powD (b.1 ++ [b.2 - y]), natD y]
      rw [show ((b.2 : Nat) : Int) - ((b.2 - y : Nat) : Int) = ((y : Nat) : Int) by omega]
      unfold powD
      rw [List.map_append]
      rfl
    refine wss_nil ?_
    refine ⟨some (natD it1), ?_, rfl⟩
    rw [List.length_append, List.length_singleton, bgF_snoc, List.map_flatMap]
    simp only [List.map_map]
    rfl
  obtain ⟨o, rfl, rfl⟩ := hI
  have hbl := hp.bg (n - 1) (by have : ¬ n = 0 := (fun e => hif1 (by rw [e]; rfl)); omega)
  rw [List.length_range]
  refine wss_cons (ws_ret (we_lc [("told", 4), ("left", 5)] [4, 5] (fun _ _ _ _ _ => tgt_tup2 (by decide) (by decide) sc_powers_of.nd) sc_powers_of.nd (blkOk_by (by kernel_rfl)) (wi_seq (we_name 2 rfl ?_))))
  refine ⟨_, .lst _, ?_⟩
  refine lc_map (bgF d (n - 1)) (bgD) (fun b => powD (b.1 ++ [b.2])) (rfl) (sz (by omega)) (fun x hx => .tup2 _ _ _ _ _) (fun b hx s H cl Cc fp G C' hC => ?_) ?_
  · skip
    refine we_bin (we_name 4 rfl (we_tup (wa_cons (we_name 5 rfl (wa_nil ?_)))))
    refine ⟨by walk_at "tsz", ?_⟩
    refine ⟨_, .catT _ _ (sz (by rw [List.length_map, (bgF_ok d (n - 1) b hx).1]; exact Nat.le_trans (show n - 1 + 1 ≤ 1001 by omega) (by decide))), ?_⟩
    refine ⟨?_, rfl⟩
    unfold powD
    rw [List.map_append]
    rfl
  have e1 : ¬ n = 0 := fun e => hif1 (by rw [e]; rfl)
  unfold pwF at q
  rw [if_neg e1, List.map_map] at q
  exact q
theorem sc_ordered_powers : FnScope ["unknowns", "degree", "told", "size"] ["unknowns", "degree"] (defScope s_ordered_powers) := ⟨rfl, rfl, rfl, by decide +kernel, rfl, by decide +kernel, by decide +kernel⟩
def sp_ordered_powers : PreD := fun ds C R RX => ∃ n d : Nat, ds = [natD n, natD d] ∧ OrOk n d ∧ R (.lst ((orF n d).map powD)) C
theorem ok_ordered_powers {P : Program} {w : World} {K : PySem.W.Frag} {tt : List (Addr × Str)} {mg : Str → Option Value} {base : Heap} {f : Addr} {fd : FuncData} (F : FnP K "ordered_powers" s_ordered_powers f fd) (T : Txt K w mg) (h_powers_of : HasF P w K tt mg base "powers_of" ["unknowns", "degree"] 1 sp_powers_of) : FnOk P w K mg base (L2.CX P w) 2 f fd ["unknowns", "degree"] (SpD K tt sp_ordered_powers) := by
  refine body_ok F sc_ordered_powers (fun ds C R RX hp => by (obtain ⟨n, d, rfl, ho, q⟩ := hp; rfl)) fun cdv A outer s H E G0 ds C R RX B hp => ?_
  obtain ⟨n, d, rfl, ho, q⟩ := hp
  have hd : d ≤ 1000 := (ho.pw d (Nat.le_refl _)).ld
  have hl : (orF n d).length ≤ 1000 := ho.ln
  refine wss_cons (ws_set 2 ?_ sc_ordered_powers.nd)
  refine we_nil ?_
  refine wss_cons (ws_forL ?_ B.po)
  refine wi_range3 T.range (wa_cons (we_name 1 rfl (wa_cons (we_neg (we_int ?_)))))
  refine ⟨_, rfl, ?_⟩
  refine wa_cons (we_neg (we_int ?_))
  refine ⟨_, rfl, ?_⟩
  refine wa_nil ?_
  refine ⟨((d : Nat) : Int), -1, -1, d + 1, rfl, rg_down hd, ?_⟩
  rw [range_down]
  refine ⟨_, List.range (d + 1), fun k => natD (d - k), fun pre σ' C' => ∃ o, σ' = [some (natD n), some (natD d), some (.lst (((List.range pre.length).flatMap fun k => pwF n (d - k)).map powD)), o] ∧ C' = C, rfl, ?_, fun G1 hG1 pre1 it1 post1 σ' C' hx1 hI => ?_, fun σ' C' hI => ?_⟩
  · exact ⟨_, rfl, rfl⟩
  · obtain ⟨o, rfl, rfl⟩ := hI
    obtain ⟨ei, hlt⟩ := range_split hx1
    subst ei
    have hs : ((List.range pre1.length).flatMap fun k => pwF n (d - k)).length + (pwF n (d - pre1.length)).length ≤ (orF n d).length := by
      unfold orF
      have e : d + 1 = pre1.length + (1 + (d - pre1.length)) := by omega
      rw [e, List.range_add, List.flatMap_append, List.length_append, List.range_add, List.map_append, List.flatMap_append, List.length_append, show (List.range 1).map (fun x => pre1.length + x) = [pre1.length] from rfl, List.flatMap_singleton]
      omega
    refine wg_name 3 ?_ sc_ordered_powers.nd
    refine wss_cons (ws_set 2 ?_ sc_ordered_powers.nd)
    refine we_bin (we_name 2 rfl (we_call h_powers_of (B.base hG1).room (by decide) (B.base hG1).tk (wa_cons (we_name 0 rfl (wa_cons (we_name 3 rfl (wa_nil ?_)))))))
    refine ⟨n, d - pre1.length, rfl, ho.pw _ (by omega), ?_⟩
    refine ⟨_, .cat (.v _) (.v _) (sz (by rw [List.length_map, List.length_map]; omega)), ?_⟩
    refine wss_nil ?_
    refine ⟨some (natD (d - pre1.length)), ?_, rfl⟩
    rw [List.length_append, List.length_singleton, List.range_succ, List.flatMap_append, List.flatMap_singleton, List.map_append]
    rfl
  obtain ⟨o, rfl, rfl⟩ := hI
  rw [List.length_range]
  refine wss_cons (ws_ret (we_name 2 rfl ?_))
  exact q
theorem sc_free_unknowns : FnScope ["lot"] ["lot"] (defScope s_free_unknowns) := ⟨rfl, rfl, rfl, by decide +kernel, rfl, by decide +kernel, by decide +kernel⟩
def sp_free_unknowns (K : PySem.W.Frag) : PreD := fun ds C R RX => ∃ (t s : Nat) (lot : D), ds = [lot] ∧ LotD K t s lot ∧ R (natD (t * t + s - 1)) C
theorem ok_free_unknowns {P : Program} {w : World} {K : PySem.W.Frag} {tt : List (Addr × Str)} {mg : Str → Option Value} {base : Heap} {f : Addr} {fd : FuncData} (F : FnP K "free_unknowns" s_free_unknowns f fd) (T : Txt K w mg) : FnOk P w K mg base (L2.CX P w) 1 f fd ["lot"] (SpD K tt (sp_free_unknowns K)) := by
  refine body_ok F sc_free_unknowns (fun ds C R RX hp => by (obtain ⟨t, s, lot, rfl, ⟨names, p1, p2, dd, ll, b, rfl, hs, hs1, hs6, ht1, ht4⟩, q⟩ := hp; rfl)) fun cdv A outer s H E G0 ds C R RX B hp => ?_
  obtain ⟨t, s, lot, rfl, ⟨names, p1, p2, dd, ll, b, rfl, hs, hs1, hs6, ht1, ht4⟩, q⟩ := hp
  refine wss_cons (ws_ret (we_bin (we_bin (we_bin (we_fld (we_fld (we_name 0 rfl ?_)))))))
  walk_at "attr"
  walk_at "attr"
  refine we_fld (we_fld (we_name 0 rfl ?_))
  walk_at "attr"
  walk_at "attr"
  refine ⟨_, .mul _ _ (mulOk_nat ht4), ?_⟩
  refine we_blt (id := "len") T.len (wa_cons (we_fld (we_name 0 rfl ?_)))
  walk_at "attr"
  refine wa_nil ?_
  refine ⟨_, .len (.t _), ?_⟩
  rw [List.length_map, hs]
  walk_at "op"
  refine we_int ?_
  walk_at "op"
  rw [show ((t : Nat) : Int) * (t : Nat) + ((s : Nat) : Int) - 1 = ((t * t + s - 1 : Nat) : Int) by have : ((t : Nat) : Int) * (t : Nat) = ((t * t : Nat) : Int) := (Int.natCast_mul t t).symm; omega]
  exact q
theorem sc_hold_monomials : FnScope ["unknowns", "degree"] ["unknowns", "degree"] (defScope s_hold_monomials) := ⟨rfl, rfl, rfl, by decide +kernel, rfl, by decide +kernel, by decide +kernel⟩
def sp_hold_monomials (tm : Addr) : PreD := fun ds C R RX => ∃ n d : Nat, ds = [natD n, natD d] ∧ n ≤ 1000 ∧ (d ≤ 4 → cmb n d ≤ 150 → R .non C) ∧ (4 < d → RX tm [("count", natD d), ("what", .str "degree")] C) ∧ (d ≤ 4 → 150 < cmb n d → RX tm [("count", .int (cmb n d)), ("what", .str "monomials")] C)
theorem ok_hold_monomials {P : Program} {w : World} {K : PySem.W.Frag} {tt : List (Addr × Str)} {mg : Str → Option Value} {base : Heap} {f : Addr} {fd : FuncData} (F : FnP K "hold_monomials" s_hold_monomials f fd) (T : Txt K w mg) (h_hold : HasF P w K tt mg base "hold" ["what", "count"] 5 (sp_hold (He.ga K "TooMany"))) (h_many_powers : HasF P w K tt mg base "many_powers" ["unknowns", "degree"] 1 sp_many_powers) : FnOk P w K mg base (L2.CX P w) 6 f fd ["unknowns", "degree"] (SpD K tt (sp_hold_monomials (He.ga K "TooMany"))) := by
  refine body_ok F sc_hold_monomials (fun ds C R RX hp => by (obtain ⟨n, d, rfl, hn, q, q1, q2⟩ := hp; rfl)) fun cdv A outer s H E G0 ds C R RX B hp => ?_
  obtain ⟨n, d, rfl, hn, q, q1, q2⟩ := hp
  refine wss_cons (ws_expr (we_call h_hold B.room (by decide) B.tk (wa_cons (we_str (wa_cons (we_name 1 rfl (wa_nil ?_)))))))
  refine ⟨_, _, 4, rfl, rfl, fun h4 => ?_, fun h4 => q1 (by omega)⟩
  refine wss_cons (ws_expr (we_call h_hold B.room (by decide) B.tk (wa_cons (we_str (wa_cons (we_call h_many_powers B.room (by decide) B.tk (wa_cons (we_name 0 rfl (wa_cons (we_name 1 rfl (wa_nil ?_)))))))))))
  refine ⟨_, _, rfl, by omega, by omega, by omega, by omega, ?_⟩
  refine wa_nil ?_
  refine ⟨_, _, 150, rfl, rfl, fun h5 => ?_, fun h5 => q2 (by omega) (Int.not_le.mp h5)⟩
  refine wss_nil ?_
  exact q (by omega) h5
theorem sc_full_monomial : FnScope ["lot", "powers", "chart", "rest", "name"] ["lot", "powers"] (defScope s_full_monomial) := ⟨rfl, rfl, rfl, by decide +kernel, rfl, by decide +kernel, by decide +kernel⟩
def sp_full_monomial (K : PySem.W.Frag) : PreD := fun ds C R RX => ∃ (t s : Nat) (lot : D) (l : List Nat), ds = [lot, powD l] ∧ LotD K t s lot ∧ l.length = t * t + s - 1 ∧ R (powD (fmF t l)) C
theorem ok_full_monomial {P : Program} {w : World} {K : PySem.W.Frag} {tt : List (Addr × Str)} {mg : Str → Option Value} {base : Heap} {f : Addr} {fd : FuncData} (F : FnP K "full_monomial" s_full_monomial f fd) (T : Txt K w mg) : FnOk P w K mg base (L2.CX P w) 1 f fd ["lot", "powers"] (SpD K tt (sp_full_monomial K)) := by
  refine body_ok F sc_full_monomial (fun ds C R RX hp => by (obtain ⟨t, s, lot, l, rfl, ⟨names, p1, p2, dd, ll, b, rfl, hs, hs1, hs6, ht1, ht4⟩, hl, q⟩ := hp; rfl)) fun cdv A outer s H E G0 ds C R RX B hp => ?_
  obtain ⟨t, s, lot, l, rfl, ⟨names, p1, p2, dd, ll, b, rfl, hs, hs1, hs6, ht1, ht4⟩, hl, q⟩ := hp
  have htt := tt_le ht4
  have h1 : 1 ≤ t * t := Nat.mul_le_mul ht1 ht1
  have ett : ((t : Nat) : Int) * (t : Nat) = ((t * t : Nat) : Int) := (Int.natCast_mul t t).symm
  refine wss_cons (ws_set 2 ?_ sc_full_monomial.nd)
  refine we_bin (we_fld (we_fld (we_name 0 rfl ?_)))
  walk_at "attr"
  walk_at "attr"
  refine we_fld (we_fld (we_name 0 rfl ?_))
  walk_at "attr"
  walk_at "attr"
  refine ⟨_, .mul _ _ (mulOk_nat ht4), ?_⟩
  rw [ett]
  refine wss_cons (ws_set 3 ?_ sc_full_monomial.nd)
  refine WE.mono (Q := fun dv C1 => dv = (powD (l.drop (t * t))) ∧ C1 = C) ?_ (fun d C1 hd => ?_)
  · skip
    refine we_if (wt_cmp (we_blt (id := "len") T.len (wa_cons (we_name 1 rfl (wa_nil ?_)))))
    refine ⟨_, .len (.t _), ?_⟩
    rw [List.length_map]
    refine we_name 2 rfl ?_
    walk_at "cmp"
    refine ⟨fun hife1 => ?_, fun hife1 => ?_⟩
    · try replace hife1 := of_decide_eq_true hife1
      refine we_slice (we_name 1 rfl (we_name 2 rfl ?_))
      refine ⟨_, rfl, ?_⟩
      refine ⟨_, .tup _ _ _, ?_⟩
      rw [tcut_drop]
      refine ⟨?_, rfl⟩
      unfold powD
      rw [List.map_drop]
    · try replace hife1 := of_decide_eq_false hife1
      refine we_ty (T := "tuple") T.tuple (wa_cons (we_lc [("name", 4)] [4] (fun _ _ _ _ _ => tgt_one (by decide) sc_full_monomial.nd) sc_full_monomial.nd (blkOk_by (by kernel_rfl)) (wi_seq (we_slice (we_fld (we_name 0 rfl ?_))))))
      walk_at "attr"
      refine we_int ?_
      refine ⟨_, rfl, ?_⟩
      refine ⟨_, .tup _ _ _, ?_⟩
      have es : s = 1 := by
        have : ¬ ((t * t : Nat) : Int) < (l.length : Nat) := hife1
        omega
      have en : DW.cutD (names.map D.str) (some 1) none = [] := by
        have := tcut_drop (xs := names.map D.str) (n := 1)
        rw [List.drop_of_length_le (by rw [List.length_map]; omega)] at this
        exact this
      rw [en]
      refine ⟨_, .tup _, ?_⟩
      refine lc_map (([] : List Nat)) (natD) (natD) (rfl) (sz (by decide)) (fun x hx => .one _ _ _) (fun x hx s H cl Cc fp G C' hC => ?_) ?_
      · skip
        refine we_int ?_
        cases hx
      refine wa_nil ?_
      refine ⟨_, .tuple (.v _), ?_⟩
      refine ⟨?_, rfl⟩
      rw [List.drop_of_length_le (by have : ¬ ((t * t : Nat) : Int) < (l.length : Nat) := hife1; omega)]
      rfl
  obtain ⟨rfl, rfl⟩ := hd
  refine wss_cons (ws_ret (we_bin (we_bin (we_slice (we_name 1 rfl (we_name 2 rfl ?_))))))
  refine ⟨_, rfl, ?_⟩
  refine ⟨_, .tup _ _ _, ?_⟩
  rw [tcut_take]
  refine we_tup (wa_cons (we_int (wa_nil ?_)))
  refine ⟨by walk_at "tsz", ?_⟩
  refine ⟨_, .catT _ _ (sz (by rw [List.length_take, List.length_map, hl]; exact Nat.le_trans (show min (t * t) (t * t + s - 1) + 1 ≤ 100 by omega) (by decide))), ?_⟩
  refine we_name 3 rfl ?_
  refine ⟨_, .catT _ _ (sz (by rw [List.length_append, List.length_take, List.length_map, List.length_map, List.length_drop, hl]; exact Nat.le_trans (show min (t * t) (t * t + s - 1) + 1 + (t * t + s - 1 - t * t) ≤ 100 by omega) (by decide))), ?_⟩
  unfold powD fmF at q
  rw [List.map_append, List.map_append, List.map_take] at q
  exact q
theorem sc_monomials : FnScope ["lot", "degree", "unknowns", "powers"] ["lot", "degree"] (defScope s_monomials) := ⟨rfl, rfl, rfl, by decide +kernel, rfl, by decide +kernel, by decide +kernel⟩
def sp_monomials (K : PySem.W.Frag) : PreD := fun ds C R RX => ∃ (t s d : Nat) (lot : D), ds = [lot, natD d] ∧ LotD K t s lot ∧ (d ≤ 4 → cmb (t * t + s - 1) d ≤ 150 → ∀ p, C p = none → R (.cell p) (setC C p (.lst ((orF (t * t + s - 1) d).map fun l => powD (fmF t l))))) ∧ (4 < d → RX (He.ga K "TooMany") [("count", natD d), ("what", .str "degree")] C) ∧ (d ≤ 4 → 150 < cmb (t * t + s - 1) d → RX (He.ga K "TooMany") [("count", .int (cmb (t * t + s - 1) d)), ("what", .str "monomials")] C)
theorem ok_monomials {P : Program} {w : World} {K : PySem.W.Frag} {tt : List (Addr × Str)} {mg : Str → Option Value} {base : Heap} {f : Addr} {fd : FuncData} (F : FnP K "monomials" s_monomials f fd) (T : Txt K w mg) (h_free_unknowns : HasF P w K tt mg base "free_unknowns" ["lot"] 1 (sp_free_unknowns K)) (h_hold_monomials : HasF P w K tt mg base "hold_monomials" ["unknowns", "degree"] 6 (sp_hold_monomials (He.ga K "TooMany"))) (h_full_monomial : HasF P w K tt mg base "full_monomial" ["lot", "powers"] 1 (sp_full_monomial K)) (h_ordered_powers : HasF P w K tt mg base "ordered_powers" ["unknowns", "degree"] 2 sp_ordered_powers) : FnOk P w K mg base (L2.CX P w) 7 f fd ["lot", "degree"] (SpD K tt (sp_monomials K)) := by
  refine body_ok F sc_monomials (fun ds C R RX hp => by (obtain ⟨t, s, d, lot, rfl, hlot, q, q1, q2⟩ := hp; rfl)) fun cdv A outer s H E G0 ds C R RX B hp => ?_
  obtain ⟨t, s, d, lot, rfl, hlot, q, q1, q2⟩ := hp
  obtain ⟨_, _, _, _, _, _, _, _, hs1, hs6, ht1, ht4⟩ := id hlot
  have htt := tt_le ht4
  have h1 : 1 ≤ t * t := Nat.mul_le_mul ht1 ht1
  refine wss_cons (ws_set 2 ?_ sc_monomials.nd)
  refine we_call h_free_unknowns B.room (by decide) B.tk (wa_cons (we_name 0 rfl (wa_nil ?_)))
  refine ⟨t, s, lot, rfl, hlot, ?_⟩
  refine wss_cons (ws_expr (we_call h_hold_monomials B.room (by decide) B.tk (wa_cons (we_name 2 rfl (wa_cons (we_name 1 rfl (wa_nil ?_)))))))
  refine ⟨_, _, rfl, by omega, fun h4 h5 => ?_, q1, q2⟩
  refine wss_cons (ws_ret (we_lc [("powers", 3)] [3] (fun _ _ _ _ _ => tgt_one (by decide) sc_monomials.nd) sc_monomials.nd (blkOk_by (by kernel_rfl)) (wi_seq (we_call h_ordered_powers B.room (by decide) B.tk (wa_cons (we_name 2 rfl (wa_cons (we_name 1 rfl (wa_nil ?_)))))))))
  have ho := ordB_ok (ord_all (t * t + s - 1) (by omega) d (by omega) (by omega) h5)
  refine ⟨_, _, rfl, ho, ?_⟩
  refine ⟨_, .lst _, ?_⟩
  refine lc_mapC (orF (t * t + s - 1) d) (powD) (fun l => powD (fmF t l)) (rfl) (sz (by have := ho.ln; omega)) (fun x hx => .one _ _ _) (fun l hx s H cl Cc fp G C' hC => ?_) fun p hp => ?_
  · skip
    refine we_call h_full_monomial (blkB B).room (by decide) (blkB B).tk (wa_cons (we_name 0 rfl (wa_cons (we_name 3 rfl (wa_nil ?_)))))
    exact ⟨t, _, lot, l, rfl, hlot, orF_len l hx, rfl, rfl⟩
  exact q h4 h5 p hp
end K60
set_option Elab.async false
set_option linter.all false
set_option maxRecDepth 100000
set_option maxHeartbeats 4000000
namespace K60
open PySem PySem.Spec PyProof.Rows L2 Evl DW
local macro_rules | `(tactic| walk_at "seq") => `(tactic| first | exact .l (.v _) | exact .t _ | exact .r _ | exact .l (.c setC_same) | exact .l (.c (by assumption)))
local macro_rules | `(tactic| walk_at "lin") => `(tactic| first | exact .v _ | exact .c setC_same | exact .c (by assumption))
local macro_rules | `(tactic| walk_at "size") => `(tactic| first | (refine sz ?_; first | omega | (simp only [List.length_map, List.length_range, List.length_append, List.length_cons, List.length_nil, List.length_replicate] at *; omega)) | decide)
local macro_rules | `(tactic| walk_at "mulok") => `(tactic| first | exact mulR (by decide) (by decide) | exact mulL (by decide) (by decide) | assumption | exact mulL (by omega) (by omega) | exact mulR (by omega) (by omega))
local macro_rules | `(tactic| walk_at "op") => `(tactic| first
  | refine ⟨_, .add _ _, ?_⟩
  | refine ⟨_, .sub _ _, ?_⟩
  | refine ⟨_, .mul _ _ (by walk_at "mulok"), ?_⟩
  | refine ⟨_, .mod _ _ (by first | decide | omega | assumption), ?_⟩
  | refine ⟨_, .div _ _ (by first | decide | omega | assumption) (by first | decide | assumption), ?_⟩
  | refine ⟨_, .pow _ _ (by decide), ?_⟩
  | refine ⟨_, .adds _ _ (by walk_at "size"), ?_⟩
  | refine ⟨_, .catT _ _ (by walk_at "size"), ?_⟩
  | refine ⟨_, .cat (by walk_at "lin") (by walk_at "lin") (by walk_at "size"), ?_⟩
  | refine ⟨_, .rep _ (by walk_at "lin") (by first | decide | omega) (by first | decide | omega) (by walk_at "size"), ?_⟩)
local macro_rules | `(tactic| walk_at "cmp") => `(tactic| first
  | refine ⟨_, .lt _ _, ?_⟩ | refine ⟨_, .le _ _, ?_⟩ | refine ⟨_, .gt _ _, ?_⟩ | refine ⟨_, .ge _ _, ?_⟩
  | refine ⟨_, .eqI _ _, ?_⟩ | refine ⟨_, .neI _ _, ?_⟩ | refine ⟨_, .eqS _ _, ?_⟩ | refine ⟨_, .neS _ _, ?_⟩ | refine ⟨_, .eqB _ _, ?_⟩ | refine ⟨_, .neB _ _, ?_⟩
  | refine ⟨_, .isN, ?_⟩ | refine ⟨_, .ntN, ?_⟩ | refine ⟨_, .isC, ?_⟩ | refine ⟨_, .ntC, ?_⟩ | refine ⟨_, .isNo trivial, ?_⟩ | refine ⟨_, .ntNo trivial, ?_⟩)
local macro_rules | `(tactic| walk_at "ix") => `(tactic| first | refine ⟨_, .seq (by walk_at "seq") rfl, ?_⟩)
local macro_rules | `(tactic| walk_at "slc") => `(tactic| first | refine ⟨_, .lst _ _ (by walk_at "lin"), ?_⟩ | refine ⟨_, .tup _ _ _, ?_⟩ | refine ⟨_, .rol _ _ _, ?_⟩ | refine ⟨_, .str _ _ _ (by walk_at "size"), ?_⟩)
local macro_rules | `(tactic| walk_at "blt") => `(tactic| first
  | refine ⟨_, .len (by walk_at "seq"), ?_⟩ | refine ⟨_, .lenS _ (by walk_at "size"), ?_⟩ | refine ⟨_, .abs _, ?_⟩ | refine ⟨_, .max2 _ _ rfl, ?_⟩ | refine ⟨_, .min2 _ _ rfl, ?_⟩
  | refine ⟨_, .int _, ?_⟩ | refine ⟨_, .intB _, ?_⟩ | refine ⟨_, .bool _, ?_⟩ | refine ⟨_, .boolI _, ?_⟩
  | refine ⟨_, .sum _ (by walk_at "lin") rfl, ?_⟩ | refine ⟨_, .all _ (by walk_at "lin") rfl, ?_⟩ | refine ⟨_, .any _ (by walk_at "lin") rfl, ?_⟩
  | refine ⟨_, .list (by walk_at "seq"), ?_⟩ | refine ⟨_, .tuple (by walk_at "lin"), ?_⟩ | refine ⟨_, .tupleT _, ?_⟩)
local macro_rules | `(tactic| walk_at "sub") => `(tactic| (refine ⟨_, _, _, _, rfl, rfl, (by first | exact setC_same | assumption), rfl, ?_⟩; try rw [setC_setC]))
local macro_rules | `(tactic| walk_at "fun") => `(tactic| first | refine ⟨_, .gcd _ _, ?_⟩ | refine ⟨_, .lcm _ _ (by assumption) (by assumption), ?_⟩ | refine ⟨_, .lcm _ _ (by omega) (by omega), ?_⟩ | refine ⟨_, .comb _ _ (by omega) (by omega) (by omega) (by omega), ?_⟩)
local macro_rules | `(tactic| walk_at "sizelt") => `(tactic| first | (refine szlt ?_; first | omega | (simp only [List.length_map, List.length_range, List.length_append, List.length_cons, List.length_nil, List.length_replicate] at *; omega)) | decide)
local macro_rules | `(tactic| walk_at "meth") => `(tactic| first | refine ⟨_, .startswith _ _, ?_⟩ | refine ⟨_, .strip _ _ (by walk_at "size"), ?_⟩ | refine ⟨_, .partition _ _ rfl (by walk_at "size"), ?_⟩ | refine ⟨_, .split _ _ rfl (by walk_at "size"), ?_⟩)
local macro_rules | `(tactic| walk_at "tsz") => `(tactic| first | decide | exact sz (by simp))
local macro_rules | `(tactic| walk_at "jsz") => `(tactic| first | decide | walk_at "size" | (refine sz ?_; simp; omega))
local macro_rules | `(tactic| walk_at "log") => `(tactic| first | assumption | omega)
local macro_rules | `(tactic| walk_at "attr") => `(tactic| first
  | refine ⟨_, _, _, .v _ _, (by first | exact Txt.c_Field (by assumption) | exact Txt.c_Lot (by assumption)), (by first | exact Txt.n_Field (by assumption) _ (by decide) | exact Txt.n_Lot (by assumption) _ (by decide)), rfl, ?_⟩
  | refine ⟨_, _, _, .c setC_same, (by first | exact Txt.c_Field (by assumption) | exact Txt.c_Lot (by assumption)), (by first | exact Txt.n_Field (by assumption) _ (by decide) | exact Txt.n_Lot (by assumption) _ (by decide)), rfl, ?_⟩)
local macro_rules | `(tactic| walk_at "setf") => `(tactic| (refine ⟨_, _, _, rfl, by first | assumption | exact setC_same, (by first | exact Txt.c_Field (by assumption) | exact Txt.c_Lot (by assumption)), (by first | exact Txt.n_Field (by assumption) _ (by decide) | exact Txt.n_Lot (by assumption) _ (by decide)), (by exact Nat.le_of_ble_eq_true rfl), ?_⟩; try rw [setC_setC]))
abbrev LT : Str := "abcdefghijklmnopqrstuvwxyz"
abbrev DG : Str := "0123456789"
structure NmOk (x : Str) : Prop where
  l1 : 1 ≤ x.length
  l2 : x.length ≤ 12
  hd : ∃ c, atI x.cps.toList 0 = some c ∧ c ∈ LT.cps.toList
  al : ∀ c ∈ x.cps.toList, c ∈ (LT ++ DG).cps.toList
theorem takeWhile_eq {α : Type} {p : α → Bool} : ∀ {l : List α}, (∀ x ∈ l, p x = true) → l.takeWhile p = l
  | [], _ => rfl
  | x :: l, h => by
    rw [List.takeWhile_cons, h x List.mem_cons_self, takeWhile_eq fun y hy => h y (List.mem_cons_of_mem _ hy)]
    rfl
theorem strip_all {x y : Str} (h : ∀ c ∈ x.cps.toList, c ∈ y.cps.toList) : Txt.stripChars x y = ("" : Str) := by
  unfold Txt.stripChars
  rw [PyProof.Rows.stripBy_eq]
  have h1 : stripLo y.cps.contains true x = x.length := by
    unfold stripLo
    rw [if_pos rfl, takeWhile_eq (fun c hc => by simpa using h c hc)]
    simp [Str.length]
  have h2 : stripHi y.cps.contains true x x.length = x.length := by
    unfold stripHi
    rw [if_pos rfl, List.drop_of_length_le (by simp [Str.length])]
    simp
  rw [h1, h2]
  show (⟨x.cps.extract x.length x.length⟩ : Str) = ⟨#[]⟩
  congr 1
  exact Array.extract_empty_of_stop_le_start (Nat.le_refl _)
theorem in_strs {x : Str} {ns : List Str} : inD (.str x) (ns.map D.str) = decide (x ∈ ns) := by
  unfold inD inV
  induction ns with
  | nil => simp
  | cons n ns ih =>
    rw [List.map_cons, List.map_cons, List.any_cons, ih]
    show ((n == x) || decide (x ∈ ns)) = _
    by_cases hx : x = n
    · subst hx
      simp
    · have : (n == x) = false := by simpa using fun e => hx e.symm
      rw [this]
      simp [hx]
theorem flat_strs {ns : List Str} : (ns.map D.str).all flatD = true := by
  rw [List.all_map, List.all_eq_true]
  exact fun _ _ => rfl
def slG (rows : List (List Int)) : D := .lst (rows.map lI)
def dirG (g : Str × List (List Int)) : D := .tup [.str g.1, slG g.2]
def prow (r : List Int) : List (Int × Int) := r.map fun v => (v, 1)
abbrev Dir := Str × List (List (Int × Int))
def dirR (g : Str × List (List Int)) : Dir := (g.1, rdF (g.2.map prow))
def dirS (q : Dir) : Dir := (q.1, rdF q.2)
def dirD (q : Dir) : D := .tup [.str q.1, .tup (q.2.map pairsD)]
def fieldFs (t : Nat) (ds : List Dir) : List (Str × D) := [("parts", .tup [natD t, .tup (ds.map dirD)]), ("numbers", natD t), ("directions", .tup (ds.map fun q => .str q.1)), ("lead", .str (ds.getD 0 ("", [])).1)]
def fieldD (K : PySem.W.Frag) (t : Nat) (ds : List Dir) : D := .obj (He.ga K "Field") (fieldFs t ds)
structure RowsG (t : Nat) (rows : List (List Int)) : Prop where
  t1 : 1 ≤ t
  t4 : t ≤ 4
  l2 : rows.length ≤ 2
  rw : ∀ r ∈ rows, r.length = t ∧ ∀ v ∈ r, -3 ≤ v ∧ v ≤ 3
theorem prow_ok {t : Nat} {r : List Int} (h : r.length = t) (hv : ∀ v ∈ r, -3 ≤ v ∧ v ≤ 3) : PRow t 2 1 (prow r) := by
  refine ⟨by unfold prow; rw [List.length_map]; exact h, fun p hp => ?_, 1, by decide, (by decide : (1 : Int).natAbs < 2 ^ 1), fun p hp => ?_⟩
  · unfold prow at hp
    obtain ⟨v, hv2, rfl⟩ := List.mem_map.mp hp
    have := hv v hv2
    show v.natAbs < 2 ^ 2
    omega
  · unfold prow at hp
    obtain ⟨v, hv2, rfl⟩ := List.mem_map.mp hp
    exact ⟨(by decide : (0 : Int) < 1), Int.dvd_refl 1⟩
theorem rowsG_ok {t : Nat} {rows : List (List Int)} (h : RowsG t rows) : (rows.map prow).length ≤ 2 ∧ ∀ r ∈ rows.map prow, PRow t 2 1 r := by
  refine ⟨by rw [List.length_map]; exact h.l2, fun r hr => ?_⟩
  obtain ⟨q, hq, rfl⟩ := List.mem_map.mp hr
  exact prow_ok (h.rw q hq).1 (h.rw q hq).2
def RedOk (t : Nat) (rows : List (List (Int × Int))) : Prop := rows.length ≤ 2 ∧ ∀ r ∈ rows, PRow t 11 11 r
theorem rowsG_red {t : Nat} {rows : List (List Int)} (h : RowsG t rows) : RedOk t (rdF (rows.map prow)) := by
  obtain ⟨h1, h2⟩ := rowsG_ok h
  exact rdF_ok h1 h2
structure GivF (t : Nat) (gs : List (Str × List (List Int))) : Prop where
  n1 : 1 ≤ gs.length
  n3 : gs.length ≤ 3
  nd : (gs.map (·.1)).Nodup
  nm : ∀ g ∈ gs, NmOk g.1
  rw : ∀ g ∈ gs, RowsG t g.2
theorem notmem_of_split {α : Type} {gs pre post : List (Str × α)} {g : Str × α} (nd : (gs.map (·.1)).Nodup) (h : gs = pre ++ g :: post) : g.1 ∉ pre.map (·.1) := by
  rw [h, List.map_append, List.map_cons] at nd
  have := List.nodup_append.mp nd
  intro hm
  exact this.2.2 _ hm _ List.mem_cons_self rfl
theorem sc_is_name : FnScope ["thing"] ["thing"] (defScope s_is_name) := ⟨rfl, rfl, rfl, by decide +kernel, rfl, by decide +kernel, by decide +kernel⟩
def sp_is_name : PreD := fun ds C R RX => ∃ x : Str, ds = [.str x] ∧ NmOk x ∧ R (.bl true) C
theorem ok_is_name {P : Program} {w : World} {K : PySem.W.Frag} {tt : List (Addr × Str)} {mg : Str → Option Value} {base : Heap} {f : Addr} {fd : FuncData} (F : FnP K "is_name" s_is_name f fd) (T : Txt K w mg) : FnOk P w K mg base (L2.CX P w) 1 f fd ["thing"] (SpD K tt sp_is_name) := by
  refine body_ok F sc_is_name (fun ds C R RX hp => by (obtain ⟨x, rfl, ⟨l1, l2, ⟨c, hc, hcl⟩, ha⟩, q⟩ := hp; rfl)) fun cdv A outer s H E G0 ds C R RX B hp => ?_
  obtain ⟨x, rfl, ⟨l1, l2, ⟨c, hc, hcl⟩, ha⟩, q⟩ := hp
  refine wss_cons (ws_if ?_)
  refine WT.mono (Q := fun k C1 => k = false ∧ C = C1) ?_ (fun k C1 hk => ?_)
  · skip
    refine wt_w (ww_or (wt_not (wt_tru (we_isiV .str T.isinstance T.str (we_name 0 rfl ?_)))))
    refine ⟨_, rfl, ?_⟩
    refine ⟨_, .bl _, ?_⟩
    refine ⟨fun hsc1 => ?_, fun hsc1 => ?_⟩
    skip
    · try replace hsc1 := of_decide_eq_true hsc1
      cases hsc1
    try replace hsc1 := of_decide_eq_false hsc1
    refine ww_or (wt_cmp (we_blt (id := "len") T.len (wa_cons (we_name 0 rfl (wa_nil ?_)))))
    refine ⟨_, .lenS _ (sz (by omega)), ?_⟩
    refine we_int ?_
    walk_at "cmp"
    refine ⟨fun hsc2 => ?_, fun hsc2 => ?_⟩
    skip
    · try replace hsc2 := of_decide_eq_true hsc2
      exact absurd hsc2 (by omega)
    try replace hsc2 := of_decide_eq_false hsc2
    refine ww_or1 (wt_cmp (we_blt (id := "len") T.len (wa_cons (we_name 0 rfl (wa_nil ?_)))))
    refine ⟨_, .lenS _ (sz (by omega)), ?_⟩
    refine we_gI T.NAME_LENGTH ?_
    walk_at "cmp"
    exact ⟨decide_eq_false (by omega), rfl⟩
  obtain ⟨rfl, rfl⟩ := hk
  refine ⟨fun hif1 => ?_, fun hif1 => ?_⟩
  · try replace hif1 := of_decide_eq_true hif1
    cases hif1
  try replace hif1 := of_decide_eq_false hif1
  refine wss_nil ?_
  refine wss_cons (ws_ret (we_and (we_cmp (we_ix (we_name 0 rfl (we_int ?_))))))
  refine ⟨_, .str (sz (by omega)) hc, ?_⟩
  refine we_gS T.LETTERS ?_
  refine ⟨_, .inSign _ _, ?_⟩
  refine ⟨_, rfl, fun hsc3 => ?_, fun hsc3 => ?_⟩
  rotate_left
  · try replace hsc3 := of_decide_eq_false hsc3
    exact absurd hcl hsc3
  try replace hsc3 := of_decide_eq_true hsc3
  refine we_one (we_cmp (we_m1 PySem.F.slot_str_strip PySem.F.type_str_strip (we_name 0 rfl ?_)))
  refine ⟨_, rfl, ?_⟩
  refine we_bin (we_gS T.LETTERS (we_gS T.DIGITS ?_))
  refine ⟨_, .adds _ _ (by decide), ?_⟩
  refine ⟨_, .strip _ _ (sz (by omega)), ?_⟩
  refine we_str ?_
  walk_at "cmp"
  rw [strip_all ha, decide_eq_true rfl]
  exact q
theorem sc_slide_items : FnScope ["thing", "line"] ["thing", "line"] (defScope s_slide_items) := ⟨rfl, rfl, rfl, by decide +kernel, rfl, by decide +kernel, by decide +kernel⟩
def sp_slide_items : PreD := fun ds C R RX => ∃ (items : List D) (i : Int), ds = [.lst items, .int i] ∧ R (.lst items) C
theorem ok_slide_items {P : Program} {w : World} {K : PySem.W.Frag} {tt : List (Addr × Str)} {mg : Str → Option Value} {base : Heap} {f : Addr} {fd : FuncData} (F : FnP K "slide_items" s_slide_items f fd) (T : Txt K w mg) (h_check_text : HasF P w K tt mg base "check_text" ["text"] 4 sp_check_text) (h_is_list : HasF P w K tt mg base "is_list" ["thing"] 1 sp_is_list) : FnOk P w K mg base (L2.CX P w) 6 f fd ["thing", "line"] (SpD K tt sp_slide_items) := by
  refine body_ok F sc_slide_items (fun ds C R RX hp => by (obtain ⟨items, i, rfl, q⟩ := hp; rfl)) fun cdv A outer s H E G0 ds C R RX B hp => ?_
  obtain ⟨items, i, rfl, q⟩ := hp
  refine wss_cons (ws_if (wt_tru (we_isiV .str T.isinstance T.str (we_name 0 rfl ?_))))
  refine ⟨_, rfl, ⟨_, .bl _, fun h => (by cases h), fun _ => ?_⟩⟩
  refine wss_nil ?_
  refine wss_cons (ws_if (wt_not (wt_tru (we_call h_is_list B.room (by decide) B.tk (wa_cons (we_name 0 rfl (wa_nil ?_)))))))
  refine ⟨_, _, rfl, rfl, ⟨_, .bl _, fun h => (by cases h), fun _ => ?_⟩⟩
  refine wss_nil ?_
  refine wss_cons (ws_ret (we_ty (T := "list") T.list (wa_cons (we_name 0 rfl (wa_nil ?_)))))
  exact ⟨_, .list (.l (.v _)), q⟩
theorem sc_slide_row : FnScope ["thing", "numbers", "line", "row", "fault"] ["thing", "numbers", "line"] (defScope s_slide_row) := ⟨rfl, rfl, rfl, by decide +kernel, rfl, by decide +kernel, by decide +kernel⟩
def sp_slide_row : PreD := fun ds C R RX => ∃ (r : List Int) (t : Nat) (i : Int), ds = [lI r, natD t, .int i] ∧ r.length = t ∧ 1 ≤ t ∧ t ≤ 1000 ∧ R (pairsD (prow r)) C
theorem ok_slide_row {P : Program} {w : World} {K : PySem.W.Frag} {tt : List (Addr × Str)} {mg : Str → Option Value} {base : Heap} {f : Addr} {fd : FuncData} (F : FnP K "slide_row" s_slide_row f fd) (T : Txt K w mg) (h_read_row : HasF P w K tt mg base "read_row" ["thing"] 8 sp_read_row) : FnOk P w K mg base (L2.CX P w) 9 f fd ["thing", "numbers", "line"] (SpD K tt sp_slide_row) := by
  refine body_ok F sc_slide_row (fun ds C R RX hp => by (obtain ⟨r, t, i, rfl, hl, h1, hz, q⟩ := hp; rfl)) fun cdv A outer s H E G0 ds C R RX B hp => ?_
  obtain ⟨r, t, i, rfl, hl, h1, hz, q⟩ := hp
  refine wss_cut (M := (fun σ' C' => σ' = [some (lI r), some (natD t), some (.int i), some (pairsD (prow r)), none] ∧ C' = C)) (ws_try0 ?_) (fun σ' C' hM => ?_)
  · skip
    refine wss_cons (ws_set 3 ?_ sc_slide_row.nd)
    refine we_call h_read_row B.nox.room (by decide) B.nox.tk (wa_cons (we_name 0 rfl (wa_nil ?_)))
    refine ⟨_, r.map fun v => (D.int v, (v, 1)), rfl, ⟨?_, by rw [List.length_map]; omega, fun e he => ?_⟩, ?_⟩
    · rw [List.map_map]
      exact .lst _ (fun e => by have := congrArg List.length e; rw [List.length_map, List.length_nil] at this; omega)
    · obtain ⟨v, hv, rfl⟩ := List.mem_map.mp he
      exact .int v
    refine wss_nil ?_
    refine ⟨?_, rfl⟩
    show [some (lI r), some (natD t), some (.int i), some (rowD (r.map fun v => (D.int v, (v, 1)))), none] = _
    unfold rowD pairsD prow
    rw [List.map_map, List.map_map]
    rfl
  obtain ⟨rfl, rfl⟩ := hM
  refine wss_cons (ws_if (wt_cmp (we_blt (id := "len") T.len (wa_cons (we_name 3 rfl (wa_nil ?_))))))
  refine ⟨_, .len (.t _), ?_⟩
  rw [List.length_map, show (prow r).length = r.length by unfold prow; rw [List.length_map], hl]
  refine we_name 1 rfl ?_
  walk_at "cmp"
  refine ⟨fun hif1 => ?_, fun hif1 => ?_⟩
  · try replace hif1 := of_decide_eq_true hif1
    exact absurd hif1 (by first | omega | decide | (simp; done) | (simp; omega))
  try replace hif1 := of_decide_eq_false hif1
  refine wss_nil ?_
  refine wss_cons (ws_ret (we_name 3 rfl ?_))
  exact q
theorem sc_read_slides : FnScope ["thing", "numbers", "line", "rows", "item"] ["thing", "numbers", "line"] (defScope s_read_slides) := ⟨rfl, rfl, rfl, by decide +kernel, rfl, by decide +kernel, by decide +kernel⟩
def sp_read_slides : PreD := fun ds C R RX => ∃ (rows : List (List Int)) (t : Nat) (i : Int), ds = [slG rows, natD t, .int i] ∧ RowsG t rows ∧ R (.tup ((rdF (rows.map prow)).map pairsD)) C
theorem ok_read_slides {P : Program} {w : World} {K : PySem.W.Frag} {tt : List (Addr × Str)} {mg : Str → Option Value} {base : Heap} {f : Addr} {fd : FuncData} (F : FnP K "read_slides" s_read_slides f fd) (T : Txt K w mg) (h_slide_items : HasF P w K tt mg base "slide_items" ["thing", "line"] 6 sp_slide_items) (h_reduce_rows : HasF P w K tt mg base "reduce_rows" ["rows"] 6 sp_reduce_rows) (h_check_next : HasF P w K tt mg base "check_next" ["what", "many"] 4 sp_check_next) (h_slide_row : HasF P w K tt mg base "slide_row" ["thing", "numbers", "line"] 9 sp_slide_row) : FnOk P w K mg base (L2.CX P w) 10 f fd ["thing", "numbers", "line"] (SpD K tt sp_read_slides) := by
  refine body_ok F sc_read_slides (fun ds C R RX hp => by (obtain ⟨rows, t, i, rfl, hr, q⟩ := hp; rfl)) fun cdv A outer s H E G0 ds C R RX B hp => ?_
  obtain ⟨rows, t, i, rfl, hr, q⟩ := hp
  obtain ⟨t1, t4, l2, hrw⟩ := id hr
  have hok := rowsG_ok hr
  refine wss_cons (ws_set 3 ?_ sc_read_slides.nd)
  refine we_nilC ?_
  intro p hp
  refine wss_cons (ws_forL ?_ B.po)
  refine wi_seq (we_call h_slide_items B.room (by decide) B.tk (wa_cons (we_name 0 rfl (wa_cons (we_name 2 rfl (wa_nil ?_))))))
  refine ⟨_, _, rfl, ?_⟩
  refine ⟨_, .lst _, ?_⟩
  refine ⟨_, rows, lI, fun pre σ' C' => ∃ o, σ' = [some (slG rows), some (natD t), some (.int i), some (.cell p), o] ∧ C' = setC C p (.lst ((pre.map prow).map pairsD)), rfl, ?_, fun G1 hG1 pre1 it1 post1 σ' C' hx1 hI => ?_, fun σ' C' hI => ?_⟩
  · exact ⟨_, rfl, rfl⟩
  · obtain ⟨o, rfl, rfl⟩ := hI
    have hm := hrw it1 (by rw [hx1]; simp)
    have hpl : pre1.length < rows.length := by rw [hx1, List.length_append, List.length_cons]; omega
    refine wg_name 4 ?_ sc_read_slides.nd
    refine wss_cons (ws_expr (we_append (we_name 3 rfl ?_)))
    refine ⟨_, rfl, ⟨_, by first | assumption | exact setC_same⟩, ?_⟩
    refine we_call h_slide_row (B.base hG1).room (by decide) (B.base hG1).tk (wa_cons (we_name 4 rfl (wa_cons (we_name 1 rfl (wa_cons (we_name 2 rfl (wa_nil ?_)))))))
    refine ⟨it1, t, i, rfl, hm.1, t1, by omega, ?_⟩
    refine ⟨_, setC_same, szlt (by rw [List.length_map, List.length_map]; omega), ?_⟩
    refine wss_cons (ws_expr (we_call h_check_next (B.base hG1).room (by decide) (B.base hG1).tk (wa_cons (we_str (wa_cons (we_blt (id := "len") T.len (wa_cons (we_name 3 rfl (wa_nil ?_)))))))))
    refine ⟨_, .len (.l (.c setC_same)), ?_⟩
    refine wa_nil ?_
    refine ⟨_, _, 8, rfl, rfl, by rw [List.length_append, List.length_map, List.length_map, List.length_singleton]; omega, ?_⟩
    refine wss_nil ?_
    refine ⟨_, rfl, ?_⟩
    rw [setC_setC, List.map_append, List.map_append]
    rfl
  obtain ⟨o, rfl, rfl⟩ := hI
  refine wss_cons (ws_ret (we_call h_reduce_rows B.room (by decide) B.tk (wa_cons (we_freeze (we_name 3 rfl ?_)))))
  refine ⟨p, _, rfl, setC_same, ?_⟩
  rw [delC_setC hp]
  refine wa_nil ?_
  exact ⟨t, 2, 1, rows.map prow, _, rfl, .inr rfl, by decide, hok.1, by omega, hok.2, q⟩
theorem sc_next_direction : FnScope ["known", "name", "slides", "numbers", "line", "one", "rows"] ["known", "name", "slides", "numbers", "line"] (defScope s_next_direction) := ⟨rfl, rfl, rfl, by decide +kernel, rfl, by decide +kernel, by decide +kernel⟩
def sp_next_direction : PreD := fun ds C R RX => ∃ (p : Addr) (ks : List Dir) (x : Str) (rows : List (List Int)) (t : Nat), ds = [.cell p, .str x, slG rows, natD t, .int 0] ∧ C p = some (.lst (ks.map dirD)) ∧ NmOk x ∧ x ∉ ks.map (·.1) ∧ ks.length ≤ 7 ∧ RowsG t rows ∧ R (dirD (x, rdF (rows.map prow))) C
theorem ok_next_direction {P : Program} {w : World} {K : PySem.W.Frag} {tt : List (Addr × Str)} {mg : Str → Option Value} {base : Heap} {f : Addr} {fd : FuncData} (F : FnP K "next_direction" s_next_direction f fd) (T : Txt K w mg) (h_read_slides : HasF P w K tt mg base "read_slides" ["thing", "numbers", "line"] 10 sp_read_slides) (h_check_next : HasF P w K tt mg base "check_next" ["what", "many"] 4 sp_check_next) (h_is_name : HasF P w K tt mg base "is_name" ["thing"] 1 sp_is_name) : FnOk P w K mg base (L2.CX P w) 11 f fd ["known", "name", "slides", "numbers", "line"] (SpD K tt sp_next_direction) := by
  refine body_ok F sc_next_direction (fun ds C R RX hp => by (obtain ⟨p, ks, x, rows, t, rfl, hp, hx, hnx, hl, hr, q⟩ := hp; rfl)) fun cdv A outer s H E G0 ds C R RX B hp => ?_
  obtain ⟨p, ks, x, rows, t, rfl, hp, hx, hnx, hl, hr, q⟩ := hp
  refine wss_cons (ws_if (wt_not (wt_tru (we_call h_is_name B.room (by decide) B.tk (wa_cons (we_name 1 rfl (wa_nil ?_)))))))
  refine ⟨_, rfl, hx, ?_⟩
  refine ⟨_, .bl _, ?_⟩
  refine ⟨fun hif1 => ?_, fun hif1 => ?_⟩
  · try replace hif1 := of_decide_eq_true hif1
    cases hif1
  try replace hif1 := of_decide_eq_false hif1
  refine wss_nil ?_
  refine wss_cons (ws_if (wt_cmp (we_name 1 rfl (we_lcC [("one", 5), ("rows", 6)] [5, 6] (fun _ _ _ _ _ => tgt_tup2 (by decide) (by decide) sc_next_direction.nd) sc_next_direction.nd (blkOk_by (by kernel_rfl)) (wic (we_name 0 rfl ?_))))))
  refine ⟨_, _, rfl, hp, ?_⟩
  refine lcC_map (ks) (dirD) (fun k => .str k.1) (rfl) (sz (by omega)) (fun x hx => .tup2 _ _ _ _ _) (fun k hx s H cl Cc fp G C' hC => ?_) ?_
  · skip
    refine we_name 5 rfl ?_
    exact ⟨rfl, rfl⟩
  rw [show (ks.map fun k => D.str k.1) = (ks.map (·.1)).map D.str by rw [List.map_map]; rfl]
  refine ⟨_, .inSeq (.l (.v _)) rfl flat_strs, ?_⟩
  rw [in_strs, decide_eq_false hnx]
  refine ⟨fun hif2 => ?_, fun hif2 => ?_⟩
  · try replace hif2 := of_decide_eq_true hif2
    cases hif2
  try replace hif2 := of_decide_eq_false hif2
  refine wss_nil ?_
  refine wss_cons (ws_set 6 ?_ sc_next_direction.nd)
  refine we_call h_read_slides B.room (by decide) B.tk (wa_cons (we_name 2 rfl (wa_cons (we_name 3 rfl (wa_cons (we_name 4 rfl (wa_nil ?_)))))))
  refine ⟨_, _, _, rfl, hr, ?_⟩
  refine wss_cons (ws_expr (we_call h_check_next B.room (by decide) B.tk (wa_cons (we_str (wa_cons (we_bin (we_blt (id := "len") T.len (wa_cons (we_name 0 rfl (wa_nil ?_))))))))))
  refine ⟨_, .len (.l (.c hp)), ?_⟩
  refine we_int ?_
  walk_at "op"
  refine wa_nil ?_
  refine ⟨_, _, 8, rfl, rfl, by rw [List.length_map]; omega, ?_⟩
  refine wss_cons (ws_ret (we_tup (wa_cons (we_name 1 rfl (wa_cons (we_name 6 rfl (wa_nil ?_)))))))
  refine ⟨by walk_at "tsz", ?_⟩
  exact q
theorem sc_numbers_of : FnScope ["many", "line"] ["many", "line"] (defScope s_numbers_of) := ⟨rfl, rfl, rfl, by decide +kernel, rfl, by decide +kernel, by decide +kernel⟩
def sp_numbers_of : PreD := fun ds C R RX => ∃ (t : Nat) (i : Int), ds = [natD t, .int i] ∧ 1 ≤ t ∧ t ≤ 4 ∧ R (natD t) C
theorem ok_numbers_of {P : Program} {w : World} {K : PySem.W.Frag} {tt : List (Addr × Str)} {mg : Str → Option Value} {base : Heap} {f : Addr} {fd : FuncData} (F : FnP K "numbers_of" s_numbers_of f fd) (T : Txt K w mg) (h_check_many : HasF P w K tt mg base "check_many" ["what", "many"] 4 sp_check_many) (h_is_whole : HasF P w K tt mg base "is_whole" ["thing"] 1 sp_is_whole) : FnOk P w K mg base (L2.CX P w) 5 f fd ["many", "line"] (SpD K tt sp_numbers_of) := by
  refine body_ok F sc_numbers_of (fun ds C R RX hp => by (obtain ⟨t, i, rfl, t1, t4, q⟩ := hp; rfl)) fun cdv A outer s H E G0 ds C R RX B hp => ?_
  obtain ⟨t, i, rfl, t1, t4, q⟩ := hp
  refine wss_cons (ws_if ?_)
  refine WT.mono (Q := fun k C1 => k = false ∧ C = C1) ?_ (fun k C1 hk => ?_)
  · skip
    refine wt_w (ww_or (wt_not (wt_tru (we_call h_is_whole B.room (by decide) B.tk (wa_cons (we_name 0 rfl (wa_nil ?_)))))))
    refine ⟨_, _, rfl, rfl, ?_⟩
    refine ⟨_, .bl _, ?_⟩
    refine ⟨fun hsc1 => ?_, fun hsc1 => ?_⟩
    skip
    · try replace hsc1 := of_decide_eq_true hsc1
      cases hsc1
    try replace hsc1 := of_decide_eq_false hsc1
    refine ww_or1 (wt_cmp (we_name 0 rfl (we_int ?_)))
    walk_at "cmp"
    exact ⟨decide_eq_false (by omega), rfl⟩
  obtain ⟨rfl, rfl⟩ := hk
  refine ⟨fun hif1 => ?_, fun hif1 => ?_⟩
  · try replace hif1 := of_decide_eq_true hif1
    cases hif1
  try replace hif1 := of_decide_eq_false hif1
  refine wss_nil ?_
  refine wss_cons (ws_expr (we_call h_check_many B.room (by decide) B.tk (wa_cons (we_str (wa_cons (we_name 0 rfl (wa_nil ?_)))))))
  refine ⟨_, _, 4, rfl, rfl, by omega, ?_⟩
  refine wss_cons (ws_ret (we_name 0 rfl ?_))
  exact q
theorem sc_Field_init : FnScope ["self", "text", "made", "name", "rows"] ["self", "text", "made"] (defScope s_Field_init) := ⟨rfl, rfl, rfl, by decide +kernel, rfl, by decide +kernel, by decide +kernel⟩
def sp_Field_init (K : PySem.W.Frag) : PreD := fun ds C R RX => ∃ (p : Addr) (x : D) (t : Nat) (qs : List Dir), ds = [.cell p, x, .tup [natD t, .tup (qs.map dirD)]] ∧ C p = some (.ins (He.ga K "Field") []) ∧ 1 ≤ qs.length ∧ qs.length ≤ 8 ∧ R .non (setC C p (.ins (He.ga K "Field") (fieldFs t qs)))
theorem ok_Field_init {P : Program} {w : World} {K : PySem.W.Frag} {tt : List (Addr × Str)} {mg : Str → Option Value} {base : Heap} {f : Addr} {fd : FuncData} (F : FunD K "__init__" "Field.__init__" (defArgs s_Field_init) (defBody s_Field_init) (defScope s_Field_init) [] [("made", .non)] f fd) (T : Txt K w mg) : FnOk P w K mg base (L2.CX P w) 4 f fd ["self", "text", "made"] (SpD K tt (sp_Field_init K)) := by
  refine body_ok F sc_Field_init (fun ds C R RX hp => by (obtain ⟨p, x, t, qs, rfl, hp, h1, h8, q⟩ := hp; rfl)) fun cdv A outer s H E G0 ds C R RX B hp => ?_
  obtain ⟨p, x, t, qs, rfl, hp, h1, h8, q⟩ := hp
  refine wss_cons (ws_setf (we_if (wt_cmp (we_name 2 rfl (we_non ?_)))))
  walk_at "cmp"
  refine ⟨fun hife1 => ?_, fun hife1 => ?_⟩
  · try replace hife1 := of_decide_eq_true hife1
    cases hife1
  try replace hife1 := of_decide_eq_false hife1
  refine we_name 2 rfl (we_name 0 rfl ?_)
  walk_at "setf"
  refine wss_cons (ws_setf (we_ix (we_fld (we_name 0 rfl ?_))))
  walk_at "attr"
  refine we_int ?_
  refine ⟨_, .seq (.t _) rfl, ?_⟩
  refine we_name 0 rfl ?_
  walk_at "setf"
  refine wss_cons (ws_setf (we_ty (T := "tuple") T.tuple (wa_cons (we_lc [("name", 3), ("rows", 4)] [3, 4] (fun _ _ _ _ _ => tgt_tup2 (by decide) (by decide) sc_Field_init.nd) sc_Field_init.nd (blkOk_by (by kernel_rfl)) (wi_seq (we_ix (we_fld (we_name 0 rfl ?_))))))))
  walk_at "attr"
  refine we_int ?_
  refine ⟨_, .seq (.t _) rfl, ?_⟩
  refine ⟨_, .tup _, ?_⟩
  refine lc_map (qs) (dirD) (fun k => .str k.1) (rfl) (sz (by omega)) (fun x hx => .tup2 _ _ _ _ _) (fun k hx s H cl Cc fp G C' hC => ?_) ?_
  · skip
    refine we_name 3 rfl ?_
    exact ⟨rfl, rfl⟩
  refine wa_nil ?_
  walk_at "blt"
  refine we_name 0 rfl ?_
  walk_at "setf"
  refine wss_cons (ws_setf (we_ix (we_fld (we_name 0 rfl ?_))))
  walk_at "attr"
  refine we_int ?_
  refine ⟨.str (qs.getD 0 ("", [])).1, .seq (.t _) (by rw [atI_map (("", []) : Dir) (by omega) (by omega)]; rfl), ?_⟩
  refine we_name 0 rfl ?_
  walk_at "setf"
  refine wss_nil ?_
  exact q
theorem sc_made_field : FnScope ["numbers", "directions", "name", "rows"] ["numbers", "directions"] (defScope s_made_field) := ⟨rfl, rfl, rfl, by decide +kernel, rfl, by decide +kernel, by decide +kernel⟩
def sp_made_field (K : PySem.W.Frag) : PreD := fun ds C R RX => ∃ (t : Nat) (qs : List Dir), ds = [natD t, .lst (qs.map dirD)] ∧ 1 ≤ qs.length ∧ qs.length ≤ 8 ∧ t ≤ 4 ∧ (∀ q ∈ qs, RedOk t q.2) ∧ R (fieldD K t (qs.map dirS)) C
theorem ok_made_field {P : Program} {w : World} {K : PySem.W.Frag} {tt : List (Addr × Str)} {mg : Str → Option Value} {base : Heap} {f : Addr} {fd : FuncData} (F : FnP K "made_field" s_made_field f fd) (T : Txt K w mg) (h_reduce_rows : HasF P w K tt mg base "reduce_rows" ["rows"] 6 sp_reduce_rows) (k_Field : HasC P w K tt mg base "Field" (He.ga K "Field") 1 ["made"] (fun a b => a ++ b) 4 (sp_Field_init K)) : FnOk P w K mg base (L2.CX P w) 7 f fd ["numbers", "directions"] (SpD K tt (sp_made_field K)) := by
  refine body_ok F sc_made_field (fun ds C R RX hp => by (obtain ⟨t, qs, rfl, h1, h8, t4, hq, q⟩ := hp; rfl)) fun cdv A outer s H E G0 ds C R RX B hp => ?_
  obtain ⟨t, qs, rfl, h1, h8, t4, hq, q⟩ := hp
  refine wss_cons (ws_ret (we_makeK k_Field B.room (by decide) (wa_cons (we_str (wa_nil ?_)))))
  show DW.WE _ _ _ _ _
  refine we_tup (wa_cons (we_name 0 rfl (wa_cons (we_ty (T := "tuple") T.tuple (wa_cons (we_lc [("name", 2), ("rows", 3)] [2, 3] (fun _ _ _ _ _ => tgt_tup2 (by decide) (by decide) sc_made_field.nd) sc_made_field.nd (blkOk_by (by kernel_rfl)) (wi_seq (we_name 1 rfl ?_))))))))
  refine ⟨_, .lst _, ?_⟩
  refine lc_map (qs) (dirD) (fun k => dirD (dirS k)) (rfl) (sz (by omega)) (fun x hx => .tup2 _ _ _ _ _) (fun k hx s H cl Cc fp G C' hC => ?_) ?_
  · skip
    refine we_tup (wa_cons (we_name 2 rfl (wa_cons (we_call h_reduce_rows (blkB B).room (by decide) (blkB B).tk (wa_cons (we_name 3 rfl (wa_nil ?_)))))))
    refine ⟨t, 11, 11, k.2, _, rfl, .inl rfl, by decide, (hq k hx).1, by omega, (hq k hx).2, ?_⟩
    refine wa_nil ?_
    refine ⟨by walk_at "tsz", ?_⟩
    exact ⟨rfl, rfl⟩
  refine wa_nil ?_
  walk_at "blt"
  refine wa_nil ?_
  refine ⟨by walk_at "tsz", ?_⟩
  refine ⟨rfl, rfl, fun p hp => ⟨p, _, t, qs.map dirS, by rw [List.map_map]; rfl, setC_same, by rw [List.length_map]; exact h1, by rw [List.length_map]; exact h8, rfl, _, setC_same, ?_⟩⟩
  rw [setC_setC, delC_setC hp]
  exact q
theorem sc_field_of : FnScope ["numbers", "directions", "many", "known", "item"] ["numbers", "directions"] (defScope s_field_of) := ⟨rfl, rfl, rfl, by decide +kernel, rfl, by decide +kernel, by decide +kernel⟩
def sp_field_of (K : PySem.W.Frag) : PreD := fun ds C R RX => ∃ (t : Nat) (gs : List (Str × List (List Int))), ds = [natD t, .lst (gs.map dirG)] ∧ GivF t gs ∧ R (fieldD K t ((gs.map dirR).map dirS)) C
theorem ok_field_of {P : Program} {w : World} {K : PySem.W.Frag} {tt : List (Addr × Str)} {mg : Str → Option Value} {base : Heap} {f : Addr} {fd : FuncData} (F : FnP K "field_of" s_field_of f fd) (T : Txt K w mg) (h_numbers_of : HasF P w K tt mg base "numbers_of" ["many", "line"] 5 sp_numbers_of) (h_made_field : HasF P w K tt mg base "made_field" ["numbers", "directions"] 7 (sp_made_field K)) (h_is_list : HasF P w K tt mg base "is_list" ["thing"] 1 sp_is_list) (h_next_direction : HasF P w K tt mg base "next_direction" ["known", "name", "slides", "numbers", "line"] 11 sp_next_direction) : FnOk P w K mg base (L2.CX P w) 12 f fd ["numbers", "directions"] (SpD K tt (sp_field_of K)) := by
  refine body_ok F sc_field_of (fun ds C R RX hp => by (obtain ⟨t, gs, rfl, hg, q⟩ := hp; rfl)) fun cdv A outer s H E G0 ds C R RX B hp => ?_
  obtain ⟨t, gs, rfl, hg, q⟩ := hp
  obtain ⟨n1, n3, nd, nm, hrw⟩ := id hg
  obtain ⟨g0, gm⟩ : ∃ g0, g0 ∈ gs := by
    cases gs with
    | nil => exact absurd n1 (by simp)
    | cons g r => exact ⟨g, List.mem_cons_self⟩
  have t1 := (hrw g0 gm).t1
  have t4 := (hrw g0 gm).t4
  refine wss_cons (ws_set 2 ?_ sc_field_of.nd)
  refine we_call h_numbers_of B.room (by decide) B.tk (wa_cons (we_name 0 rfl (wa_cons (we_int (wa_nil ?_)))))
  refine ⟨t, 0, rfl, t1, t4, ?_⟩
  refine wss_cons (ws_if ?_)
  refine WT.mono (Q := fun k C1 => k = false ∧ C = C1) ?_ (fun k C1 hk => ?_)
  · skip
    refine wt_w (ww_or (wt_not (wt_tru (we_call h_is_list B.room (by decide) B.tk (wa_cons (we_name 1 rfl (wa_nil ?_)))))))
    refine ⟨_, _, rfl, rfl, ?_⟩
    refine ⟨_, .bl _, ?_⟩
    refine ⟨fun hsc1 => ?_, fun hsc1 => ?_⟩
    skip
    · try replace hsc1 := of_decide_eq_true hsc1
      cases hsc1
    try replace hsc1 := of_decide_eq_false hsc1
    refine ww_or1 (wt_cmp (we_blt (id := "len") T.len (wa_cons (we_name 1 rfl (wa_nil ?_)))))
    refine ⟨_, .len (.l (.v _)), ?_⟩
    refine we_int ?_
    walk_at "cmp"
    exact ⟨decide_eq_false (by rw [List.length_map]; omega), rfl⟩
  obtain ⟨rfl, rfl⟩ := hk
  refine ⟨fun hif1 => ?_, fun hif1 => ?_⟩
  · try replace hif1 := of_decide_eq_true hif1
    cases hif1
  try replace hif1 := of_decide_eq_false hif1
  refine wss_nil ?_
  refine wss_cons (ws_set 3 ?_ sc_field_of.nd)
  refine we_nilC ?_
  intro p hp
  refine wss_cons (ws_forL ?_ B.po)
  refine wi_seq (we_name 1 rfl ?_)
  refine ⟨_, .lst _, ?_⟩
  refine ⟨_, gs, dirG, fun pre σ' C' => ∃ o, σ' = [some (natD t), some (.lst (gs.map dirG)), some (natD t), some (.cell p), o] ∧ C' = setC C p (.lst ((pre.map dirR).map dirD)), rfl, ?_, fun G1 hG1 pre1 it1 post1 σ' C' hx1 hI => ?_, fun σ' C' hI => ?_⟩
  · exact ⟨_, rfl, rfl⟩
  · obtain ⟨o, rfl, rfl⟩ := hI
    have hm : it1 ∈ gs := by rw [hx1]; simp
    have hpl : pre1.length < gs.length := by rw [hx1, List.length_append, List.length_cons]; omega
    refine wg_name 4 ?_ sc_field_of.nd
    refine wss_cons (ws_if ?_)
    refine WT.mono (Q := fun k C1 => k = false ∧ setC C p (.lst ((pre1.map dirR).map dirD)) = C1) ?_ (fun k C1 hk => ?_)
    · skip
      refine wt_w (ww_or (wt_not (wt_tru (we_isiV .tup T.isinstance T.tuple (we_name 4 rfl ?_)))))
      refine ⟨_, rfl, ?_⟩
      refine ⟨_, .bl _, ?_⟩
      refine ⟨fun hsc2 => ?_, fun hsc2 => ?_⟩
      skip
      · try replace hsc2 := of_decide_eq_true hsc2
        cases hsc2
      try replace hsc2 := of_decide_eq_false hsc2
      refine ww_or1 (wt_cmp (we_blt (id := "len") T.len (wa_cons (we_name 4 rfl (wa_nil ?_)))))
      refine ⟨_, .len (.t _), ?_⟩
      refine we_int ?_
      walk_at "cmp"
      exact ⟨rfl, rfl⟩
    obtain ⟨rfl, rfl⟩ := hk
    refine ⟨fun hif2 => ?_, fun hif2 => ?_⟩
    · try replace hif2 := of_decide_eq_true hif2
      cases hif2
    try replace hif2 := of_decide_eq_false hif2
    refine wss_nil ?_
    refine wss_cons (ws_expr (we_append (we_name 3 rfl ?_)))
    refine ⟨_, rfl, ⟨_, by first | assumption | exact setC_same⟩, ?_⟩
    refine we_call h_next_direction (B.base hG1).room (by decide) (B.base hG1).tk (wa_cons (we_name 3 rfl (wa_cons (we_ix (we_name 4 rfl (we_int ?_))))))
    refine ⟨_, .seq (.t _) rfl, ?_⟩
    refine wa_cons (we_ix (we_name 4 rfl (we_int ?_)))
    refine ⟨_, .seq (.t _) rfl, ?_⟩
    refine wa_cons (we_name 2 rfl (wa_cons (we_int (wa_nil ?_))))
    refine ⟨p, pre1.map dirR, it1.1, it1.2, t, rfl, setC_same, nm it1 hm, ?_, by rw [List.length_map]; omega, hrw it1 hm, ?_⟩
    · rw [List.map_map]
      exact notmem_of_split nd hx1
    refine ⟨_, setC_same, szlt (by rw [List.length_map, List.length_map]; omega), ?_⟩
    refine wss_nil ?_
    refine ⟨_, rfl, ?_⟩
    rw [setC_setC, List.map_append, List.map_append]
    rfl
  obtain ⟨o, rfl, rfl⟩ := hI
  refine wss_cons (ws_ret (we_call h_made_field B.room (by decide) B.tk (wa_cons (we_name 2 rfl (wa_cons (we_freeze (we_name 3 rfl ?_)))))))
  refine ⟨p, _, rfl, setC_same, ?_⟩
  rw [delC_setC hp]
  refine wa_nil ?_
  refine ⟨t, gs.map dirR, rfl, by rw [List.length_map]; exact n1, by rw [List.length_map]; omega, t4, fun g hgm => ?_, q⟩
  obtain ⟨g1, h1, rfl⟩ := List.mem_map.mp hgm
  exact rowsG_red (hrw g1 h1)
end K60
set_option Elab.async false
set_option linter.all false
set_option maxRecDepth 100000
set_option maxHeartbeats 4000000
namespace K60
open PySem PySem.Spec PyProof.Rows L2 Evl DW
local macro_rules | `(tactic| walk_at "seq") => `(tactic| first | exact .l (.v _) | exact .t _ | exact .r _ | exact .l (.c setC_same) | exact .l (.c (by assumption)))
local macro_rules | `(tactic| walk_at "lin") => `(tactic| first | exact .v _ | exact .c setC_same | exact .c (by assumption))
local macro_rules | `(tactic| walk_at "size") => `(tactic| first | (refine sz ?_; first | omega | (simp only [List.length_map, List.length_range, List.length_append, List.length_cons, List.length_nil, List.length_replicate] at *; omega)) | decide)
local macro_rules | `(tactic| walk_at "mulok") => `(tactic| first | exact mulR (by decide) (by decide) | exact mulL (by decide) (by decide) | assumption | exact mulL (by omega) (by omega) | exact mulR (by omega) (by omega))
local macro_rules | `(tactic| walk_at "op") => `(tactic| first
  | refine ⟨_, .add _ _, ?_⟩
  | refine ⟨_, .sub _ _, ?_⟩
  | refine ⟨_, .mul _ _ (by walk_at "mulok"), ?_⟩
  | refine ⟨_, .mod _ _ (by first | decide | omega | assumption), ?_⟩
  | refine ⟨_, .div _ _ (by first | decide | omega | assumption) (by first | decide | assumption), ?_⟩
  | refine ⟨_, .pow _ _ (by decide), ?_⟩
  | refine ⟨_, .adds _ _ (by walk_at "size"), ?_⟩
  | refine ⟨_, .catT _ _ (by walk_at "size"), ?_⟩
  | refine ⟨_, .cat (by walk_at "lin") (by walk_at "lin") (by walk_at "size"), ?_⟩
  | refine ⟨_, .rep _ (by walk_at "lin") (by first | decide | omega) (by first | decide | omega) (by walk_at "size"), ?_⟩)
local macro_rules | `(tactic| walk_at "cmp") => `(tactic| first
  | refine ⟨_, .lt _ _, ?_⟩ | refine ⟨_, .le _ _, ?_⟩ | refine ⟨_, .gt _ _, ?_⟩ | refine ⟨_, .ge _ _, ?_⟩
  | refine ⟨_, .eqI _ _, ?_⟩ | refine ⟨_, .neI _ _, ?_⟩ | refine ⟨_, .eqS _ _, ?_⟩ | refine ⟨_, .neS _ _, ?_⟩ | refine ⟨_, .eqB _ _, ?_⟩ | refine ⟨_, .neB _ _, ?_⟩
  | refine ⟨_, .isN, ?_⟩ | refine ⟨_, .ntN, ?_⟩ | refine ⟨_, .isC, ?_⟩ | refine ⟨_, .ntC, ?_⟩ | refine ⟨_, .isNo trivial, ?_⟩ | refine ⟨_, .ntNo trivial, ?_⟩)
local macro_rules | `(tactic| walk_at "ix") => `(tactic| first | refine ⟨_, .seq (by walk_at "seq") rfl, ?_⟩)
local macro_rules | `(tactic| walk_at "slc") => `(tactic| first | refine ⟨_, .lst _ _ (by walk_at "lin"), ?_⟩ | refine ⟨_, .tup _ _ _, ?_⟩ | refine ⟨_, .rol _ _ _, ?_⟩ | refine ⟨_, .str _ _ _ (by walk_at "size"), ?_⟩)
local macro_rules | `(tactic| walk_at "blt") => `(tactic| first
  | refine ⟨_, .len (by walk_at "seq"), ?_⟩ | refine ⟨_, .lenS _ (by walk_at "size"), ?_⟩ | refine ⟨_, .abs _, ?_⟩ | refine ⟨_, .max2 _ _ rfl, ?_⟩ | refine ⟨_, .min2 _ _ rfl, ?_⟩
  | refine ⟨_, .int _, ?_⟩ | refine ⟨_, .intB _, ?_⟩ | refine ⟨_, .bool _, ?_⟩ | refine ⟨_, .boolI _, ?_⟩
  | refine ⟨_, .sum _ (by walk_at "lin") rfl, ?_⟩ | refine ⟨_, .all _ (by walk_at "lin") rfl, ?_⟩ | refine ⟨_, .any _ (by walk_at "lin") rfl, ?_⟩
  | refine ⟨_, .list (by walk_at "seq"), ?_⟩ | refine ⟨_, .tuple (by walk_at "lin"), ?_⟩ | refine ⟨_, .tupleT _, ?_⟩)
local macro_rules | `(tactic| walk_at "sub") => `(tactic| (refine ⟨_, _, _, _, rfl, rfl, (by first | exact setC_same | assumption), rfl, ?_⟩; try rw [setC_setC]))
local macro_rules | `(tactic| walk_at "fun") => `(tactic| first | refine ⟨_, .gcd _ _, ?_⟩ | refine ⟨_, .lcm _ _ (by assumption) (by assumption), ?_⟩ | refine ⟨_, .lcm _ _ (by omega) (by omega), ?_⟩ | refine ⟨_, .comb _ _ (by omega) (by omega) (by omega) (by omega), ?_⟩)
local macro_rules | `(tactic| walk_at "sizelt") => `(tactic| first | (refine szlt ?_; first | omega | (simp only [List.length_map, List.length_range, List.length_append, List.length_cons, List.length_nil, List.length_replicate] at *; omega)) | decide)
local macro_rules | `(tactic| walk_at "meth") => `(tactic| first | refine ⟨_, .startswith _ _, ?_⟩ | refine ⟨_, .strip _ _ (by walk_at "size"), ?_⟩ | refine ⟨_, .partition _ _ rfl (by walk_at "size"), ?_⟩ | refine ⟨_, .split _ _ rfl (by walk_at "size"), ?_⟩)
local macro_rules | `(tactic| walk_at "tsz") => `(tactic| first | decide | exact sz (by simp))
local macro_rules | `(tactic| walk_at "jsz") => `(tactic| first | decide | walk_at "size" | (refine sz ?_; simp; omega))
local macro_rules | `(tactic| walk_at "log") => `(tactic| first | assumption | omega)
local macro_rules | `(tactic| walk_at "attr") => `(tactic| first
  | refine ⟨_, _, _, .v _ _, (by first | exact Txt.c_Field (by assumption) | exact Txt.c_Lot (by assumption)), (by first | exact Txt.n_Field (by assumption) _ (by decide) | exact Txt.n_Lot (by assumption) _ (by decide)), rfl, ?_⟩
  | refine ⟨_, _, _, .c setC_same, (by first | exact Txt.c_Field (by assumption) | exact Txt.c_Lot (by assumption)), (by first | exact Txt.n_Field (by assumption) _ (by decide) | exact Txt.n_Lot (by assumption) _ (by decide)), rfl, ?_⟩)
local macro_rules | `(tactic| walk_at "setf") => `(tactic| (refine ⟨_, _, _, rfl, by first | assumption | exact setC_same, (by first | exact Txt.c_Field (by assumption) | exact Txt.c_Lot (by assumption)), (by first | exact Txt.n_Field (by assumption) _ (by decide) | exact Txt.n_Lot (by assumption) _ (by decide)), (by exact Nat.le_of_ble_eq_true rfl), ?_⟩; try rw [setC_setC]))
structure EdOk (t : Nat) (e : Nat → Nat) (den : Nat) : Prop where
  t1 : 1 ≤ t
  t4 : t ≤ 4
  e15 : ∀ i, i < t → 1 ≤ e i ∧ e i ≤ 5
  d1 : 1 ≤ den
  d3 : den ≤ 3
def plL (den : Nat) (line : List Int) : List (Int × Int) := line.map fun x => lowP x (den : Int)
def plT (t : Nat) (e : Nat → Nat) (den : Nat) : List (List (Int × Int)) := (List.range t).map fun i => plL den (diagL t i (e i))
def plain (rows : List (D × List (D × (Int × Int)))) : List (List (Int × Int)) := rows.map fun r => r.2.map (·.2)
def FirmIn (t : Nat) (d : D) : Prop := ∃ rows e den, EdOk t e den ∧ TabOk d rows t ∧ plain rows = plT t e den
theorem rowDs_plain (rows : List (D × List (D × (Int × Int)))) : rowDs rows = (plain rows).map pairsD := by
  unfold rowDs plain
  rw [List.map_map]
  refine List.map_congr_left fun r _ => ?_
  unfold rowD
  show _ = pairsD (r.2.map (·.2))
  unfold pairsD
  rw [List.map_map]
  rfl
theorem low_den : ∀ x : Nat, x < 6 → ∀ d : Nat, d < 4 → 1 ≤ d → ((lowP (x : Int) (d : Int)).2 = 1 ∨ (lowP (x : Int) (d : Int)).2 = 2 ∨ (lowP (x : Int) (d : Int)).2 = 3) := by decide +kernel
theorem low_top : ∀ x : Nat, x < 6 → ∀ d : Nat, d < 4 → 1 ≤ d → 0 ≤ (lowP (x : Int) (d : Int)).1 ∧ (lowP (x : Int) (d : Int)).1 ≤ 5 := by decide +kernel
theorem low_pos : ∀ x : Nat, x < 6 → ∀ d : Nat, d < 4 → 1 ≤ d → 1 ≤ x → 1 ≤ (lowP (x : Int) (d : Int)).1 := by decide +kernel
theorem low_zero : ∀ d : Nat, d < 4 → 1 ≤ d → (lowP (0 : Int) (d : Int)).1 = 0 := by decide +kernel
theorem diagL_small {t i : Nat} {e : Nat → Nat} {den : Nat} (h : EdOk t e den) (hi : i < t) : ∀ x ∈ diagL t i (e i), ∃ n : Nat, x = (n : Int) ∧ n < 6 := by
  intro x hx
  unfold diagL at hx
  obtain ⟨j, hj, rfl⟩ := List.mem_map.mp hx
  have := h.e15 i hi
  split
  · exact ⟨e i, rfl, by omega⟩
  · exact ⟨0, rfl, by decide⟩
theorem plT_small {t : Nat} {e : Nat → Nat} {den : Nat} (h : EdOk t e den) : SmallR (plT t e den) := by
  have h0 := h.t4
  have key : ∀ r ∈ plT t e den, r.length = t ∧ ∀ p ∈ r, ∃ n : Nat, n < 6 ∧ p = lowP (n : Int) (den : Int) := by
    intro r hr
    unfold plT at hr
    obtain ⟨i, hi, rfl⟩ := List.mem_map.mp hr
    refine ⟨by unfold plL; rw [List.length_map, diagL_len], fun p hp => ?_⟩
    unfold plL at hp
    obtain ⟨x, hx, rfl⟩ := List.mem_map.mp hp
    obtain ⟨n, rfl, hn⟩ := diagL_small h (List.mem_range.mp hi) x hx
    exact ⟨n, hn, rfl⟩
  refine ⟨by unfold plT; rw [List.length_map, List.length_range]; omega, fun r hr => by rw [(key r hr).1]; omega, fun r hr p hp => ?_, fun r hr p hp => ?_⟩
  · obtain ⟨n, hn, rfl⟩ := (key r hr).2 p hp
    exact low_den n hn den (by have := h.d3; omega) h.d1
  · obtain ⟨n, hn, rfl⟩ := (key r hr).2 p hp
    have := low_top n hn den (by have := h.d3; omega) h.d1
    omega
theorem cb1_mul {u b : Int} (hu : 0 < u) (hb : 0 < b) : 0 < cb1 u b ∧ u ∣ cb1 u b ∧ b ∣ cb1 u b := by
  unfold cb1
  split
  · rename_i h
    exact ⟨hu, Int.dvd_refl u, Int.dvd_of_emod_eq_zero h⟩
  · have h1 : 0 < Nat.lcm u.natAbs b.natAbs := Nat.lcm_pos (by omega) (by omega)
    refine ⟨by omega, ?_, ?_⟩
    · exact Int.natAbs_dvd_natAbs.mp (by rw [Int.natAbs_natCast]; exact Nat.dvd_lcm_left _ _)
    · exact Int.natAbs_dvd_natAbs.mp (by rw [Int.natAbs_natCast]; exact Nat.dvd_lcm_right _ _)
theorem cbP_mul : ∀ (ps : List (Int × Int)) (u : Int), 0 < u → (∀ p ∈ ps, 0 < p.2) → 0 < cbP ps u ∧ u ∣ cbP ps u ∧ ∀ p ∈ ps, p.2 ∣ cbP ps u
  | [], u, hu, _ => ⟨hu, Int.dvd_refl u, fun p h => nomatch h⟩
  | q :: ps, u, hu, h => by
    obtain ⟨h1, h2, h3⟩ := cb1_mul hu (h q List.mem_cons_self)
    obtain ⟨h4, h5, h6⟩ := cbP_mul ps (cb1 u q.2) h1 fun p hp => h p (List.mem_cons_of_mem _ hp)
    refine ⟨h4, Int.dvd_trans h2 h5, fun p hp => ?_⟩
    rcases List.mem_cons.mp hp with rfl | hp
    · exact Int.dvd_trans h3 h5
    · exact h6 p hp
theorem lcmR_mul : ∀ (rows : List (List (Int × Int))) (u : Int), 0 < u → (∀ r ∈ rows, ∀ p ∈ r, 0 < p.2) → 0 < lcmR rows u ∧ u ∣ lcmR rows u ∧ ∀ r ∈ rows, ∀ p ∈ r, p.2 ∣ lcmR rows u
  | [], u, hu, _ => ⟨hu, Int.dvd_refl u, fun p h => nomatch h⟩
  | q :: rows, u, hu, h => by
    obtain ⟨h1, _, h3⟩ := cbP_mul q 1 (by decide) (h q List.mem_cons_self)
    have hp : 0 < Nat.lcm u.natAbs (cbP q).natAbs := Nat.lcm_pos (by omega) (by omega)
    obtain ⟨h4, h5, h6⟩ := lcmR_mul rows ((Nat.lcm u.natAbs (cbP q).natAbs : Nat) : Int) (by omega) fun p hp => h p (List.mem_cons_of_mem _ hp)
    refine ⟨h4, Int.dvd_trans (Int.natAbs_dvd_natAbs.mp (by rw [Int.natAbs_natCast]; exact Nat.dvd_lcm_left _ _)) h5, fun r hr p hpr => ?_⟩
    rcases List.mem_cons.mp hr with rfl | hr
    · exact Int.dvd_trans (Int.dvd_trans (h3 p hpr) (Int.natAbs_dvd_natAbs.mp (by rw [Int.natAbs_natCast]; exact Nat.dvd_lcm_right _ _))) h5
    · exact h6 r hr p hpr
def dgC (t : Nat) (e : Nat → Nat) (den : Nat) (i : Nat) : Int := (lowP (e i : Int) (den : Int)).1 * (lcmR (plT t e den) / (lowP (e i : Int) (den : Int)).2)
theorem plT_whole {t : Nat} {e : Nat → Nat} {den : Nat} (h : EdOk t e den) : wholeR (plT t e den) = (List.range t).map fun i => diagL t i (dgC t e den i) := by
  unfold wholeR
  generalize hU : lcmR (plT t e den) = U
  have hd : ∀ i, dgC t e den i = (lowP (e i : Int) (den : Int)).1 * (U / (lowP (e i : Int) (den : Int)).2) := fun i => by unfold dgC; rw [hU]
  unfold plT
  rw [List.map_map]
  refine List.map_congr_left fun i hi => ?_
  show (plL den (diagL t i (e i))).map _ = _
  unfold plL diagL
  rw [List.map_map, List.map_map]
  refine List.map_congr_left fun j hj => ?_
  show (lowP (if i = j then (e i : Int) else 0) (den : Int)).1 * (U / (lowP (if i = j then (e i : Int) else 0) (den : Int)).2) = if i = j then dgC t e den i else 0
  by_cases hij : i = j
  · rw [if_pos hij, if_pos hij, hd]
  · rw [if_neg hij, if_neg hij]
    rw [low_zero den (by have := h.d3; omega) h.d1, Int.zero_mul]
theorem dgC_ok {t : Nat} {e : Nat → Nat} {den : Nat} (h : EdOk t e den) : ∀ i, i < t → 0 < dgC t e den i ∧ dgC t e den i ≤ 30 := by
  intro i hi
  have hs := plT_small h
  have h6 := (lcmR_den (plT t e den) 1 (.inl rfl) hs.den).pos
  have hm := (lcmR_mul (plT t e den) 1 (by decide) fun r hr p hp => (hs.den r hr p hp).pos.1).2.2
  have hin : lowP (e i : Int) (den : Int) ∈ plL den (diagL t i (e i)) := by
    unfold plL
    refine List.mem_map.mpr ⟨(e i : Int), ?_, rfl⟩
    unfold diagL
    exact List.mem_map.mpr ⟨i, List.mem_range.mpr hi, if_pos rfl⟩
  have hr : plL den (diagL t i (e i)) ∈ plT t e den := by
    unfold plT
    exact List.mem_map.mpr ⟨i, List.mem_range.mpr hi, rfl⟩
  have hdv := hm _ hr _ hin
  have hp2 := (hs.den _ hr _ hin).pos
  have he := h.e15 i hi
  have h5 := (low_top (e i) (by omega) den (by have := h.d3; omega) h.d1).2
  have h1 := low_pos (e i) (by omega) den (by have := h.d3; omega) h.d1 he.1
  unfold dgC
  obtain ⟨k, hk⟩ := hdv
  generalize lcmR (plT t e den) = U at *
  generalize (lowP (e i : Int) (den : Int)).2 = b at *
  generalize (lowP (e i : Int) (den : Int)).1 = a at *
  have hb : b ≠ 0 := by omega
  rw [hk, Int.mul_ediv_cancel_left k hb]
  have hk0 : 0 < k := by
    by_cases h : 0 < k
    · exact h
    · have := Int.mul_le_mul_of_nonneg_left (show k ≤ 0 by omega) (show (0 : Int) ≤ b by omega)
      omega
  have hk6 : k ≤ 6 := by
    have : k ≤ b * k := by
      have := Int.mul_le_mul_of_nonneg_right (show (1 : Int) ≤ b by omega) (show (0 : Int) ≤ k by omega)
      omega
    omega
  refine ⟨Int.mul_pos (by omega) hk0, ?_⟩
  exact Int.le_trans (Int.mul_le_mul h5 hk6 (by omega) (by decide)) (by decide)
def stD (k : Str × D) : D := .tup [.str k.1, k.2]
def lotFs (fd : D) (ks : List (Str × D)) : List (Str × D) := [("field", fd), ("parts", .tup (ks.map stD)), ("stuffs", .tup (ks.map fun k => .str k.1)), ("base", .str (ks.getD 0 ("", .non)).1)]
theorem lotD_of {K : PySem.W.Frag} {t : Nat} {qs : List Dir} {ks : List (Str × D)} (n1 : 1 ≤ ks.length) (n6 : ks.length ≤ 6) (t1 : 1 ≤ t) (t4 : t ≤ 4) : LotD K t ks.length (.obj (He.ga K "Lot") (lotFs (fieldD K t qs) ks)) := by
  refine ⟨ks.map (·.1), .tup [natD t, .tup (qs.map dirD)], .tup (ks.map stD), .tup (qs.map fun q => .str q.1), .str (qs.getD 0 ("", [])).1, .str (ks.getD 0 ("", .non)).1, ?_, List.length_map .., n1, n6, t1, t4⟩
  unfold lotFs fieldD fieldFs
  rw [List.map_map]
  rfl
theorem sc_stuff_table : FnScope ["thing", "numbers", "line", "table", "fault"] ["thing", "numbers", "line"] (defScope s_stuff_table) := ⟨rfl, rfl, rfl, by decide +kernel, rfl, by decide +kernel, by decide +kernel⟩
def sp_stuff_table : PreD := fun ds C R RX => ∃ (d : D) (rows : List (D × List (D × (Int × Int)))) (t : Nat) (i : Int), ds = [d, natD t, .int i] ∧ TabOk d rows t ∧ rows.length = t ∧ 1 ≤ t ∧ R (.tup (rowDs rows)) C
theorem ok_stuff_table {P : Program} {w : World} {K : PySem.W.Frag} {tt : List (Addr × Str)} {mg : Str → Option Value} {base : Heap} {f : Addr} {fd : FuncData} (F : FnP K "stuff_table" s_stuff_table f fd) (T : Txt K w mg) (h_read_table : HasF P w K tt mg base "read_table" ["thing"] 10 sp_read_table) : FnOk P w K mg base (L2.CX P w) 11 f fd ["thing", "numbers", "line"] (SpD K tt sp_stuff_table) := by
  refine body_ok F sc_stuff_table (fun ds C R RX hp => by (obtain ⟨d, rows, t, i, rfl, hr, hl, h1, q⟩ := hp; rfl)) fun cdv A outer s H E G0 ds C R RX B hp => ?_
  obtain ⟨d, rows, t, i, rfl, hr, hl, h1, q⟩ := hp
  refine wss_cut (M := (fun σ' C' => σ' = [some d, some (natD t), some (.int i), some (.tup (rowDs rows)), none] ∧ C' = C)) (ws_try0 ?_) (fun σ' C' hM => ?_)
  · skip
    refine wss_cons (ws_set 3 ?_ sc_stuff_table.nd)
    refine we_call h_read_table B.nox.room (by decide) B.nox.tk (wa_cons (we_name 0 rfl (wa_nil ?_)))
    refine ⟨_, _, _, rfl, hr, ?_⟩
    refine wss_nil ?_
    exact ⟨rfl, rfl⟩
  obtain ⟨rfl, hC⟩ := hM
  replace hC := hC.symm
  subst hC
  refine wss_cons (ws_if ?_)
  refine WT.mono (Q := fun k C1 => k = false ∧ C = C1) ?_ (fun k C1 hk => ?_)
  · skip
    refine wt_w (ww_or (wt_cmp (we_blt (id := "len") T.len (wa_cons (we_name 3 rfl (wa_nil ?_))))))
    refine ⟨_, .len (.t _), ?_⟩
    refine we_name 1 rfl ?_
    walk_at "cmp"
    refine ⟨fun hsc1 => ?_, fun hsc1 => ?_⟩
    skip
    · try replace hsc1 := of_decide_eq_true hsc1
      exact absurd hsc1 (by unfold rowDs; rw [List.length_map, hl]; simp)
    try replace hsc1 := of_decide_eq_false hsc1
    refine ww_or1 (wt_cmp (we_blt (id := "len") T.len (wa_cons (we_ix (we_name 3 rfl (we_int ?_))))))
    obtain ⟨r0, rest, er⟩ : ∃ r0 rest, rows = r0 :: rest := by
      cases rows with
      | nil => exact absurd hl (by simp; omega)
      | cons r0 rest => exact ⟨r0, rest, rfl⟩
    have hr0 := (hr.row r0 (by rw [er]; exact List.mem_cons_self)).2
    refine ⟨rowD r0.2, .seq (.t _) (by rw [er]; exact atI_zero), ?_⟩
    refine wa_nil ?_
    refine ⟨_, .len (.t _), ?_⟩
    refine we_name 1 rfl ?_
    walk_at "cmp"
    exact ⟨by rw [List.length_map, hr0]; simp, rfl⟩
  obtain ⟨rfl, rfl⟩ := hk
  refine ⟨fun hif1 => ?_, fun hif1 => ?_⟩
  · try replace hif1 := of_decide_eq_true hif1
    cases hif1
  try replace hif1 := of_decide_eq_false hif1
  refine wss_nil ?_
  refine wss_cons (ws_ret (we_name 3 rfl ?_))
  exact q
theorem sc_next_stuff : FnScope ["known", "name", "thing", "field", "line", "one", "table"] ["known", "name", "thing", "field", "line"] (defScope s_next_stuff) := ⟨rfl, rfl, rfl, by decide +kernel, rfl, by decide +kernel, by decide +kernel⟩
def sp_next_stuff (K : PySem.W.Frag) : PreD := fun ds C R RX => ∃ (p : Addr) (ks : List (Str × D)) (x : Str) (d : D) (t : Nat) (qs : List Dir), ds = [.cell p, .str x, d, fieldD K t qs, .int 0] ∧ C p = some (.lst (ks.map stD)) ∧ NmOk x ∧ x ∉ ks.map (·.1) ∧ ks.length ≤ 5 ∧ FirmIn t d ∧ ∀ d2, R (stD (x, d2)) C
theorem ok_next_stuff {P : Program} {w : World} {K : PySem.W.Frag} {tt : List (Addr × Str)} {mg : Str → Option Value} {base : Heap} {f : Addr} {fd : FuncData} (F : FnP K "next_stuff" s_next_stuff f fd) (T : Txt K w mg) (h_stuff_table : HasF P w K tt mg base "stuff_table" ["thing", "numbers", "line"] 11 sp_stuff_table) (h_check_next : HasF P w K tt mg base "check_next" ["what", "many"] 4 sp_check_next) (h_is_name : HasF P w K tt mg base "is_name" ["thing"] 1 sp_is_name) (h_mat_firm : HasF P w K tt mg base "mat_firm" ["a"] 3 sp_mat_firm) : FnOk P w K mg base (L2.CX P w) 12 f fd ["known", "name", "thing", "field", "line"] (SpD K tt (sp_next_stuff K)) := by
  refine body_ok F sc_next_stuff (fun ds C R RX hp => by (obtain ⟨p, ks, x, d, t, qs, rfl, hp, hx, hnx, hl, ⟨rows, e, den, he, hr, hpl⟩, q⟩ := hp; rfl)) fun cdv A outer s H E G0 ds C R RX B hp => ?_
  obtain ⟨p, ks, x, d, t, qs, rfl, hp, hx, hnx, hl, ⟨rows, e, den, he, hr, hpl⟩, q⟩ := hp
  have hrl : rows.length = t := by
    have := congrArg List.length hpl
    unfold plain plT at this
    rwa [List.length_map, List.length_map, List.length_range] at this
  refine wss_cons (ws_if (wt_not (wt_tru (we_call h_is_name B.room (by decide) B.tk (wa_cons (we_name 1 rfl (wa_nil ?_)))))))
  refine ⟨_, rfl, hx, ?_⟩
  refine ⟨_, .bl _, ?_⟩
  refine ⟨fun hif1 => ?_, fun hif1 => ?_⟩
  · try replace hif1 := of_decide_eq_true hif1
    cases hif1
  try replace hif1 := of_decide_eq_false hif1
  refine wss_nil ?_
  refine wss_cons (ws_if (wt_cmp (we_name 1 rfl (we_lcC [("one", 5), ("table", 6)] [5, 6] (fun _ _ _ _ _ => tgt_tup2 (by decide) (by decide) sc_next_stuff.nd) sc_next_stuff.nd (blkOk_by (by kernel_rfl)) (wic (we_name 0 rfl ?_))))))
  refine ⟨_, _, rfl, hp, ?_⟩
  refine lcC_map (ks) (stD) (fun k => .str k.1) (rfl) (sz (by omega)) (fun x hx => .tup2 _ _ _ _ _) (fun k hx s H cl Cc fp G C' hC => ?_) ?_
  · skip
    refine we_name 5 rfl ?_
    exact ⟨rfl, rfl⟩
  rw [show (ks.map fun k => D.str k.1) = (ks.map (·.1)).map D.str by rw [List.map_map]; rfl]
  refine ⟨_, .inSeq (.l (.v _)) rfl flat_strs, ?_⟩
  rw [in_strs, decide_eq_false hnx]
  refine ⟨fun hif2 => ?_, fun hif2 => ?_⟩
  · try replace hif2 := of_decide_eq_true hif2
    cases hif2
  try replace hif2 := of_decide_eq_false hif2
  refine wss_nil ?_
  refine wss_cons (ws_set 6 ?_ sc_next_stuff.nd)
  refine we_call h_stuff_table B.room (by decide) B.tk (wa_cons (we_name 2 rfl (wa_cons (we_fld (we_name 3 rfl ?_)))))
  walk_at "attr"
  refine wa_cons (we_name 4 rfl (wa_nil ?_))
  refine ⟨_, _, _, _, rfl, hr, hrl, he.t1, ?_⟩
  refine wss_cons (ws_if (wt_not (wt_tru (we_call h_mat_firm B.room (by decide) B.tk (wa_cons (we_name 6 rfl (wa_nil ?_)))))))
  refine ⟨plT t e den, t, dgC t e den, by rw [rowDs_plain, hpl], plT_small he, he.t4, plT_whole he, dgC_ok he, ?_⟩
  refine ⟨_, .bl _, ?_⟩
  refine ⟨fun hif3 => ?_, fun hif3 => ?_⟩
  · try replace hif3 := of_decide_eq_true hif3
    cases hif3
  try replace hif3 := of_decide_eq_false hif3
  refine wss_nil ?_
  refine wss_cons (ws_expr (we_call h_check_next B.room (by decide) B.tk (wa_cons (we_str (wa_cons (we_bin (we_blt (id := "len") T.len (wa_cons (we_name 0 rfl (wa_nil ?_))))))))))
  refine ⟨_, .len (.l (.c hp)), ?_⟩
  refine we_int ?_
  walk_at "op"
  refine wa_nil ?_
  refine ⟨_, _, 6, rfl, rfl, by rw [List.length_map]; omega, ?_⟩
  refine wss_cons (ws_ret (we_tup (wa_cons (we_name 1 rfl (wa_cons (we_name 6 rfl (wa_nil ?_)))))))
  refine ⟨by walk_at "tsz", ?_⟩
  exact q _
theorem sc_Lot_init : FnScope ["self", "field", "text", "made", "name", "table"] ["self", "field", "text", "made"] (defScope s_Lot_init) := ⟨rfl, rfl, rfl, by decide +kernel, rfl, by decide +kernel, by decide +kernel⟩
def sp_Lot_init (K : PySem.W.Frag) : PreD := fun ds C R RX => ∃ (p : Addr) (fd x : D) (ks : List (Str × D)), ds = [.cell p, fd, x, .tup (ks.map stD)] ∧ C p = some (.ins (He.ga K "Lot") []) ∧ 1 ≤ ks.length ∧ ks.length ≤ 6 ∧ R .non (setC C p (.ins (He.ga K "Lot") (lotFs fd ks)))
theorem ok_Lot_init {P : Program} {w : World} {K : PySem.W.Frag} {tt : List (Addr × Str)} {mg : Str → Option Value} {base : Heap} {f : Addr} {fd : FuncData} (F : FunD K "__init__" "Lot.__init__" (defArgs s_Lot_init) (defBody s_Lot_init) (defScope s_Lot_init) [] [("made", .non)] f fd) (T : Txt K w mg) : FnOk P w K mg base (L2.CX P w) 4 f fd ["self", "field", "text", "made"] (SpD K tt (sp_Lot_init K)) := by
  refine body_ok F sc_Lot_init (fun ds C R RX hp => by (obtain ⟨p, fd, x, ks, rfl, hp, h1, h6, q⟩ := hp; rfl)) fun cdv A outer s H E G0 ds C R RX B hp => ?_
  obtain ⟨p, fd, x, ks, rfl, hp, h1, h6, q⟩ := hp
  refine wss_cons (ws_setf (we_name 1 rfl (we_name 0 rfl ?_)))
  walk_at "setf"
  refine wss_cons (ws_setf (we_if (wt_cmp (we_name 3 rfl (we_non ?_)))))
  walk_at "cmp"
  refine ⟨fun hife1 => ?_, fun hife1 => ?_⟩
  · try replace hife1 := of_decide_eq_true hife1
    cases hife1
  try replace hife1 := of_decide_eq_false hife1
  refine we_name 3 rfl (we_name 0 rfl ?_)
  walk_at "setf"
  refine wss_cons (ws_setf (we_ty (T := "tuple") T.tuple (wa_cons (we_lc [("name", 4), ("table", 5)] [4, 5] (fun _ _ _ _ _ => tgt_tup2 (by decide) (by decide) sc_Lot_init.nd) sc_Lot_init.nd (blkOk_by (by kernel_rfl)) (wi_seq (we_fld (we_name 0 rfl ?_)))))))
  walk_at "attr"
  refine ⟨_, .tup _, ?_⟩
  refine lc_map (ks) (stD) (fun k => .str k.1) (rfl) (sz (by omega)) (fun x hx => .tup2 _ _ _ _ _) (fun k hx s H cl Cc fp G C' hC => ?_) ?_
  · skip
    refine we_name 4 rfl ?_
    exact ⟨rfl, rfl⟩
  refine wa_nil ?_
  walk_at "blt"
  refine we_name 0 rfl ?_
  walk_at "setf"
  refine wss_cons (ws_setf (we_ix (we_fld (we_name 0 rfl ?_))))
  walk_at "attr"
  refine we_int ?_
  refine ⟨.str (ks.getD 0 ("", .non)).1, .seq (.t _) (by rw [atI_map (("", .non) : Str × D) (by omega) (by omega)]; rfl), ?_⟩
  refine we_name 0 rfl ?_
  walk_at "setf"
  refine wss_nil ?_
  exact q
theorem sc_made_lot : FnScope ["field", "stuffs", "name", "table"] ["field", "stuffs"] (defScope s_made_lot) := ⟨rfl, rfl, rfl, by decide +kernel, rfl, by decide +kernel, by decide +kernel⟩
def sp_made_lot (K : PySem.W.Frag) : PreD := fun ds C R RX => ∃ (fd : D) (ks : List (Str × D)), ds = [fd, .lst (ks.map stD)] ∧ 1 ≤ ks.length ∧ ks.length ≤ 6 ∧ R (.obj (He.ga K "Lot") (lotFs fd ks)) C
theorem ok_made_lot {P : Program} {w : World} {K : PySem.W.Frag} {tt : List (Addr × Str)} {mg : Str → Option Value} {base : Heap} {f : Addr} {fd : FuncData} (F : FnP K "made_lot" s_made_lot f fd) (T : Txt K w mg) (k_Lot : HasC P w K tt mg base "Lot" (He.ga K "Lot") 2 ["made"] (fun a b => a ++ b) 4 (sp_Lot_init K)) : FnOk P w K mg base (L2.CX P w) 6 f fd ["field", "stuffs"] (SpD K tt (sp_made_lot K)) := by
  refine body_ok F sc_made_lot (fun ds C R RX hp => by (obtain ⟨fd, ks, rfl, h1, h6, q⟩ := hp; rfl)) fun cdv A outer s H E G0 ds C R RX B hp => ?_
  obtain ⟨fd, ks, rfl, h1, h6, q⟩ := hp
  refine wss_cons (ws_ret (we_makeK k_Lot B.room (by decide) (wa_cons (we_name 0 rfl (wa_cons (we_str (wa_nil ?_)))))))
  show DW.WE _ _ _ _ _
  refine we_ty (T := "tuple") T.tuple (wa_cons (we_lc [("name", 2), ("table", 3)] [2, 3] (fun _ _ _ _ _ => tgt_tup2 (by decide) (by decide) sc_made_lot.nd) sc_made_lot.nd (blkOk_by (by kernel_rfl)) (wi_seq (we_name 1 rfl ?_))))
  refine ⟨_, .lst _, ?_⟩
  refine lc_map (ks) (stD) (stD) (rfl) (sz (by omega)) (fun x hx => .tup2 _ _ _ _ _) (fun k hx s H cl Cc fp G C' hC => ?_) ?_
  · skip
    refine we_tup (wa_cons (we_name 2 rfl (wa_cons (we_name 3 rfl (wa_nil ?_)))))
    refine ⟨by walk_at "tsz", ?_⟩
    exact ⟨rfl, rfl⟩
  refine wa_nil ?_
  walk_at "blt"
  refine ⟨rfl, rfl, fun p hp => ⟨p, fd, _, ks, rfl, setC_same, h1, h6, rfl, _, setC_same, ?_⟩⟩
  rw [setC_setC, delC_setC hp]
  exact q
theorem sc_lot_of : FnScope ["field", "stuffs", "known", "item"] ["field", "stuffs"] (defScope s_lot_of) := ⟨rfl, rfl, rfl, by decide +kernel, rfl, by decide +kernel, by decide +kernel⟩
def sp_lot_of (K : PySem.W.Frag) : PreD := fun ds C R RX => ∃ (t : Nat) (qs : List Dir) (gs : List (Str × D)), ds = [fieldD K t qs, .lst (gs.map stD)] ∧ 1 ≤ gs.length ∧ gs.length ≤ 6 ∧ 1 ≤ t ∧ t ≤ 4 ∧ (gs.map (·.1)).Nodup ∧ (∀ g ∈ gs, NmOk g.1) ∧ (∀ g ∈ gs, FirmIn t g.2) ∧ ∀ lot, LotD K t gs.length lot → R lot C
theorem ok_lot_of {P : Program} {w : World} {K : PySem.W.Frag} {tt : List (Addr × Str)} {mg : Str → Option Value} {base : Heap} {f : Addr} {fd : FuncData} (F : FnP K "lot_of" s_lot_of f fd) (T : Txt K w mg) (h_made_lot : HasF P w K tt mg base "made_lot" ["field", "stuffs"] 6 (sp_made_lot K)) (h_is_list : HasF P w K tt mg base "is_list" ["thing"] 1 sp_is_list) (h_next_stuff : HasF P w K tt mg base "next_stuff" ["known", "name", "thing", "field", "line"] 12 (sp_next_stuff K)) : FnOk P w K mg base (L2.CX P w) 13 f fd ["field", "stuffs"] (SpD K tt (sp_lot_of K)) := by
  refine body_ok F sc_lot_of (fun ds C R RX hp => by (obtain ⟨t, qs, gs, rfl, n1, n6, t1, t4, nd, nm, hf, q⟩ := hp; rfl)) fun cdv A outer s H E G0 ds C R RX B hp => ?_
  obtain ⟨t, qs, gs, rfl, n1, n6, t1, t4, nd, nm, hf, q⟩ := hp
  refine wss_cons (ws_if ?_)
  refine WT.mono (Q := fun k C1 => k = false ∧ C = C1) ?_ (fun k C1 hk => ?_)
  · skip
    refine wt_w (ww_or (wt_not (wt_tru (we_call h_is_list B.room (by decide) B.tk (wa_cons (we_name 1 rfl (wa_nil ?_)))))))
    refine ⟨_, _, rfl, rfl, ?_⟩
    refine ⟨_, .bl _, ?_⟩
    refine ⟨fun hsc1 => ?_, fun hsc1 => ?_⟩
    skip
    · try replace hsc1 := of_decide_eq_true hsc1
      cases hsc1
    try replace hsc1 := of_decide_eq_false hsc1
    refine ww_or1 (wt_cmp (we_blt (id := "len") T.len (wa_cons (we_name 1 rfl (wa_nil ?_)))))
    refine ⟨_, .len (.l (.v _)), ?_⟩
    refine we_int ?_
    walk_at "cmp"
    exact ⟨decide_eq_false (by rw [List.length_map]; omega), rfl⟩
  obtain ⟨rfl, rfl⟩ := hk
  refine ⟨fun hif1 => ?_, fun hif1 => ?_⟩
  · try replace hif1 := of_decide_eq_true hif1
    cases hif1
  try replace hif1 := of_decide_eq_false hif1
  refine wss_nil ?_
  refine wss_cons (ws_set 2 ?_ sc_lot_of.nd)
  refine we_nilC ?_
  intro p hp
  refine wss_cons (ws_forL ?_ B.po)
  refine wi_seq (we_name 1 rfl ?_)
  refine ⟨_, .lst _, ?_⟩
  refine ⟨_, gs, stD, fun pre σ' C' => ∃ (o : Option D) (ks : List (Str × D)), σ' = [some (fieldD K t qs), some (.lst (gs.map stD)), some (.cell p), o] ∧ C' = setC C p (.lst (ks.map stD)) ∧ ks.map (·.1) = pre.map (·.1), rfl, ?_, fun G1 hG1 pre1 it1 post1 σ' C' hx1 hI => ?_, fun σ' C' hI => ?_⟩
  · exact ⟨_, [], rfl, rfl, rfl⟩
  · obtain ⟨o, ks, rfl, rfl, hks⟩ := hI
    have hm : it1 ∈ gs := by rw [hx1]; simp
    have hpl : pre1.length < gs.length := by rw [hx1, List.length_append, List.length_cons]; omega
    have hkl : ks.length = pre1.length := by
      have := congrArg List.length hks
      rwa [List.length_map, List.length_map] at this
    refine wg_name 3 ?_ sc_lot_of.nd
    refine wss_cons (ws_if ?_)
    refine WT.mono (Q := fun k C1 => k = false ∧ setC C p (.lst (ks.map stD)) = C1) ?_ (fun k C1 hk => ?_)
    · skip
      refine wt_w (ww_or (wt_not (wt_tru (we_isiV .tup T.isinstance T.tuple (we_name 3 rfl ?_)))))
      refine ⟨_, rfl, ?_⟩
      refine ⟨_, .bl _, ?_⟩
      refine ⟨fun hsc2 => ?_, fun hsc2 => ?_⟩
      skip
      · try replace hsc2 := of_decide_eq_true hsc2
        cases hsc2
      try replace hsc2 := of_decide_eq_false hsc2
      refine ww_or1 (wt_cmp (we_blt (id := "len") T.len (wa_cons (we_name 3 rfl (wa_nil ?_)))))
      refine ⟨_, .len (.t _), ?_⟩
      refine we_int ?_
      walk_at "cmp"
      exact ⟨rfl, rfl⟩
    obtain ⟨rfl, rfl⟩ := hk
    refine ⟨fun hif2 => ?_, fun hif2 => ?_⟩
    · try replace hif2 := of_decide_eq_true hif2
      cases hif2
    try replace hif2 := of_decide_eq_false hif2
    refine wss_nil ?_
    refine wss_cons (ws_expr (we_append (we_name 2 rfl ?_)))
    refine ⟨_, rfl, ⟨_, by first | assumption | exact setC_same⟩, ?_⟩
    refine we_call h_next_stuff (B.base hG1).room (by decide) (B.base hG1).tk (wa_cons (we_name 2 rfl (wa_cons (we_ix (we_name 3 rfl (we_int ?_))))))
    refine ⟨_, .seq (.t _) rfl, ?_⟩
    refine wa_cons (we_ix (we_name 3 rfl (we_int ?_)))
    refine ⟨_, .seq (.t _) rfl, ?_⟩
    refine wa_cons (we_name 0 rfl (wa_cons (we_int (wa_nil ?_))))
    refine ⟨p, ks, it1.1, it1.2, t, qs, rfl, setC_same, nm it1 hm, ?_, by omega, hf it1 hm, fun d2 => ?_⟩
    · rw [hks]
      exact notmem_of_split nd hx1
    refine ⟨_, setC_same, szlt (by rw [List.length_map]; omega), ?_⟩
    refine wss_nil ?_
    refine ⟨_, ks ++ [(it1.1, d2)], rfl, ?_, ?_⟩
    · rw [setC_setC, List.map_append]
      rfl
    · rw [List.map_append, List.map_append, hks]
      rfl
  obtain ⟨o, ks, rfl, rfl, hks⟩ := hI
  have hkl : ks.length = gs.length := by
    have := congrArg List.length hks
    rwa [List.length_map, List.length_map] at this
  refine wss_cons (ws_ret (we_call h_made_lot B.room (by decide) B.tk (wa_cons (we_name 0 rfl (wa_cons (we_freeze (we_name 2 rfl ?_)))))))
  refine ⟨p, _, rfl, setC_same, ?_⟩
  rw [delC_setC hp]
  refine wa_nil ?_
  exact ⟨_, ks, rfl, by omega, by omega, q _ (by rw [← hkl]; exact lotD_of (by omega) (by omega) t1 t4)⟩
end K60
set_option Elab.async false
set_option linter.all false
set_option maxRecDepth 100000
set_option maxHeartbeats 4000000
namespace K60
open PySem PySem.Spec PyProof.Rows L2 Evl DW
local macro_rules | `(tactic| walk_at "seq") => `(tactic| first | exact .l (.v _) | exact .t _ | exact .r _ | exact .l (.c setC_same) | exact .l (.c (by assumption)))
local macro_rules | `(tactic| walk_at "lin") => `(tactic| first | exact .v _ | exact .c setC_same | exact .c (by assumption))
local macro_rules | `(tactic| walk_at "size") => `(tactic| first | (refine sz ?_; first | omega | (simp only [List.length_map, List.length_range, List.length_append, List.length_cons, List.length_nil, List.length_replicate] at *; omega)) | decide)
local macro_rules | `(tactic| walk_at "mulok") => `(tactic| first | exact mulR (by decide) (by decide) | exact mulL (by decide) (by decide) | assumption | exact mulL (by omega) (by omega) | exact mulR (by omega) (by omega))
local macro_rules | `(tactic| walk_at "op") => `(tactic| first
  | refine ⟨_, .add _ _, ?_⟩
  | refine ⟨_, .sub _ _, ?_⟩
  | refine ⟨_, .mul _ _ (by walk_at "mulok"), ?_⟩
  | refine ⟨_, .mod _ _ (by first | decide | omega | assumption), ?_⟩
  | refine ⟨_, .div _ _ (by first | decide | omega | assumption) (by first | decide | assumption), ?_⟩
  | refine ⟨_, .pow _ _ ⟨by decide, by decide, by decide⟩, ?_⟩
  | refine ⟨_, .adds _ _ (by walk_at "size"), ?_⟩
  | refine ⟨_, .catT _ _ (by walk_at "size"), ?_⟩
  | refine ⟨_, .cat (by walk_at "lin") (by walk_at "lin") (by walk_at "size"), ?_⟩
  | refine ⟨_, .rep _ (by walk_at "lin") (by first | decide | omega) (by first | decide | omega) (by walk_at "size"), ?_⟩)
local macro_rules | `(tactic| walk_at "cmp") => `(tactic| first
  | refine ⟨_, .lt _ _, ?_⟩ | refine ⟨_, .le _ _, ?_⟩ | refine ⟨_, .gt _ _, ?_⟩ | refine ⟨_, .ge _ _, ?_⟩
  | refine ⟨_, .eqI _ _, ?_⟩ | refine ⟨_, .neI _ _, ?_⟩ | refine ⟨_, .eqS _ _, ?_⟩ | refine ⟨_, .neS _ _, ?_⟩ | refine ⟨_, .eqB _ _, ?_⟩ | refine ⟨_, .neB _ _, ?_⟩
  | refine ⟨_, .isN, ?_⟩ | refine ⟨_, .ntN, ?_⟩ | refine ⟨_, .isC, ?_⟩ | refine ⟨_, .ntC, ?_⟩ | refine ⟨_, .isNo trivial, ?_⟩ | refine ⟨_, .ntNo trivial, ?_⟩)
local macro_rules | `(tactic| walk_at "ix") => `(tactic| first | refine ⟨_, .seq (by walk_at "seq") rfl, ?_⟩)
local macro_rules | `(tactic| walk_at "slc") => `(tactic| first | refine ⟨_, .lst _ _ (by walk_at "lin"), ?_⟩ | refine ⟨_, .tup _ _ _, ?_⟩ | refine ⟨_, .rol _ _ _, ?_⟩ | refine ⟨_, .str _ _ _ (by walk_at "size"), ?_⟩)
local macro_rules | `(tactic| walk_at "blt") => `(tactic| first
  | refine ⟨_, .len (by walk_at "seq"), ?_⟩ | refine ⟨_, .lenS _ (by walk_at "size"), ?_⟩ | refine ⟨_, .abs _, ?_⟩ | refine ⟨_, .max2 _ _ rfl, ?_⟩ | refine ⟨_, .min2 _ _ rfl, ?_⟩
  | refine ⟨_, .int _, ?_⟩ | refine ⟨_, .intB _, ?_⟩ | refine ⟨_, .bool _, ?_⟩ | refine ⟨_, .boolI _, ?_⟩
  | refine ⟨_, .sum _ (by walk_at "lin") rfl, ?_⟩ | refine ⟨_, .all _ (by walk_at "lin") rfl, ?_⟩ | refine ⟨_, .any _ (by walk_at "lin") rfl, ?_⟩
  | refine ⟨_, .list (by walk_at "seq"), ?_⟩ | refine ⟨_, .tuple (by walk_at "lin"), ?_⟩ | refine ⟨_, .tupleT _, ?_⟩)
local macro_rules | `(tactic| walk_at "sub") => `(tactic| (refine ⟨_, _, _, _, rfl, rfl, (by first | exact setC_same | assumption), rfl, ?_⟩; try rw [setC_setC]))
local macro_rules | `(tactic| walk_at "fun") => `(tactic| first | refine ⟨_, .gcd _ _, ?_⟩ | refine ⟨_, .lcm _ _ (by assumption) (by assumption), ?_⟩ | refine ⟨_, .lcm _ _ (by omega) (by omega), ?_⟩ | refine ⟨_, .comb _ _ (by omega) (by omega) (by omega) (by omega), ?_⟩)
local macro_rules | `(tactic| walk_at "sizelt") => `(tactic| first | (refine szlt ?_; first | omega | (simp only [List.length_map, List.length_range, List.length_append, List.length_cons, List.length_nil, List.length_replicate] at *; omega)) | decide)
local macro_rules | `(tactic| walk_at "meth") => `(tactic| first | refine ⟨_, .startswith _ _, ?_⟩ | refine ⟨_, .strip _ _ (by walk_at "size"), ?_⟩ | refine ⟨_, .partition _ _ rfl (by walk_at "size"), ?_⟩ | refine ⟨_, .split _ _ rfl (by walk_at "size"), ?_⟩)
local macro_rules | `(tactic| walk_at "tsz") => `(tactic| first | decide | exact sz (by simp))
local macro_rules | `(tactic| walk_at "jsz") => `(tactic| first | decide | walk_at "size" | (refine sz ?_; simp; omega))
local macro_rules | `(tactic| walk_at "log") => `(tactic| first | assumption | omega)
def boxL (cs : List Int) (i : Nat) (b2 b3 b4 : Int) : List D := [.lst (cs.map D.int), natD i, .int b2, .int b3, .int b4]
def BxOk (c : Ct) : Prop := ∃ cs i b2 b3 b4, c = .lst (boxL cs i b2 b3 b4)
abbrev BxC := Bx BxOk
theorem setC_id {C : Cells} {a : Addr} {c : Ct} (h : C a = some c) : setC C a c = C := by
  funext b
  by_cases hb : b = a
  · rw [hb, setC_same, h]
  · rw [setC_ne hb]
theorem emod_nat (x : Int) {n : Nat} (h : 0 < n) : ∃ r : Nat, x % (n : Int) = (r : Int) ∧ r < n := by
  have h1 := Int.emod_nonneg x (show (n : Int) ≠ 0 by omega)
  have h2 := Int.emod_lt_of_pos x (show (0 : Int) < (n : Int) by omega)
  exact ⟨(x % (n : Int)).toNat, by omega, by omega⟩
theorem log_nat {n : Nat} (h : n ≤ 1000000000) : (n : Int).natAbs.log2 < 9000 := log_ok (by omega)
theorem ex_max : ∀ (xs : List Int), xs ≠ [] → ∃ m ∈ xs, ∀ y ∈ xs, y ≤ m
  | [], h => absurd rfl h
  | [x], _ => ⟨x, List.mem_singleton_self x, fun y hy => by rw [List.mem_singleton.mp hy]; exact Int.le_refl x⟩
  | x :: z :: r, _ => by
    obtain ⟨m, hm, h⟩ := ex_max (z :: r) (by simp)
    by_cases hx : x ≤ m
    · exact ⟨m, List.mem_cons_of_mem _ hm, fun y hy => by
        rcases List.mem_cons.mp hy with rfl | hy
        · exact hx
        · exact h y hy⟩
    · exact ⟨x, List.mem_cons_self, fun y hy => by
        rcases List.mem_cons.mp hy with rfl | hy
        · exact Int.le_refl _
        · have := h y hy
          omega⟩
def ntx (x d : Nat) : Str := if (lowP (x : Int) (d : Int)).2 = 1 then toString (lowP (x : Int) (d : Int)).1 else Str.empty ++ toString (lowP (x : Int) (d : Int)).1 ++ "/" ++ toString (lowP (x : Int) (d : Int)).2
theorem ntx_len : ∀ x : Nat, x < 6 → ∀ d : Nat, d < 4 → 1 ≤ d → (Str.ofString (toString (lowP (x : Int) (d : Int)).1)).length = 1 ∧ (Str.ofString (toString (lowP (x : Int) (d : Int)).2)).length = 1 := by decide +kernel
def lmF (n : Nat) : Nat → Int
  | 0 => 1
  | k + 1 => lmF n k * ((n : Int) + (k : Int) + 1) / ((k : Int) + 1)
def WoD (t s : Nat) (d : D) : Prop := ∃ (dd nn : D) (ss : List D), d = .dic [("t", natD t), ("dirs", dd), ("names", nn), ("stuffs", .lst ss)] ∧ ss.length = s ∧ 1 ≤ t ∧ t ≤ 4 ∧ 1 ≤ s ∧ s ≤ 6
def unkF (t s : Nat) : List Nat := (List.range (t * t + s)).filter fun k => !decide (k = t * t)
def kyT (key : List Nat) (at_ : Nat) : Bool := key.isEmpty || decide (key.getLastD 0 ≤ at_)
def kyL (t s : Nat) : Nat → List (List Nat)
  | 0 => [[]]
  | k + 1 => (kyL t s k).flatMap fun key => ((unkF t s).filter (kyT key)).map fun a => key ++ [a]
def keysF (t s d : Nat) : List (List Nat) := ((List.range (d + 1)).map (kyL t s)).reverse.flatten
def pwrF (n : Nat) (key : List Nat) : List Nat := key.foldl (fun ps a => ps.set a (ps.getD a 0 + 1)) (List.replicate n 0)
def kyB (t s d : Nat) : Bool := (List.range (d + 1)).all (fun k => decide ((kyL t s k).length ≤ 1000) && (kyL t s k).all fun key => decide (key.length ≤ 10) && key.all fun a => decide (a < t * t + s)) && decide ((keysF t s d).length ≤ 1000)
set_option synthInstance.maxSize 4000 in
set_option synthInstance.maxHeartbeats 0 in
theorem ky_all : ∀ t : Nat, t < 5 → ∀ s : Nat, s < 7 → ∀ d : Nat, d < 5 → 1 ≤ t → 1 ≤ s → cmb (t * t + s - 1) d ≤ 150 → kyB t s d = true := by decide +kernel
set_option synthInstance.maxSize 4000 in
set_option synthInstance.maxHeartbeats 0 in
theorem law_eq : ∀ t : Nat, t < 5 → ∀ s : Nat, s < 7 → ∀ d : Nat, d < 5 → 1 ≤ t → 1 ≤ s → cmb (t * t + s - 1) d ≤ 150 → (orF (t * t + s - 1) d).map (fmF t) = (keysF t s d).map (pwrF (t * t + s)) ∧ ((orF (t * t + s - 1) d).length : Int) = cmb (t * t + s - 1) d := by decide +kernel
theorem lm_eq : ∀ n : Nat, n < 22 → ∀ d : Nat, d < 5 → lmF n d = cmb n d := by decide +kernel
theorem unk_len {t s : Nat} (h : 1 ≤ s) : (unkF t s).length = t * t + s - 1 := by
  unfold unkF
  have e : (fun k : Nat => !decide (k = t * t)) = fun k => !(k == t * t) := by
    funext k
    by_cases h : k = t * t <;> simp [h]
  rw [e]
  have : (t * t + s) = t * t + (1 + (s - 1)) := by omega
  rw [this, List.range_add, List.range_add, List.map_append, List.filter_append, List.filter_append, List.length_append, List.length_append]
  have h1 : ((List.range (t * t)).filter fun k => !(k == t * t)).length = t * t := by
    rw [List.filter_eq_self.mpr fun k hk => ?_, List.length_range]
    have := List.mem_range.mp hk
    simp
    omega
  have h3 : (((List.map (fun x => 1 + x) (List.range (s - 1))).map (fun x => t * t + x)).filter fun k => !(k == t * t)).length = s - 1 := by
    rw [List.filter_eq_self.mpr fun k hk => ?_]
    · rw [List.length_map, List.length_map, List.length_range]
    · obtain ⟨y, hy, rfl⟩ := List.mem_map.mp hk
      obtain ⟨z, hz, rfl⟩ := List.mem_map.mp hy
      simp
  have h2 : ((List.map (fun x => t * t + x) (List.range 1)).filter fun k => !(k == t * t)).length = 0 := by
    show ([t * t + 0].filter _).length = 0
    simp
  rw [h1, h2, h3]
  omega
theorem atI_last {xs : List Nat} (h : xs ≠ []) : atI (xs.map natD) (-1) = some (natD (xs.getLastD 0)) := by
  have hl : 0 < xs.length := List.length_pos_iff.mpr h
  unfold atI ixN
  rw [if_neg (by decide), if_pos (by rw [List.length_map]; omega), List.length_map, Option.bind_some]
  have e : ((-1 : Int) + (xs.length : Int)).toNat = xs.length - 1 := by omega
  rw [e, List.getElem?_map, ← List.getLast?_eq_getElem?, List.getLastD_eq_getLast?]
  cases hx : xs.getLast? with
  | none => exact absurd (List.getLast?_eq_none_iff.mp hx) h
  | some v => rfl
theorem pow_py : ∀ key : List Nat, arePy (key.map natD) = true
  | [] => rfl
  | k :: r => by
    show (true && arePy (r.map natD)) = true
    rw [pow_py r]
    rfl
theorem pow_lay : ∀ key : List Nat, PyData.canLayAll0 (pys (key.map natD)) = true ∧ PyData.depthAll (pys (key.map natD)) = 0
  | [] => ⟨by unfold pys PyData.canLayAll0; rfl, by unfold pys PyData.depthAll; rfl⟩
  | k :: r => by
    obtain ⟨h1, h2⟩ := pow_lay r
    rw [List.map_cons]
    unfold pys PyData.canLayAll0 PyData.depthAll
    rw [h1, h2]
    unfold natD D.py PyData.canLay0 PyData.depth
    exact ⟨rfl, rfl⟩
theorem shD_pow (key : List Nat) : DW.shD (powD key) = true := by
  unfold DW.shD powD
  have h1 : (D.tup (key.map natD)).isPy = true := by
    unfold D.isPy
    exact pow_py key
  have h2 : (D.tup (key.map natD)).py = .tuple (pys (key.map natD)) := by rw [D.py]
  obtain ⟨h3, h4⟩ := pow_lay key
  rw [h1, h2]
  unfold SeqAt.shaped PyData.canLay0 PyData.depth
  rw [h3, h4]
  rfl
theorem eqv_self : ∀ key : List Nat, PyData.eqvAll (pys (key.map natD)) (pys (key.map natD)) = true
  | [] => by unfold pys PyData.eqvAll; rfl
  | k :: r => by
    rw [List.map_cons]
    unfold pys PyData.eqvAll
    rw [eqv_self r]
    unfold natD D.py PyData.eqv
    simp
theorem eqv_pow (key : List Nat) : PyData.eqv (powD key).py (powD key).py = true := by
  have h2 : (powD key).py = .tuple (pys (key.map natD)) := by unfold powD; rw [D.py]
  rw [h2]
  unfold PyData.eqv
  exact eqv_self key
theorem sc__law_open : FnScope ["script", "cell"] ["script"] (defScope s__law_open) := ⟨rfl, rfl, rfl, by decide +kernel, rfl, by decide +kernel, by decide +kernel⟩
def sp__law_open : PreD := fun ds C R RX => ∃ cs : List Int, ds = [.rol (cs.map D.int)] ∧ cs.length ≤ 63 ∧ ∀ a, C a = none → R (.cell a) (setC C a (.lst (boxL cs 0 0 0 0)))
theorem ok__law_open {P : Program} {w : World} {K : PySem.W.Frag} {tt : List (Addr × Str)} {mg : Str → Option Value} {base : Heap} {f : Addr} {fd : FuncData} (F : FnP K "_law_open" s__law_open f fd) (T : Txt K w mg) : FnOk P w K mg base (L2.CX P w) 1 f fd ["script"] (SpD K tt sp__law_open) := by
  refine body_ok F sc__law_open (fun ds C R RX hp => by (obtain ⟨cs, rfl, hl, q⟩ := hp; rfl)) fun cdv A outer s H E G0 ds C R RX B hp => ?_
  obtain ⟨cs, rfl, hl, q⟩ := hp
  refine wss_cons (ws_ret (we_lstC (wa_cons (we_lc [("cell", 1)] [1] (fun _ _ _ _ _ => tgt_one (by decide) sc__law_open.nd) sc__law_open.nd (blkOk_by (by kernel_rfl)) (wi_seq (we_slice (we_name 0 rfl (we_int ?_))))))))
  refine ⟨_, rfl, ?_⟩
  refine ⟨_, .rol _ _ _, ?_⟩
  rw [show (some (63 : Int)) = some ((63 : Nat) : Int) from rfl, tcut_take, List.take_of_length_le (by rw [List.length_map]; exact hl)]
  refine ⟨_, .lst _, ?_⟩
  refine lc_map (cs) (D.int) (D.int) (rfl) (sz (by omega)) (fun x hx => .one _ _ _) (fun c hx s H cl Cc fp G C' hC => ?_) ?_
  · skip
    refine we_ty (T := "int") T.int (wa_cons (we_name 1 rfl (wa_nil ?_)))
    walk_at "blt"
    exact ⟨rfl, rfl⟩
  refine wa_cons (we_int (wa_cons (we_int (wa_cons (we_int (wa_cons (we_int (wa_nil ?_))))))))
  refine ⟨by walk_at "tsz", fun a ha => ?_⟩
  exact q a ha
theorem sc__law_draw : FnScope ["box", "size", "got", "extra", "cell"] ["box", "size"] (defScope s__law_draw) := ⟨rfl, rfl, rfl, by decide +kernel, rfl, by decide +kernel, by decide +kernel⟩
def sp__law_draw : PreD := fun ds C R RX => ∃ (a : Addr) (n : Nat), ds = [.cell a, natD n] ∧ 0 < n ∧ n ≤ 1000000000 ∧ (∃ c, C a = some c ∧ BxOk c) ∧ ∀ (r : Nat) C', r < n → BxC a C C' → R (natD r) C'
theorem ok__law_draw {P : Program} {w : World} {K : PySem.W.Frag} {tt : List (Addr × Str)} {mg : Str → Option Value} {base : Heap} {f : Addr} {fd : FuncData} (F : FnP K "_law_draw" s__law_draw f fd) (T : Txt K w mg) : FnOk P w K mg base (L2.CX P w) 1 f fd ["box", "size"] (SpD K tt sp__law_draw) := by
  refine body_ok F sc__law_draw (fun ds C R RX hp => by (obtain ⟨a, n, rfl, hn, hz, ⟨_, ha, cs, i, b2, b3, b4, rfl⟩, q⟩ := hp; rfl)) fun cdv A outer s H E G0 ds C R RX B hp => ?_
  obtain ⟨a, n, rfl, hn, hz, ⟨_, ha, cs, i, b2, b3, b4, rfl⟩, q⟩ := hp
  have hn0 : (0 : Int) < (n : Int) := by omega
  have hlg := log_nat hz
  have bx0 : BxC a C C := Bx.refl ha ⟨_, _, _, _, _, rfl⟩
  refine wss_cons (ws_if ?_)
  refine WT.mono (Q := fun k C1 => k = (decide (0 < b3) && decide (0 < b2)) ∧ C = C1) ?_ (fun k C1 hk => ?_)
  · skip
    refine wt_w (ww_and (wt_cmp (we_ix (we_name 0 rfl (we_int ?_)))))
    walk_at "ix"
    refine we_int ?_
    walk_at "cmp"
    refine ⟨fun hsc1 => ?_, fun hsc1 => ?_⟩
    rotate_left
    · try replace hsc1 := of_decide_eq_false hsc1
      exact ⟨by simp [*], rfl⟩
    try replace hsc1 := of_decide_eq_true hsc1
    refine ww_and1 (wt_cmp (we_ix (we_name 0 rfl (we_int ?_))))
    walk_at "ix"
    refine we_int ?_
    walk_at "cmp"
    exact ⟨by simp [*], rfl⟩
  obtain ⟨rfl, rfl⟩ := hk
  refine ⟨fun hif1 => ?_, fun hif1 => ?_⟩
  · try replace hif1 := of_decide_eq_true hif1
    refine wss_cons (ws_set 2 ?_ sc__law_draw.nd)
    refine we_bin (we_ty (T := "int") T.int (wa_cons (we_ix (we_name 0 rfl (we_int ?_)))))
    walk_at "ix"
    refine wa_nil ?_
    walk_at "blt"
    refine we_name 1 rfl ?_
    refine ⟨_, .mod _ _ hn0, ?_⟩
    refine wss_cons (ws_asg (we_bin (we_ix (we_name 0 rfl (we_int ?_)))))
    walk_at "ix"
    refine we_name 1 rfl ?_
    refine ⟨_, .div _ _ hn0 hlg, ?_⟩
    refine wg_sub (we_name 0 rfl (we_int ?_))
    walk_at "sub"
    refine wss_cons (ws_asg (we_bin (we_ix (we_name 0 rfl (we_int ?_)))))
    walk_at "ix"
    refine we_int ?_
    walk_at "op"
    refine wg_sub (we_name 0 rfl (we_int ?_))
    walk_at "sub"
    refine wss_cons (ws_ret (we_name 2 rfl ?_))
    obtain ⟨r, er, hr⟩ := emod_nat b2 hn
    rw [er]
    exact q r _ hr (bx0.put ⟨cs, i, _, _, _, rfl⟩)
  try replace hif1 := of_decide_eq_false hif1
  refine wss_nil ?_
  refine wss_cons (ws_set 3 ?_ sc__law_draw.nd)
  refine we_int ?_
  refine wss_cut (M := (fun σ' C' => ∃ (o1 o3 : Option D) (ex : Int) (i' : Nat), σ' = [some (.cell a), some (natD n), o1, some (.int ex), o3] ∧ C' = setC C a (.lst (boxL cs i' b2 b3 b4)))) ?_ (fun σ' C' hM => ?_)
  · skip
    refine ws_if (wt_cmp (we_ix (we_name 0 rfl (we_int ?_))))
    walk_at "ix"
    refine we_blt (id := "len") T.len (wa_cons (we_ix (we_name 0 rfl (we_int ?_))))
    walk_at "ix"
    refine wa_nil ?_
    walk_at "blt"
    walk_at "cmp"
    refine ⟨fun hif2 => ?_, fun hif2 => ?_⟩
    · try replace hif2 := of_decide_eq_true hif2
      refine wss_cons (ws_set 4 ?_ sc__law_draw.nd)
      refine we_ix (we_ix (we_name 0 rfl (we_int ?_)))
      walk_at "ix"
      refine we_ix (we_name 0 rfl (we_int ?_))
      walk_at "ix"
      have hi : i < cs.length := by
        have := hif2
        rw [List.length_map] at this
        omega
      refine ⟨_, .seq (.l (.v _)) (atI_int hi), ?_⟩
      refine wss_cons (ws_asg (we_bin (we_ix (we_name 0 rfl (we_int ?_)))))
      walk_at "ix"
      refine we_int ?_
      walk_at "op"
      refine wg_sub (we_name 0 rfl (we_int ?_))
      walk_at "sub"
      refine wss_cons (ws_if (wt_cmp (we_name 4 rfl (we_bin (we_int (we_int ?_))))))
      walk_at "op"
      walk_at "cmp"
      refine ⟨fun hif3 => ?_, fun hif3 => ?_⟩
      · try replace hif3 := of_decide_eq_true hif3
        refine wss_cons (ws_asg (we_bin (we_name 4 rfl (we_name 1 rfl ?_))))
        refine ⟨_, .div _ _ hn0 hlg, ?_⟩
        refine wg_sub (we_name 0 rfl (we_int ?_))
        walk_at "sub"
        refine wss_cons (ws_asg (we_int ?_))
        refine wg_sub (we_name 0 rfl (we_int ?_))
        walk_at "sub"
        refine wss_cons (ws_ret (we_bin (we_ty (T := "int") T.int (wa_cons (we_name 4 rfl (wa_nil ?_))))))
        walk_at "blt"
        refine we_name 1 rfl ?_
        refine ⟨_, .mod _ _ hn0, ?_⟩
        obtain ⟨r, er, hr⟩ := emod_nat (cs.getD i 0) hn
        rw [er]
        exact q r _ hr (bx0.put ⟨cs, i + 1, _, _, _, rfl⟩)
      try replace hif3 := of_decide_eq_false hif3
      refine wss_nil ?_
      refine wss_cons (ws_set 3 ?_ sc__law_draw.nd)
      refine we_bin (we_ty (T := "int") T.int (wa_cons (we_name 4 rfl (wa_nil ?_))))
      walk_at "blt"
      refine we_int ?_
      walk_at "op"
      refine wss_nil ?_
      exact ⟨_, _, _, i + 1, rfl, rfl⟩
    try replace hif2 := of_decide_eq_false hif2
    refine wss_nil ?_
    exact ⟨_, _, 0, i, rfl, (setC_id ha).symm⟩
  obtain ⟨o1, o3, ex, i', rfl, rfl⟩ := hM
  refine wss_cons (ws_asg (we_bin (we_ty (T := "int") T.int (wa_cons (we_bin (we_bin (we_bin (we_ix (we_name 0 rfl (we_int ?_))))))))))
  walk_at "ix"
  refine we_int ?_
  walk_at "op"
  refine we_bin (we_name 3 rfl (we_int ?_))
  walk_at "op"
  walk_at "op"
  refine we_int ?_
  walk_at "op"
  refine wa_nil ?_
  walk_at "blt"
  refine we_int ?_
  walk_at "op"
  refine wg_sub (we_name 0 rfl (we_int ?_))
  walk_at "sub"
  refine wss_cons (ws_ret (we_bin (we_bin (we_bin (we_ty (T := "int") T.int (wa_cons (we_bin (we_bin (we_ix (we_name 0 rfl (we_int ?_)))))))))))
  walk_at "ix"
  refine we_int ?_
  walk_at "op"
  refine we_int ?_
  walk_at "op"
  refine wa_nil ?_
  walk_at "blt"
  refine we_int ?_
  walk_at "op"
  refine we_int ?_
  walk_at "op"
  refine we_name 1 rfl ?_
  refine ⟨_, .mod _ _ hn0, ?_⟩
  obtain ⟨r, er, hr⟩ := emod_nat ((b4 * 48271 + ex * 69621 + 11) % 2147483647 * 40692 + 3) (n := 2147483399) (by decide)
  obtain ⟨r, er, hr⟩ := emod_nat (((b4 * 48271 + ex * 69621 + 11) % 2147483647 * 40692 + 3) % 2147483399 / 16) hn
  rw [er]
  exact q r _ hr (bx0.put ⟨cs, i', _, _, _, rfl⟩)
theorem sc__law_gcd : FnScope ["one", "two"] ["one", "two"] (defScope s__law_gcd) := ⟨rfl, rfl, rfl, by decide +kernel, rfl, by decide +kernel, by decide +kernel⟩
def sp__law_gcd : PreD := fun ds C R RX => ∃ a b : Nat, ds = [natD a, natD b] ∧ R (natD (Nat.gcd a b)) C
theorem ok__law_gcd {P : Program} {w : World} {K : PySem.W.Frag} {tt : List (Addr × Str)} {mg : Str → Option Value} {base : Heap} {f : Addr} {fd : FuncData} (F : FnP K "_law_gcd" s__law_gcd f fd) (T : Txt K w mg) : FnOk P w K mg base (L2.CX P w) 1 f fd ["one", "two"] (SpD K tt sp__law_gcd) := by
  refine body_ok F sc__law_gcd (fun ds C R RX hp => by (obtain ⟨a, b, rfl, q⟩ := hp; rfl)) fun cdv A outer s H E G0 ds C R RX B hp => ?_
  obtain ⟨a, b, rfl, q⟩ := hp
  refine wss_cons (ws_par 0 1 ?_ sc__law_gcd.nd)
  refine wa_cons (we_blt (id := "abs") T.abs (wa_cons (we_name 0 rfl (wa_nil ?_))))
  refine ⟨_, .abs _, ?_⟩
  rw [if_neg (by omega)]
  refine wa_cons (we_blt (id := "abs") T.abs (wa_cons (we_name 1 rfl (wa_nil ?_))))
  refine ⟨_, .abs _, ?_⟩
  rw [if_neg (by omega)]
  refine wa_nil ?_
  refine ⟨_, _, rfl, ?_⟩
  refine wss_cons (ws_while (fun m σ' C' => ∃ x y : Nat, σ' = [some (natD x), some (natD y)] ∧ C' = C ∧ Nat.gcd x y = Nat.gcd a b ∧ m = y) (b) ?_ (fun m σ' C' hI => ?_) B.po)
  · exact ⟨a, b, rfl, rfl, rfl, rfl⟩
  obtain ⟨x, y, rfl, rfl, hg, rfl⟩ := hI
  refine wt_cmp (we_name 1 rfl (we_int ?_))
  walk_at "cmp"
  refine ⟨fun hw1 => ?_, fun hw1 => ?_⟩
  · try replace hw1 := of_decide_eq_true hw1
    refine wss_cons (ws_par 0 1 ?_ sc__law_gcd.nd)
    refine wa_cons (we_name 1 rfl (wa_cons (we_bin (we_ty (T := "int") T.int (wa_cons (we_name 0 rfl (wa_nil ?_)))))))
    walk_at "blt"
    refine we_name 1 rfl ?_
    refine ⟨_, .mod _ _ hw1, ?_⟩
    refine wa_nil ?_
    refine ⟨_, _, rfl, ?_⟩
    refine wss_nil ?_
    refine ⟨x % m, Nat.mod_lt _ (by omega), m, x % m, rfl, rfl, ?_, rfl⟩
    rw [← hg, Nat.gcd_comm m, ← Nat.gcd_rec, Nat.gcd_comm]
  try replace hw1 := of_decide_eq_false hw1
  refine wss_cons (ws_ret (we_name 0 rfl ?_))
  have e : m = 0 := by omega
  rw [← hg, e, Nat.gcd_zero_right] at q
  exact q
theorem sc__law_low : FnScope ["top", "bottom", "common"] ["top", "bottom"] (defScope s__law_low) := ⟨rfl, rfl, rfl, by decide +kernel, rfl, by decide +kernel, by decide +kernel⟩
def sp__law_low : PreD := fun ds C R RX => ∃ a b : Nat, ds = [natD a, natD b] ∧ 0 < b ∧ b ≤ 1000000 ∧ R (pD (lowP (a : Int) (b : Int))) C
theorem ok__law_low {P : Program} {w : World} {K : PySem.W.Frag} {tt : List (Addr × Str)} {mg : Str → Option Value} {base : Heap} {f : Addr} {fd : FuncData} (F : FnP K "_law_low" s__law_low f fd) (T : Txt K w mg) (h__law_gcd : HasF P w K tt mg base "_law_gcd" ["one", "two"] 1 sp__law_gcd) : FnOk P w K mg base (L2.CX P w) 2 f fd ["top", "bottom"] (SpD K tt sp__law_low) := by
  refine body_ok F sc__law_low (fun ds C R RX hp => by (obtain ⟨a, b, rfl, hb, hz, q⟩ := hp; rfl)) fun cdv A outer s H E G0 ds C R RX B hp => ?_
  obtain ⟨a, b, rfl, hb, hz, q⟩ := hp
  have hg1 : 0 < Nat.gcd a b := Nat.gcd_pos_of_pos_right _ hb
  have hg2 : Nat.gcd a b ≤ b := Nat.gcd_le_right _ hb
  refine wss_cons (ws_set 2 ?_ sc__law_low.nd)
  refine we_bin (we_call h__law_gcd B.room (by decide) B.tk (wa_cons (we_name 0 rfl (wa_cons (we_name 1 rfl (wa_nil ?_))))))
  refine ⟨a, b, rfl, ?_⟩
  refine we_bin (we_int (we_bin (we_int (we_ty (T := "int") T.int (wa_cons (we_cmp (we_name 1 rfl (we_int ?_))))))))
  walk_at "cmp"
  refine wa_nil ?_
  refine ⟨_, .intB _, ?_⟩
  rw [decide_eq_false (by omega), if_neg (by decide)]
  walk_at "op"
  walk_at "op"
  refine ⟨_, .mul _ _ (mulR (by decide) (by decide)), ?_⟩
  rw [show ((Nat.gcd a b : Nat) : Int) * (1 - 2 * 0) = ((Nat.gcd a b : Nat) : Int) by omega]
  refine wss_cons (ws_ret (we_tup (wa_cons (we_bin (we_name 0 rfl (we_name 2 rfl ?_))))))
  refine ⟨_, .div _ _ (by omega) (log_nat (by omega)), ?_⟩
  refine wa_cons (we_bin (we_name 1 rfl (we_name 2 rfl ?_)))
  refine ⟨_, .div _ _ (by omega) (log_nat (by omega)), ?_⟩
  refine wa_nil ?_
  refine ⟨by walk_at "tsz", ?_⟩
  unfold lowP at q
  rw [if_neg (by omega), Int.natAbs_natCast, Int.natAbs_natCast] at q
  exact q
theorem sc__law_flat : FnScope ["one", "out", "line"] ["one"] (defScope s__law_flat) := ⟨rfl, rfl, rfl, by decide +kernel, rfl, by decide +kernel, by decide +kernel⟩
def sp__law_flat : PreD := fun ds C R RX => ∃ rows : List (List Int), ds = [.lst (rows.map lI)] ∧ rows.flatten.length ≤ 1000 ∧ R (lI rows.flatten) C
theorem ok__law_flat {P : Program} {w : World} {K : PySem.W.Frag} {tt : List (Addr × Str)} {mg : Str → Option Value} {base : Heap} {f : Addr} {fd : FuncData} (F : FnP K "_law_flat" s__law_flat f fd) (T : Txt K w mg) : FnOk P w K mg base (L2.CX P w) 1 f fd ["one"] (SpD K tt sp__law_flat) := by
  refine body_ok F sc__law_flat (fun ds C R RX hp => by (obtain ⟨rows, rfl, hl, q⟩ := hp; rfl)) fun cdv A outer s H E G0 ds C R RX B hp => ?_
  obtain ⟨rows, rfl, hl, q⟩ := hp
  refine wss_cons (ws_set 1 ?_ sc__law_flat.nd)
  refine we_nil ?_
  refine wss_cons (ws_forL ?_ B.po)
  refine wi_seq (we_name 0 rfl ?_)
  refine ⟨_, .lst _, ?_⟩
  refine ⟨_, rows, lI, fun pre σ' C' => ∃ o, σ' = [some (.lst (rows.map lI)), some (lI pre.flatten), o] ∧ C' = C, rfl, ?_, fun G1 hG1 pre1 it1 post1 σ' C' hx1 hI => ?_, fun σ' C' hI => ?_⟩
  · exact ⟨_, rfl, rfl⟩
  · obtain ⟨o, rfl, rfl⟩ := hI
    have hs : pre1.flatten.length + it1.length ≤ 1000 := by
      rw [hx1, List.flatten_append, List.flatten_cons, List.length_append, List.length_append] at hl
      omega
    refine wg_name 2 ?_ sc__law_flat.nd
    refine wss_cons (ws_set 1 ?_ sc__law_flat.nd)
    refine we_bin (we_name 1 rfl (we_name 2 rfl ?_))
    refine ⟨_, .cat (.v _) (.v _) (sz (by rw [List.length_map, List.length_map]; omega)), ?_⟩
    refine wss_nil ?_
    refine ⟨some (lI it1), ?_, rfl⟩
    rw [List.flatten_append, List.flatten_cons, List.flatten_nil, List.append_nil]
    unfold lI
    rw [List.map_append]
    rfl
  obtain ⟨o, rfl, rfl⟩ := hI
  refine wss_cons (ws_ret (we_name 1 rfl ?_))
  exact q
theorem sc__law_text : FnScope ["top", "bottom"] ["top", "bottom"] (defScope s__law_text) := ⟨rfl, rfl, rfl, by decide +kernel, rfl, by decide +kernel, by decide +kernel⟩
theorem log_small {i : Int} (h : i.natAbs ≤ 1000) : i.natAbs.log2 < 1920 := by
  by_cases h0 : i.natAbs = 0
  · rw [h0]
    decide
  · refine (Nat.log2_lt h0).mpr (Nat.lt_of_le_of_lt h ?_)
    exact Nat.lt_of_lt_of_le (by decide : 1000 < 2 ^ 10) (Nat.pow_le_pow_right (by decide) (by decide))
def sp__law_text : PreD := fun ds C R RX => ∃ x d : Nat, ds = [natD x, natD d] ∧ x < 6 ∧ 1 ≤ d ∧ d < 4 ∧ R (.str (ntx x d)) C
theorem ok__law_text {P : Program} {w : World} {K : PySem.W.Frag} {tt : List (Addr × Str)} {mg : Str → Option Value} {base : Heap} {f : Addr} {fd : FuncData} (F : FnP K "_law_text" s__law_text f fd) (T : Txt K w mg) (h__law_low : HasF P w K tt mg base "_law_low" ["top", "bottom"] 2 sp__law_low) : FnOk P w K mg base (L2.CX P w) 3 f fd ["top", "bottom"] (SpD K tt sp__law_text) := by
  refine body_ok F sc__law_text (fun ds C R RX hp => by (obtain ⟨x, d, rfl, hx, h1, h4, q⟩ := hp; rfl)) fun cdv A outer s H E G0 ds C R RX B hp => ?_
  obtain ⟨x, d, rfl, hx, h1, h4, q⟩ := hp
  have hlen := ntx_len x hx d h4 h1
  have htop := low_top x hx d h4 h1
  have hden := low_den x hx d h4 h1
  refine wss_cons (ws_asg (we_call h__law_low B.room (by decide) B.tk (wa_cons (we_name 0 rfl (wa_cons (we_name 1 rfl (wa_nil ?_)))))))
  refine ⟨x, d, rfl, by omega, by omega, ?_⟩
  refine wg_tup rfl rfl ?_
  refine ⟨_, _, rfl, wg_name 0 ?_ sc__law_text.nd⟩
  refine ⟨_, _, rfl, wg_name 1 ?_ sc__law_text.nd⟩
  refine ⟨rfl, ?_⟩
  refine wss_cons (ws_ret (we_if (wt_cmp (we_name 1 rfl (we_int ?_)))))
  walk_at "cmp"
  refine ⟨fun hife1 => ?_, fun hife1 => ?_⟩
  · try replace hife1 := of_decide_eq_true hife1
    refine we_fstr1 (we_fmt (we_name 0 rfl ?_))
    refine ⟨_, .int _ (log_small (by omega)), ?_⟩
    unfold ntx at q
    rw [if_pos hife1] at q
    exact q
  try replace hife1 := of_decide_eq_false hife1
  refine we_fstr ?_
  show DW.WE _ _ _ _ _
  refine we_fmt (we_name 0 rfl ?_)
  refine ⟨_, .int _ (log_small (by omega)), ?_⟩
  refine ⟨_, rfl, sz (by simp only [Str.length_append]; rw [hlen.1]; exact Nat.le_of_ble_eq_true rfl), ?_⟩
  show DW.WE _ _ _ _ _
  refine we_str ?_
  refine ⟨_, rfl, sz (by simp only [Str.length_append]; rw [hlen.1]; exact Nat.le_of_ble_eq_true rfl), ?_⟩
  show DW.WE _ _ _ _ _
  refine we_fmt (we_name 1 rfl ?_)
  refine ⟨_, .int _ (log_small (by omega)), ?_⟩
  refine ⟨_, rfl, sz (by simp only [Str.length_append]; rw [hlen.1, hlen.2]; exact Nat.le_of_ble_eq_true rfl), ?_⟩
  unfold ntx at q
  rw [if_neg hife1] at q
  exact q
theorem sc__law_big : FnScope ["numbers", "x"] ["numbers"] (defScope s__law_big) := ⟨rfl, rfl, rfl, by decide +kernel, rfl, by decide +kernel, by decide +kernel⟩
def sp__law_big : PreD := fun ds C R RX => ∃ xs : List Int, ds = [lI xs] ∧ xs.length ≤ 1000 ∧ (∀ x ∈ xs, 0 ≤ x ∧ x ≤ 100) ∧ R (.bl false) C
theorem ok__law_big {P : Program} {w : World} {K : PySem.W.Frag} {tt : List (Addr × Str)} {mg : Str → Option Value} {base : Heap} {f : Addr} {fd : FuncData} (F : FnP K "_law_big" s__law_big f fd) (T : Txt K w mg) : FnOk P w K mg base (L2.CX P w) 1 f fd ["numbers"] (SpD K tt sp__law_big) := by
  refine body_ok F sc__law_big (fun ds C R RX hp => by (obtain ⟨xs, rfl, hl, hx0, q⟩ := hp; rfl)) fun cdv A outer s H E G0 ds C R RX B hp => ?_
  obtain ⟨xs, rfl, hl, hx0, q⟩ := hp
  refine wss_cons (ws_ret (we_cmp (we_maxL T.max (wa_cons (we_bin (we_lst (wa_cons (we_int (wa_nil ?_)))))))))
  refine ⟨by walk_at "tsz", ?_⟩
  refine we_lc [("x", 1)] [1] (fun _ _ _ _ _ => tgt_one (by decide) sc__law_big.nd) sc__law_big.nd (blkOk_by (by kernel_rfl)) (wi_seq (we_name 0 rfl ?_))
  refine ⟨_, .lst _, ?_⟩
  refine lc_map (xs) (D.int) (fun x => .int (if x < 0 then -x else x)) (rfl) (sz (by omega)) (fun x hx => .one _ _ _) (fun x hx s H cl Cc fp G C' hC => ?_) ?_
  · skip
    refine we_blt (id := "abs") T.abs (wa_cons (we_name 1 rfl (wa_nil ?_)))
    walk_at "blt"
    exact ⟨rfl, rfl⟩
  refine ⟨_, .cat (.v _) (.v _) (sz (by rw [List.length_map]; show 1 + xs.length ≤ 16777216; omega)), ?_⟩
  refine wa_nil ?_
  obtain ⟨m, hm, hmx⟩ := ex_max (0 :: xs.map fun x => if x < 0 then -x else x) (by simp)
  have hm100 : m ≤ 100 := by
    rcases List.mem_cons.mp hm with rfl | hm
    · decide
    · obtain ⟨y, hy, rfl⟩ := List.mem_map.mp hm
      have := hx0 y hy
      split <;> omega
  refine ⟨_, 0 :: xs.map (fun x => if x < 0 then -x else x), m, rfl, ?_, hm, hmx, ?_⟩
  · have e : [D.int 0] ++ xs.map (fun x => D.int (if x < 0 then -x else x)) = (0 :: xs.map fun x => if x < 0 then -x else x).map D.int := by
      rw [List.map_cons, List.map_map]
      rfl
    rw [e]
    exact .v _
  refine we_bin (we_int (we_int ?_))
  walk_at "op"
  walk_at "cmp"
  rw [decide_eq_false (show ¬ (10 : Int) ^ (60 : Int).toNat < m by have : (100 : Int) < (10 : Int) ^ (60 : Int).toNat := (by decide); omega)]
  exact q
theorem sc__law_is_int : FnScope ["thing"] ["thing"] (defScope s__law_is_int) := ⟨rfl, rfl, rfl, by decide +kernel, rfl, by decide +kernel, by decide +kernel⟩
def sp__law_is_int : PreD := fun ds C R RX => ∃ i : Int, ds = [.int i] ∧ R (.bl true) C
theorem ok__law_is_int {P : Program} {w : World} {K : PySem.W.Frag} {tt : List (Addr × Str)} {mg : Str → Option Value} {base : Heap} {f : Addr} {fd : FuncData} (F : FnP K "_law_is_int" s__law_is_int f fd) (T : Txt K w mg) : FnOk P w K mg base (L2.CX P w) 1 f fd ["thing"] (SpD K tt sp__law_is_int) := by
  refine body_ok F sc__law_is_int (fun ds C R RX hp => by (obtain ⟨i, rfl, q⟩ := hp; rfl)) fun cdv A outer s H E G0 ds C R RX B hp => ?_
  obtain ⟨i, rfl, q⟩ := hp
  refine wss_cons (ws_ret (we_and (we_isiV .int T.isinstance T.int (we_name 0 rfl ?_))))
  refine ⟨_, rfl, ?_⟩
  refine ⟨_, rfl, fun hsc1 => ?_, fun hsc1 => ?_⟩
  rotate_left
  · try replace hsc1 := of_decide_eq_false hsc1
    cases hsc1
  try replace hsc1 := of_decide_eq_true hsc1
  refine we_one (we_not (we_isiV .bl T.isinstance T.bool (we_name 0 rfl ?_)))
  refine ⟨_, rfl, ?_⟩
  refine ⟨_, rfl, ?_⟩
  exact q
theorem sc__law_many : FnScope ["n", "size", "top", "k"] ["n", "size"] (defScope s__law_many) := ⟨rfl, rfl, rfl, by decide +kernel, rfl, by decide +kernel, by decide +kernel⟩
def sp__law_many : PreD := fun ds C R RX => ∃ n d : Nat, ds = [natD n, natD d] ∧ n ≤ 1000 ∧ d ≤ 1000000 ∧ R (.int (lmF n d)) C
theorem ok__law_many {P : Program} {w : World} {K : PySem.W.Frag} {tt : List (Addr × Str)} {mg : Str → Option Value} {base : Heap} {f : Addr} {fd : FuncData} (F : FnP K "_law_many" s__law_many f fd) (T : Txt K w mg) : FnOk P w K mg base (L2.CX P w) 1 f fd ["n", "size"] (SpD K tt sp__law_many) := by
  refine body_ok F sc__law_many (fun ds C R RX hp => by (obtain ⟨n, d, rfl, hn, hd, q⟩ := hp; rfl)) fun cdv A outer s H E G0 ds C R RX B hp => ?_
  obtain ⟨n, d, rfl, hn, hd, q⟩ := hp
  refine wss_cons (ws_set 2 ?_ sc__law_many.nd)
  refine we_int ?_
  refine wss_cons (ws_forL ?_ B.po)
  refine wi_range1 T.range (wa_cons (we_name 1 rfl (wa_nil ?_)))
  refine ⟨_, rfl, ⟨by omega, by omega⟩, ?_⟩
  rw [Int.toNat_natCast, rangeD0]
  refine ⟨_, List.range d, fun i => D.int (i : Nat), fun pre σ' C' => ∃ o, σ' = [some (natD n), some (natD d), some (.int (lmF n pre.length)), o] ∧ C' = C, rfl, ?_, fun G1 hG1 pre1 it1 post1 σ' C' hx1 hI => ?_, fun σ' C' hI => ?_⟩
  · exact ⟨_, rfl, rfl⟩
  · obtain ⟨o, rfl, rfl⟩ := hI
    obtain ⟨ei, hlt⟩ := range_split hx1
    subst ei
    refine wg_name 3 ?_ sc__law_many.nd
    refine wss_cons (ws_set 2 ?_ sc__law_many.nd)
    refine we_bin (we_bin (we_name 2 rfl (we_bin (we_bin (we_name 0 rfl (we_name 3 rfl ?_))))))
    walk_at "op"
    refine we_int ?_
    walk_at "op"
    refine ⟨_, .mul _ _ (mulR (by omega) (by omega)), ?_⟩
    refine we_bin (we_name 3 rfl (we_int ?_))
    walk_at "op"
    refine ⟨_, .div _ _ (by omega) (log_ok (by omega)), ?_⟩
    refine wss_nil ?_
    refine ⟨some (natD pre1.length), ?_, rfl⟩
    rw [List.length_append, List.length_singleton]
    rfl
  obtain ⟨o, rfl, rfl⟩ := hI
  rw [List.length_range]
  refine wss_cons (ws_ret (we_name 2 rfl ?_))
  exact q
theorem sc__law_unknowns : FnScope ["world", "k"] ["world"] (defScope s__law_unknowns) := ⟨rfl, rfl, rfl, by decide +kernel, rfl, by decide +kernel, by decide +kernel⟩
def sp__law_unknowns : PreD := fun ds C R RX => ∃ (t s : Nat) (w : D), ds = [w] ∧ WoD t s w ∧ R (.lst ((unkF t s).map natD)) C
theorem ok__law_unknowns {P : Program} {w : World} {K : PySem.W.Frag} {tt : List (Addr × Str)} {mg : Str → Option Value} {base : Heap} {f : Addr} {fd : FuncData} (F : FnP K "_law_unknowns" s__law_unknowns f fd) (T : Txt K w mg) : FnOk P w K mg base (L2.CX P w) 1 f fd ["world"] (SpD K tt sp__law_unknowns) := by
  refine body_ok F sc__law_unknowns (fun ds C R RX hp => by (obtain ⟨t, s, _, rfl, ⟨dd, nn, ss, rfl, hs, t1, t4, s1, s6⟩, q⟩ := hp; rfl)) fun cdv A outer s H E G0 ds C R RX B hp => ?_
  obtain ⟨t, s, _, rfl, ⟨dd, nn, ss, rfl, hs, t1, t4, s1, s6⟩, q⟩ := hp
  have htt := tt_le t4
  have ett : ((t : Nat) : Int) * (t : Nat) = ((t * t : Nat) : Int) := (Int.natCast_mul t t).symm
  refine wss_cons (ws_ret (we_lc [("k", 1)] [1] (fun _ _ _ _ _ => tgt_one (by decide) sc__law_unknowns.nd) sc__law_unknowns.nd (blkOk_by (by kernel_rfl)) (wi_range1 T.range (wa_cons (we_bin (we_bin (we_dget B.room.units (we_name 0 rfl (we_str ?_)))))))))
  refine ⟨_, _, _, rfl, rfl, rfl, ?_⟩
  refine we_dget B.room.units (we_name 0 rfl (we_str ?_))
  refine ⟨_, _, _, rfl, rfl, rfl, ?_⟩
  refine ⟨_, .mul _ _ (mulOk_nat t4), ?_⟩
  rw [ett]
  refine we_blt (id := "len") T.len (wa_cons (we_dget B.room.units (we_name 0 rfl (we_str ?_))))
  refine ⟨_, _, _, rfl, rfl, rfl, ?_⟩
  refine wa_nil ?_
  refine ⟨_, .len (.l (.v _)), ?_⟩
  rw [hs]
  walk_at "op"
  refine wa_nil ?_
  refine ⟨_, rfl, ⟨by omega, by omega⟩, ?_⟩
  rw [show (((t * t : Nat) : Int) + ((s : Nat) : Int)).toNat = t * t + s by omega, rangeD0]
  refine lc_filter (List.range (t * t + s)) (natD) (natD) (fun k => !decide (k = t * t)) (rfl) (sz (by rw [List.length_range]; omega)) (fun x hx => .one _ _ _) (fun k hx s H cl Cc fp G C' hC => ?_) (fun k hx hp s H cl Cc fp G C' hC => ?_) ?_
  · skip
    refine wts_one (wt_cmp (we_name 1 rfl (we_bin (we_dget (blkB B).room.units (we_name 0 rfl (we_str ?_))))))
    refine ⟨_, _, _, rfl, rfl, rfl, ?_⟩
    refine we_dget (blkB B).room.units (we_name 0 rfl (we_str ?_))
    refine ⟨_, _, _, rfl, rfl, rfl, ?_⟩
    refine ⟨_, .mul _ _ (mulOk_nat t4), ?_⟩
    rw [ett]
    walk_at "cmp"
    refine ⟨?_, rfl⟩
    congr 1
    exact decide_eq_decide.mpr (by omega)
  · skip
    refine we_name 1 rfl ?_
    exact ⟨rfl, rfl⟩
  exact q
theorem sc__law_keys : FnScope ["world", "size", "layers", "out", "k", "more", "key", "at", "layer"] ["world", "size"] (defScope s__law_keys) := ⟨rfl, rfl, rfl, by decide +kernel, rfl, by decide +kernel, by decide +kernel⟩
theorem atI_neg1 {xs : List D} {x : D} : atI (xs ++ [x]) (-1) = some x := by
  unfold atI ixN
  rw [if_neg (by decide), if_pos (by rw [List.length_append, List.length_singleton]; omega), Option.bind_some, List.length_append, List.length_singleton]
  have e : ((-1 : Int) + ((xs.length + 1 : Nat) : Int)).toNat = xs.length := by omega
  rw [e]
  simp
theorem eqv_nil {key : List Nat} : PyData.eqv (powD key).py (D.tup []).py = key.isEmpty := by
  cases key with
  | nil => rfl
  | cons a r => rfl
def sp__law_keys : PreD := fun ds C R RX => ∃ (t s d : Nat) (w : D), ds = [w, natD d] ∧ WoD t s w ∧ d ≤ 4 ∧ cmb (t * t + s - 1) d ≤ 150 ∧ R (.lst ((keysF t s d).map powD)) C
theorem ok__law_keys {P : Program} {w : World} {K : PySem.W.Frag} {tt : List (Addr × Str)} {mg : Str → Option Value} {base : Heap} {f : Addr} {fd : FuncData} (F : FnP K "_law_keys" s__law_keys f fd) (T : Txt K w mg) (h__law_unknowns : HasF P w K tt mg base "_law_unknowns" ["world"] 1 sp__law_unknowns) : FnOk P w K mg base (L2.CX P w) 2 f fd ["world", "size"] (SpD K tt sp__law_keys) := by
  refine body_ok F sc__law_keys (fun ds C R RX hp => by (obtain ⟨t, s, d, w, rfl, hw, d4, hc, q⟩ := hp; rfl)) fun cdv A outer s H E G0 ds C R RX B hp => ?_
  obtain ⟨t, s, d, w, rfl, hw, d4, hc, q⟩ := hp
  obtain ⟨_, _, _, _, _, t1, t4, s1, s6⟩ := id hw
  have htt := tt_le t4
  have hB := ky_all t (by omega) s (by omega) d (by omega) t1 s1 hc
  unfold kyB at hB
  rw [Bool.and_eq_true] at hB
  have hkl : ∀ k, k ≤ d → (kyL t s k).length ≤ 1000 ∧ ∀ key ∈ kyL t s k, key.length ≤ 10 ∧ ∀ a ∈ key, a < t * t + s := by
    intro k hk
    have h := List.all_eq_true.mp hB.1 k (List.mem_range.mpr (by omega))
    rw [Bool.and_eq_true] at h
    refine ⟨of_decide_eq_true h.1, fun key hkey => ?_⟩
    have h2 := List.all_eq_true.mp h.2 key hkey
    rw [Bool.and_eq_true] at h2
    exact ⟨of_decide_eq_true h2.1, fun a ha => of_decide_eq_true (List.all_eq_true.mp h2.2 a ha)⟩
  have hkt : (keysF t s d).length ≤ 1000 := of_decide_eq_true hB.2
  refine wss_cons (ws_par 2 3 ?_ sc__law_keys.nd)
  refine wa_cons (we_lstC (wa_cons (we_lst (wa_cons (we_tup (wa_nil ?_))))))
  refine ⟨by walk_at "tsz", ?_⟩
  refine wa_nil ?_
  refine ⟨by walk_at "tsz", ?_⟩
  refine wa_nil ?_
  refine ⟨by walk_at "tsz", fun p hp => ?_⟩
  refine wa_cons (we_nil (wa_nil ?_))
  refine ⟨_, _, rfl, ?_⟩
  refine wss_cons (ws_forL ?_ B.po)
  refine wi_range1 T.range (wa_cons (we_name 1 rfl (wa_nil ?_)))
  refine ⟨_, rfl, ⟨by omega, by omega⟩, ?_⟩
  rw [Int.toNat_natCast, rangeD0]
  refine ⟨_, List.range d, fun i => D.int (i : Nat), fun pre σ' C' => ∃ o4 o5 o6 o7, σ' = [some w, some (natD d), some (.cell p), some (.lst []), o4, o5, o6, o7, none] ∧ C' = setC C p (.lst ((List.range (pre.length + 1)).map fun k => .lst ((kyL t s k).map powD))), rfl, ?_, fun G1 hG1 pre1 it1 post1 σ' C' hx1 hI => ?_, fun σ' C' hI => ?_⟩
  · exact ⟨_, _, _, _, rfl, rfl⟩
  · obtain ⟨o4, o5, o6, o7, rfl, rfl⟩ := hI
    obtain ⟨ei, hlt⟩ := range_split hx1
    subst ei
    have hk0 := hkl pre1.length (by omega)
    have hk1 := hkl (pre1.length + 1) (by omega)
    refine wg_name 4 ?_ sc__law_keys.nd
    refine wss_cons (ws_set 5 ?_ sc__law_keys.nd)
    refine we_nil ?_
    refine wss_cons (ws_forL ?_ (B.base hG1).po)
    refine wi_seq (we_ix (we_name 2 rfl (we_neg (we_int ?_))))
    refine ⟨_, rfl, ?_⟩
    refine ⟨.lst ((kyL t s pre1.length).map powD), .seq (.l (.c setC_same)) (by rw [List.range_succ, List.map_append]; exact atI_neg1), ?_⟩
    refine ⟨_, .lst _, ?_⟩
    refine ⟨_, kyL t s pre1.length, powD, fun pre σ' C' => ∃ o6 o7, σ' = [some w, some (natD d), some (.cell p), some (.lst []), some (natD pre1.length), some (.lst ((pre.flatMap fun key => ((unkF t s).filter (kyT key)).map fun a => key ++ [a]).map powD)), o6, o7, none] ∧ C' = setC C p (.lst ((List.range (pre1.length + 1)).map fun k => .lst ((kyL t s k).map powD))), rfl, ?_, fun G2 hG2 pre2 it2 post2 σ' C' hx2 hI => ?_, fun σ' C' hI => ?_⟩
    · exact ⟨_, _, rfl, rfl⟩
    · obtain ⟨o6, o7, rfl, rfl⟩ := hI
      have hkey := hk0.2 it2 (by rw [hx2]; simp)
      have hs2 : (pre2.flatMap fun key => ((unkF t s).filter (kyT key)).map fun a => key ++ [a]).length + (((unkF t s).filter (kyT it2)).map fun a => it2 ++ [a]).length ≤ 1000 := by
        have h := hk1.1
        unfold kyL at h
        rw [hx2, List.flatMap_append, List.flatMap_cons, List.length_append, List.length_append] at h
        omega
      refine wg_name 6 ?_ sc__law_keys.nd
      refine wss_cons (ws_set 5 ?_ sc__law_keys.nd)
      refine we_bin (we_name 5 rfl (we_lc [("at", 7)] [7] (fun _ _ _ _ _ => tgt_one (by decide) sc__law_keys.nd) sc__law_keys.nd (blkOk_by (by kernel_rfl)) (wi_seq (we_call h__law_unknowns ((B.base hG1).base hG2).room (by decide) ((B.base hG1).base hG2).tk (wa_cons (we_name 0 rfl (wa_nil ?_)))))))
      refine ⟨t, s, w, rfl, hw, ?_⟩
      refine ⟨_, .lst _, ?_⟩
      refine lc_filter (unkF t s) (natD) (fun a => powD (it2 ++ [a])) (kyT it2) (rfl) (sz (by rw [unk_len s1]; omega)) (fun x hx => .one _ _ _) (fun a hx s H cl Cc fp G C' hC => ?_) (fun a hx hp s H cl Cc fp G C' hC => ?_) ?_
      · skip
        refine wts_one ?_
        refine WT.mono (Q := fun k C1 => k = (kyT it2 a) ∧ C' = C1) ?_ (fun k C1 hk => ?_)
        · skip
          refine wt_w (ww_or (wt_cmp (we_name 6 rfl (we_tup (wa_nil ?_)))))
          refine ⟨by walk_at "tsz", ?_⟩
          refine ⟨_, .eqD (.v _) (.v _) (shD_pow it2) (shD_pow []) B.room.units, ?_⟩
          rw [eqv_nil]
          refine ⟨fun hsc1 => ?_, fun hsc1 => ?_⟩
          skip
          · try replace hsc1 := of_decide_eq_true hsc1
            exact ⟨by unfold kyT; rw [hsc1]; rfl, rfl⟩
          try replace hsc1 := of_decide_eq_false hsc1
          refine ww_or1 (wt_cmp (we_name 7 rfl (we_ix (we_name 6 rfl (we_neg (we_int ?_))))))
          refine ⟨_, rfl, ?_⟩
          have hne : it2 ≠ [] := fun e => by rw [e] at hsc1; cases hsc1
          refine ⟨_, .seq (.t _) (atI_last hne), ?_⟩
          walk_at "cmp"
          refine ⟨?_, rfl⟩
          unfold kyT
          rw [hsc1, Bool.false_or]
          exact decide_eq_decide.mpr (by omega)
        obtain ⟨rfl, rfl⟩ := hk
        exact ⟨rfl, rfl⟩
      · skip
        refine we_bin (we_name 6 rfl (we_tup (wa_cons (we_name 7 rfl (wa_nil ?_)))))
        refine ⟨by walk_at "tsz", ?_⟩
        refine ⟨_, .catT _ _ (sz (by rw [List.length_map]; show it2.length + 1 ≤ 16777216; omega)), ?_⟩
        refine ⟨?_, rfl⟩
        unfold powD
        rw [List.map_append]
        rfl
      refine ⟨_, .cat (.v _) (.v _) (sz (by rw [List.length_map, List.length_map]; rw [List.length_map] at hs2; omega)), ?_⟩
      refine wss_nil ?_
      refine ⟨some (powD it2), o7, ?_, rfl⟩
      rw [List.flatMap_append, List.flatMap_singleton, List.map_append, List.map_map]
      rfl
    obtain ⟨o6, o7, rfl, rfl⟩ := hI
    refine wss_cons (ws_expr (we_append (we_name 2 rfl ?_)))
    refine ⟨_, rfl, ⟨_, by first | assumption | exact setC_same⟩, ?_⟩
    refine we_name 5 rfl ?_
    refine ⟨_, setC_same, szlt (by rw [List.length_map, List.length_range]; omega), ?_⟩
    refine wss_nil ?_
    refine ⟨_, _, _, _, rfl, ?_⟩
    rw [setC_setC, List.length_append, List.length_singleton, List.range_succ (n := pre1.length + 1), List.map_append]
    rfl
  obtain ⟨o4, o5, o6, o7, rfl, rfl⟩ := hI
  rw [List.length_range]
  refine wss_cons (ws_forL ?_ B.po)
  refine wi_rev T.reversed (wa_cons (we_freeze (we_name 2 rfl ?_)))
  refine ⟨p, _, rfl, setC_same, ?_⟩
  rw [delC_setC hp]
  refine wa_nil ?_
  refine ⟨_, _, rfl, .inl rfl, ?_⟩
  refine ⟨_, ((List.range (d + 1)).map (kyL t s)).reverse, fun l => .lst (l.map powD), fun pre σ' C' => ∃ o4 o5 o6 o7 o8, σ' = [some w, some (natD d), some (.cell p), some (.lst (pre.flatten.map powD)), o4, o5, o6, o7, o8] ∧ C' = C, (by rw [List.map_reverse, List.map_map]; rfl), ?_, fun G3 hG3 pre3 it3 post3 σ' C' hx3 hI => ?_, fun σ' C' hI => ?_⟩
  · exact ⟨_, _, _, _, _, rfl, rfl⟩
  · obtain ⟨o4, o5, o6, o7, o8, rfl, rfl⟩ := hI
    have hs : pre3.flatten.length + it3.length ≤ 1000 := by
      have h := hkt
      unfold keysF at h
      rw [hx3, List.flatten_append, List.flatten_cons, List.length_append, List.length_append] at h
      omega
    refine wg_name 8 ?_ sc__law_keys.nd
    refine wss_cons (ws_set 3 ?_ sc__law_keys.nd)
    refine we_bin (we_name 3 rfl (we_name 8 rfl ?_))
    refine ⟨_, .cat (.v _) (.v _) (sz (by rw [List.length_map, List.length_map]; omega)), ?_⟩
    refine wss_nil ?_
    refine ⟨o4, o5, o6, o7, some (.lst (it3.map powD)), ?_, rfl⟩
    rw [List.flatten_append, List.flatten_cons, List.flatten_nil, List.append_nil, List.map_append]
    rfl
  obtain ⟨o4, o5, o6, o7, o8, rfl, rfl⟩ := hI
  refine wss_cons (ws_ret (we_name 3 rfl ?_))
  exact q
theorem sc__law_powers : FnScope ["world", "key", "powers", "k", "at"] ["world", "key"] (defScope s__law_powers) := ⟨rfl, rfl, rfl, by decide +kernel, rfl, by decide +kernel, by decide +kernel⟩
theorem pwrF_len (n : Nat) (key : List Nat) : (pwrF n key).length = n := by
  unfold pwrF
  have : ∀ (l : List Nat) (ps : List Nat), (l.foldl (fun ps a => ps.set a (ps.getD a 0 + 1)) ps).length = ps.length := by
    intro l
    induction l with
    | nil => intro ps; rfl
    | cons a l ih => intro ps; rw [List.foldl_cons, ih, List.length_set]
  rw [this, List.length_replicate]
def sp__law_powers : PreD := fun ds C R RX => ∃ (t s : Nat) (w : D) (key : List Nat), ds = [w, powD key] ∧ WoD t s w ∧ (∀ a ∈ key, a < t * t + s) ∧ R (powD (pwrF (t * t + s) key)) C
theorem ok__law_powers {P : Program} {w : World} {K : PySem.W.Frag} {tt : List (Addr × Str)} {mg : Str → Option Value} {base : Heap} {f : Addr} {fd : FuncData} (F : FnP K "_law_powers" s__law_powers f fd) (T : Txt K w mg) : FnOk P w K mg base (L2.CX P w) 1 f fd ["world", "key"] (SpD K tt sp__law_powers) := by
  refine body_ok F sc__law_powers (fun ds C R RX hp => by (obtain ⟨t, s, _, key, rfl, ⟨dd, nn, ss, rfl, hs, t1, t4, s1, s6⟩, hk, q⟩ := hp; rfl)) fun cdv A outer s H E G0 ds C R RX B hp => ?_
  obtain ⟨t, s, _, key, rfl, ⟨dd, nn, ss, rfl, hs, t1, t4, s1, s6⟩, hk, q⟩ := hp
  have htt := tt_le t4
  have ett : ((t : Nat) : Int) * (t : Nat) = ((t * t : Nat) : Int) := (Int.natCast_mul t t).symm
  refine wss_cons (ws_setLc 2 [("k", 3)] [3] (fun _ _ _ _ _ => tgt_one (by decide) sc__law_powers.nd) sc__law_powers.nd (blkOk_by (by kernel_rfl)) (wi_range1 T.range (wa_cons (we_bin (we_bin (we_dget B.room.units (we_name 0 rfl (we_str ?_))))))))
  refine ⟨_, _, _, rfl, rfl, rfl, ?_⟩
  refine we_dget B.room.units (we_name 0 rfl (we_str ?_))
  refine ⟨_, _, _, rfl, rfl, rfl, ?_⟩
  refine ⟨_, .mul _ _ (mulOk_nat t4), ?_⟩
  rw [ett]
  refine we_blt (id := "len") T.len (wa_cons (we_dget B.room.units (we_name 0 rfl (we_str ?_))))
  refine ⟨_, _, _, rfl, rfl, rfl, ?_⟩
  refine wa_nil ?_
  refine ⟨_, .len (.l (.v _)), ?_⟩
  rw [hs]
  walk_at "op"
  refine wa_nil ?_
  refine ⟨_, rfl, ⟨by omega, by omega⟩, ?_⟩
  rw [show (((t * t : Nat) : Int) + ((s : Nat) : Int)).toNat = t * t + s by omega, rangeD0]
  refine lc_mapC (List.range (t * t + s)) (natD) (fun _ => natD 0) (rfl) (sz (by rw [List.length_range]; omega)) (fun x hx => .one _ _ _) (fun k hx s H cl Cc fp G C' hC => ?_) fun p hp => ?_
  · skip
    refine we_int ?_
    exact ⟨rfl, rfl⟩
  refine wss_cons (ws_forL ?_ B.po)
  refine wi_seq (we_name 1 rfl ?_)
  refine ⟨_, .tup _, ?_⟩
  refine ⟨_, key, natD, fun pre σ' C' => ∃ o4, σ' = [some (.dic [("t", natD t), ("dirs", dd), ("names", nn), ("stuffs", .lst ss)]), some (powD key), some (.cell p), none, o4] ∧ C' = setC C p (.lst ((pwrF (t * t + s) pre).map natD)), rfl, ?_, fun G1 hG1 pre1 it1 post1 σ' C' hx1 hI => ?_, fun σ' C' hI => ?_⟩
  · refine ⟨none, rfl, ?_⟩
    congr 1
    unfold pwrF
    rw [List.foldl_nil, List.map_replicate]
    congr 1
    exact List.eq_replicate_iff.mpr ⟨by rw [List.length_map, List.length_range], fun b hb => by obtain ⟨_, _, e⟩ := List.mem_map.mp hb; exact e.symm⟩
  · obtain ⟨o4, rfl, rfl⟩ := hI
    have ha := hk it1 (by rw [hx1]; simp)
    have hpl := pwrF_len (t * t + s) pre1
    refine wg_name 4 ?_ sc__law_powers.nd
    refine wss_cons (ws_asg (we_bin (we_ix (we_name 2 rfl (we_name 4 rfl ?_)))))
    refine ⟨_, .seq (.l (.c setC_same)) (by rw [atI_map 0 (by omega) (by rw [hpl]; omega), Int.toNat_natCast]), ?_⟩
    refine we_int ?_
    walk_at "op"
    refine wg_sub (we_name 2 rfl (we_name 4 rfl ?_))
    refine ⟨_, _, _, it1, rfl, rfl, setC_same, by rw [List.length_map, hpl]; exact ixN_nat (by omega) (by omega), ?_⟩
    rw [setC_setC]
    refine wss_nil ?_
    refine ⟨_, rfl, ?_⟩
    congr 1
    unfold pwrF
    rw [List.foldl_append, List.foldl_cons, List.foldl_nil, List.map_set]
    rfl
  obtain ⟨o4, rfl, rfl⟩ := hI
  refine wss_cons (ws_ret (we_drop (we_ty (T := "tuple") T.tuple (wa_cons (we_name 2 rfl (wa_nil ?_))))))
  refine ⟨_, .tuple (.c setC_same), ?_⟩
  refine ⟨p, _, by first | exact setC_same | assumption, ?_⟩
  rw [delC_setC hp]
  exact q
end K60
set_option Elab.async false
set_option linter.all false
set_option maxRecDepth 100000
set_option maxHeartbeats 4000000
namespace K60
open PySem PySem.Spec PyProof.Rows L2 Evl DW
local macro_rules | `(tactic| walk_at "seq") => `(tactic| first | exact .l (.v _) | exact .t _ | exact .r _ | exact .l (.c setC_same) | exact .l (.c (by assumption)))
local macro_rules | `(tactic| walk_at "lin") => `(tactic| first | exact .v _ | exact .c setC_same | exact .c (by assumption))
local macro_rules | `(tactic| walk_at "size") => `(tactic| first | (refine sz ?_; first | omega | (simp only [List.length_map, List.length_range, List.length_append, List.length_cons, List.length_nil, List.length_replicate] at *; omega)) | decide)
local macro_rules | `(tactic| walk_at "mulok") => `(tactic| first | exact mulR (by decide) (by decide) | exact mulL (by decide) (by decide) | assumption | exact mulL (by omega) (by omega) | exact mulR (by omega) (by omega))
local macro_rules | `(tactic| walk_at "op") => `(tactic| first
  | refine ⟨_, .add _ _, ?_⟩
  | refine ⟨_, .sub _ _, ?_⟩
  | refine ⟨_, .mul _ _ (by walk_at "mulok"), ?_⟩
  | refine ⟨_, .mod _ _ (by first | decide | omega | assumption), ?_⟩
  | refine ⟨_, .div _ _ (by first | decide | omega | assumption) (by first | decide | assumption), ?_⟩
  | refine ⟨_, .pow _ _ ⟨by decide, by decide, by decide⟩, ?_⟩
  | refine ⟨_, .adds _ _ (by walk_at "size"), ?_⟩
  | refine ⟨_, .catT _ _ (by walk_at "size"), ?_⟩
  | refine ⟨_, .cat (by walk_at "lin") (by walk_at "lin") (by walk_at "size"), ?_⟩
  | refine ⟨_, .rep _ (by walk_at "lin") (by first | decide | omega) (by first | decide | omega) (by walk_at "size"), ?_⟩)
local macro_rules | `(tactic| walk_at "cmp") => `(tactic| first
  | refine ⟨_, .lt _ _, ?_⟩ | refine ⟨_, .le _ _, ?_⟩ | refine ⟨_, .gt _ _, ?_⟩ | refine ⟨_, .ge _ _, ?_⟩
  | refine ⟨_, .eqI _ _, ?_⟩ | refine ⟨_, .neI _ _, ?_⟩ | refine ⟨_, .eqS _ _, ?_⟩ | refine ⟨_, .neS _ _, ?_⟩ | refine ⟨_, .eqB _ _, ?_⟩ | refine ⟨_, .neB _ _, ?_⟩
  | refine ⟨_, .isN, ?_⟩ | refine ⟨_, .ntN, ?_⟩ | refine ⟨_, .isC, ?_⟩ | refine ⟨_, .ntC, ?_⟩ | refine ⟨_, .isNo trivial, ?_⟩ | refine ⟨_, .ntNo trivial, ?_⟩)
local macro_rules | `(tactic| walk_at "ix") => `(tactic| first | refine ⟨_, .seq (by walk_at "seq") rfl, ?_⟩)
local macro_rules | `(tactic| walk_at "slc") => `(tactic| first | refine ⟨_, .lst _ _ (by walk_at "lin"), ?_⟩ | refine ⟨_, .tup _ _ _, ?_⟩ | refine ⟨_, .rol _ _ _, ?_⟩ | refine ⟨_, .str _ _ _ (by walk_at "size"), ?_⟩)
local macro_rules | `(tactic| walk_at "blt") => `(tactic| first
  | refine ⟨_, .len (by walk_at "seq"), ?_⟩ | refine ⟨_, .lenS _ (by walk_at "size"), ?_⟩ | refine ⟨_, .abs _, ?_⟩ | refine ⟨_, .max2 _ _ rfl, ?_⟩ | refine ⟨_, .min2 _ _ rfl, ?_⟩
  | refine ⟨_, .int _, ?_⟩ | refine ⟨_, .intB _, ?_⟩ | refine ⟨_, .bool _, ?_⟩ | refine ⟨_, .boolI _, ?_⟩
  | refine ⟨_, .sum _ (by walk_at "lin") rfl, ?_⟩ | refine ⟨_, .all _ (by walk_at "lin") rfl, ?_⟩ | refine ⟨_, .any _ (by walk_at "lin") rfl, ?_⟩
  | refine ⟨_, .list (by walk_at "seq"), ?_⟩ | refine ⟨_, .tuple (by walk_at "lin"), ?_⟩ | refine ⟨_, .tupleT _, ?_⟩)
local macro_rules | `(tactic| walk_at "sub") => `(tactic| (refine ⟨_, _, _, _, rfl, rfl, (by first | exact setC_same | assumption), rfl, ?_⟩; try rw [setC_setC]))
local macro_rules | `(tactic| walk_at "fun") => `(tactic| first | refine ⟨_, .gcd _ _, ?_⟩ | refine ⟨_, .lcm _ _ (by assumption) (by assumption), ?_⟩ | refine ⟨_, .lcm _ _ (by omega) (by omega), ?_⟩ | refine ⟨_, .comb _ _ (by omega) (by omega) (by omega) (by omega), ?_⟩)
local macro_rules | `(tactic| walk_at "sizelt") => `(tactic| first | (refine szlt ?_; first | omega | (simp only [List.length_map, List.length_range, List.length_append, List.length_cons, List.length_nil, List.length_replicate] at *; omega)) | decide)
local macro_rules | `(tactic| walk_at "meth") => `(tactic| first | refine ⟨_, .startswith _ _, ?_⟩ | refine ⟨_, .strip _ _ (by walk_at "size"), ?_⟩ | refine ⟨_, .partition _ _ rfl (by walk_at "size"), ?_⟩ | refine ⟨_, .split _ _ rfl (by walk_at "size"), ?_⟩)
local macro_rules | `(tactic| walk_at "tsz") => `(tactic| first | decide | exact sz (by simp))
local macro_rules | `(tactic| walk_at "jsz") => `(tactic| first | decide | walk_at "size" | (refine sz ?_; simp; omega))
local macro_rules | `(tactic| walk_at "log") => `(tactic| first | assumption | omega)
theorem _root_.DW.Bx.old {Ok : Ct → Prop} {a p : Addr} {C C' : Cells} (h : Bx Ok a C C') (hp : C' p = none) : C p = none := by
  cases e : C p with
  | none => rfl
  | some c =>
    have := h.keep p c (h.none_ne hp) e
    rw [hp] at this
    cases this
def HasB (C : Cells) (a : Addr) : Prop := ∃ c, C a = some c ∧ BxOk c
theorem _root_.DW.Bx.has {a : Addr} {C C' : Cells} (h : BxC a C C') : HasB C' a := h.at_
theorem HasB.bx {a : Addr} {C : Cells} (h : HasB C a) : BxC a C C := by
  obtain ⟨c, h1, h2⟩ := h
  exact Bx.refl h1 h2
theorem HasB.set {a p : Addr} {C : Cells} {c : Ct} (h : HasB C a) (hp : C p = none) : HasB (setC C p c) a := by
  obtain ⟨d, h1, h2⟩ := h
  exact ⟨d, by rw [setC_ne (fun e => by rw [e, hp] at h1; cases h1)]; exact h1, h2⟩
def SmL (line : List Int) : Prop := ∀ x ∈ line, ∃ n : Nat, x = (n : Int) ∧ n < 6
def rtx (den : Nat) (line : List Int) : Str := Txt.join " " (line.map fun x => ntx x.toNat den)
theorem low_two : ∀ x : Nat, x < 6 → ∀ d : Nat, d < 4 → 1 ≤ d → lowP (2 * (x : Int)) (2 * (d : Int)) = lowP (x : Int) (d : Int) := by decide +kernel
theorem low_low : ∀ x : Nat, x < 6 → ∀ d : Nat, d < 4 → 1 ≤ d → lowP (lowP (x : Int) (d : Int)).1 (lowP (x : Int) (d : Int)).2 = lowP (x : Int) (d : Int) := by decide +kernel
def strOf : D → Option (Str × Str × Str)
  | .tup [.str s, .str t, .str b] => some (s, t, b)
  | _ => none
def ntxB (x d : Nat) : Bool := match strOf (partsD (ntx x d)) with
  | none => false
  | some (s, t, b) => match PySem.intText? (s ++ t), PySem.intText? b with
    | some a, some c => decide ((ntx x d).length ≤ 3 ∧ (npQ (ntx x d)).1.length ≤ 200 ∧ (npQ (ntx x d)).2.2.length ≤ 200 ∧ s.length ≤ 1 ∧ t.length ≤ 200 ∧ b.length ≤ 200 ∧ c ≠ 0 ∧ c.natAbs < 18446744073709551616) && (decide (lowP a c = lowP (x : Int) (d : Int)) && decide (32 ∉ (ntx x d).cps.toList ∧ 59 ∉ (ntx x d).cps.toList))
    | _, _ => false
theorem ntx_all : ∀ x : Nat, x < 6 → ∀ d : Nat, d < 4 → 1 ≤ d → ntxB x d = true := by decide +kernel
theorem strOf_eq {d : D} {p : Str × Str × Str} (h : strOf d = some p) : d = .tup [.str p.1, .str p.2.1, .str p.2.2] := by
  unfold strOf at h
  split at h
  · cases h
    rfl
  · cases h
theorem ntx_num {x d : Nat} (hx : x < 6) (hd : d < 4) (h1 : 1 ≤ d) : NumIn (.str (ntx x d)) (lowP (x : Int) (d : Int)) ∧ (ntx x d).length ≤ 3 ∧ 32 ∉ (ntx x d).cps.toList ∧ 59 ∉ (ntx x d).cps.toList := by
  have h := ntx_all x hx d hd h1
  unfold ntxB at h
  split at h
  · cases h
  · rename_i s t b hs
    split at h
    · rename_i a c ha hc
      rw [Bool.and_eq_true, Bool.and_eq_true] at h
      obtain ⟨g1, g2, g3⟩ := h
      obtain ⟨l1, l2, l3, l4, l5, l6, l7, l8⟩ := of_decide_eq_true g1
      have g2 := of_decide_eq_true g2
      refine ⟨?_, l1, of_decide_eq_true g3⟩
      rw [← g2]
      exact .str _ s t b a c (by omega) l2 l3 (strOf_eq hs) l4 l5 l6 ha hc l7 l8
    · cases h
theorem sum_le {α : Type} (f : α → Nat) (k : Nat) : ∀ (l : List α), (∀ x ∈ l, f x ≤ k) → (l.map f).sum ≤ l.length * k
  | [], _ => by simp
  | x :: l, h => by
    rw [List.map_cons, List.sum_cons, List.length_cons, Nat.succ_mul]
    have := sum_le f k l fun y hy => h y (List.mem_cons_of_mem _ hy)
    have := h x List.mem_cons_self
    omega
theorem ntx_sum {den : Nat} {line : List Int} (h1 : 1 ≤ den) (h4 : den < 4) (hl : line.length ≤ 4) (hs : SmL line) : ((line.map fun x => ntx x.toNat den).map (·.length)).sum ≤ 12 := by
  have := sum_le (fun x : Int => (ntx x.toNat den).length) 3 line (fun x hx => by
    obtain ⟨n, rfl, hn⟩ := hs x hx
    exact (ntx_num (x := n) hn h4 h1).2.1)
  rw [List.map_map]
  exact Nat.le_trans this (by omega)
theorem rtx_len {den : Nat} {line : List Int} (h1 : 1 ≤ den) (h4 : den < 4) (hl : line.length ≤ 4) (hs : SmL line) : (rtx den line).length ≤ 16 := by
  unfold rtx
  refine Nat.le_trans join_len ?_
  have := ntx_sum h1 h4 hl hs
  rw [List.length_map]
  have e : (" " : Str).length = 1 := by decide
  rw [e]
  omega
theorem rtx_free {den : Nat} {line : List Int} (h1 : 1 ≤ den) (h4 : den < 4) (hs : SmL line) : 59 ∉ (rtx den line).cps.toList := by
  intro h
  rcases mem_join h with h | ⟨p, hp, h⟩
  · exact absurd h (by decide)
  · obtain ⟨x, hx, rfl⟩ := List.mem_map.mp hp
    obtain ⟨n, rfl, hn⟩ := hs x hx
    exact (ntx_num (x := n) hn h4 h1).2.2.2 h
def txE (den : Nat) (line : List Int) : List (D × (Int × Int)) := line.map fun x => (D.str (ntx x.toNat den), lowP x (den : Int))
theorem txE_snd {den : Nat} {line : List Int} : (txE den line).map (·.2) = plL den line := by
  unfold txE plL
  rw [List.map_map]
  rfl
theorem row_txt {den : Nat} {line : List Int} (h1 : 1 ≤ den) (h4 : den < 4) (hl : line.length ≤ 4) (hl1 : 1 ≤ line.length) (hs : SmL line) : RowOk (.str (rtx den line)) (txE den line) := by
  refine ⟨?_, by unfold txE; rw [List.length_map]; omega, fun e he => ?_⟩
  · have h := RowIn.str (sep := " ") (rtx den line) (Nat.le_trans (rtx_len h1 h4 hl hs) (by decide))
    have e : Txt.split (rtx den line) " " = line.map fun x => ntx x.toNat den := by
      refine TL.split_join (s := 32) (S := []) rfl (by decide +kernel) (fun e => ?_) fun p hp => ?_
      · have := congrArg List.length e
        rw [List.length_map, List.length_nil] at this
        omega
      · obtain ⟨x, hx, rfl⟩ := List.mem_map.mp hp
        obtain ⟨n, rfl, hn⟩ := hs x hx
        exact (ntx_num (x := n) hn h4 h1).2.2.1
    rw [e] at h
    unfold txE
    rw [List.map_map] at h ⊢
    exact h
  · unfold txE at he
    obtain ⟨x, hx, rfl⟩ := List.mem_map.mp he
    obtain ⟨n, rfl, hn⟩ := hs x hx
    exact (ntx_num (x := n) hn h4 h1).1
theorem row_lst {line : List Int} {den : Nat} {f : Int → D} (hl : line.length ≤ 4) (hl1 : 1 ≤ line.length) (h : ∀ x ∈ line, NumIn (f x) (lowP x (den : Int))) : RowOk (.lst (line.map f)) (line.map fun x => (f x, lowP x (den : Int))) ∧ RowOk (.tup (line.map f)) (line.map fun x => (f x, lowP x (den : Int))) ∧ (line.map fun x => (f x, lowP x (den : Int))).map (·.2) = plL den line := by
  have hne : line.map f ≠ [] := fun e => by
    have := congrArg List.length e
    rw [List.length_map, List.length_nil] at this
    omega
  have e1 : (line.map fun x => (f x, lowP x (den : Int))).map (·.1) = line.map f := by rw [List.map_map]; rfl
  have hn : ∀ e ∈ line.map fun x => (f x, lowP x (den : Int)), NumIn e.1 e.2 := fun e he => by
    obtain ⟨x, hx, rfl⟩ := List.mem_map.mp he
    exact h x hx
  refine ⟨⟨by rw [e1]; exact .lst _ hne, by rw [List.length_map]; omega, hn⟩, ⟨by rw [e1]; exact .tup _ hne, by rw [List.length_map]; omega, hn⟩, ?_⟩
  rw [List.map_map]
  rfl
def dgR (t : Nat) (e : Nat → Nat) : List (List Int) := (List.range t).map fun i => diagL t i (e i)
def stuffT (t : Nat) (q : (Nat → Nat) × Nat) : D := .tup [.lst ((dgR t q.1).map lI), natD q.2]
theorem dgR_row {t : Nat} {e : Nat → Nat} {den : Nat} (h : EdOk t e den) : ∀ line ∈ dgR t e, line.length = t ∧ SmL line := by
  intro line hl
  unfold dgR at hl
  obtain ⟨i, hi, rfl⟩ := List.mem_map.mp hl
  exact ⟨diagL_len, diagL_small h (List.mem_range.mp hi)⟩
theorem dgR_len {t : Nat} {e : Nat → Nat} : (dgR t e).length = t := by unfold dgR; rw [List.length_map, List.length_range]
theorem dgR_pl {t : Nat} {e : Nat → Nat} {den : Nat} : (dgR t e).map (plL den) = plT t e den := by
  unfold dgR plT
  rw [List.map_map]
  rfl
theorem flat_len {α : Type} {k : Nat} : ∀ (l : List (List α)), (∀ r ∈ l, r.length = k) → l.flatten.length = l.length * k
  | [], _ => by simp
  | r :: l, h => by
    rw [List.flatten_cons, List.length_append, List.length_cons, Nat.succ_mul, flat_len l fun x hx => h x (List.mem_cons_of_mem _ hx), h r List.mem_cons_self, Nat.add_comm]
theorem tab_txt {t : Nat} {e : Nat → Nat} {den : Nat} (h : EdOk t e den) : FirmIn t (.str (Txt.join " ; " ((dgR t e).map (rtx den)))) := by
  have hr := dgR_row h
  have h1 := h.t1
  have h4 := h.t4
  have hd4 : den < 4 := by have := h.d3; omega
  refine ⟨(dgR t e).map fun line => (D.str (rtx den line), txE den line), e, den, h, ⟨?_, by rw [List.length_map, dgR_len]; omega, fun r hm => ?_⟩, ?_⟩
  · have hs : (Txt.join " ; " ((dgR t e).map (rtx den))).length ≤ 60000 := by
      refine Nat.le_trans join_len ?_
      have := sum_le (fun line => (rtx den line).length) 16 (dgR t e) fun line hm => rtx_len h.d1 hd4 (by rw [(hr line hm).1]; exact h4) (hr line hm).2
      rw [List.map_map, List.length_map, dgR_len]
      rw [dgR_len] at this
      have e3 : (" ; " : Str).length = 3 := by decide
      rw [e3]
      refine Nat.le_trans (Nat.add_le_add_right this _) ?_
      omega
    have g := RowIn.str (sep := " ; ") _ hs
    have e2 : Txt.split (Txt.join " ; " ((dgR t e).map (rtx den))) " ; " = (dgR t e).map (rtx den) := by
      refine split_join2 (a := 32) (b := 59) (S := [32]) rfl (by decide) (by decide +kernel) (fun z => ?_) fun p hp => ?_
      · have := congrArg List.length z
        rw [List.length_map, dgR_len, List.length_nil] at this
        omega
      · obtain ⟨line, hm, rfl⟩ := List.mem_map.mp hp
        exact rtx_free h.d1 hd4 (hr line hm).2
    rw [e2] at g
    rw [List.map_map] at g ⊢
    exact g
  · obtain ⟨line, hm2, rfl⟩ := List.mem_map.mp hm
    have := hr line hm2
    exact ⟨row_txt h.d1 hd4 (by rw [this.1]; exact h4) (by rw [this.1]; exact h1) this.2, by unfold txE; rw [List.length_map]; exact this.1⟩
  · unfold plain
    rw [List.map_map, ← dgR_pl]
    exact List.map_congr_left fun line _ => txE_snd
theorem sc__law_given_row : FnScope ["box", "line", "den", "form", "x"] ["box", "line", "den"] (defScope s__law_given_row) := ⟨rfl, rfl, rfl, by decide +kernel, rfl, by decide +kernel, by decide +kernel⟩
def sp__law_given_row : PreD := fun ds C R RX => ∃ (a : Addr) (line : List Int) (den : Nat), ds = [.cell a, lI line, natD den] ∧ 1 ≤ line.length ∧ line.length ≤ 4 ∧ SmL line ∧ 1 ≤ den ∧ den < 4 ∧ HasB C a ∧ ∀ d es C', RowOk d es → es.map (·.2) = plL den line → BxC a C C' → R d C'
theorem ok__law_given_row {P : Program} {w : World} {K : PySem.W.Frag} {tt : List (Addr × Str)} {mg : Str → Option Value} {base : Heap} {f : Addr} {fd : FuncData} (F : FnP K "_law_given_row" s__law_given_row f fd) (T : Txt K w mg) (h__law_draw : HasF P w K tt mg base "_law_draw" ["box", "size"] 1 sp__law_draw) (h__law_big : HasF P w K tt mg base "_law_big" ["numbers"] 1 sp__law_big) (h__law_low : HasF P w K tt mg base "_law_low" ["top", "bottom"] 2 sp__law_low) (h__law_text : HasF P w K tt mg base "_law_text" ["top", "bottom"] 3 sp__law_text) : FnOk P w K mg base (L2.CX P w) 4 f fd ["box", "line", "den"] (SpD K tt sp__law_given_row) := by
  refine body_ok F sc__law_given_row (fun ds C R RX hp => by (obtain ⟨a, line, den, rfl, hl1, hl4, hs, d1, d4, hb, q⟩ := hp; rfl)) fun cdv A outer s H E G0 ds C R RX B hp => ?_
  obtain ⟨a, line, den, rfl, hl1, hl4, hs, d1, d4, hb, q⟩ := hp
  refine wss_cons (ws_set 3 ?_ sc__law_given_row.nd)
  refine we_call h__law_draw B.room (by decide) B.tk (wa_cons (we_name 0 rfl (wa_cons (we_int (wa_nil ?_)))))
  refine ⟨a, 4, rfl, by decide, by decide, hb, fun r C1 hr hB => ?_⟩
  refine wss_cons (ws_if (wt_tru (we_call h__law_big B.room (by decide) B.tk (wa_cons (we_bin (we_name 1 rfl (we_lst (wa_cons (we_name 2 rfl (wa_nil ?_))))))))))
  refine ⟨by walk_at "tsz", ?_⟩
  refine ⟨_, .cat (.v _) (.v _) (sz (by rw [List.length_map]; show line.length + 1 ≤ 16777216; omega)), ?_⟩
  refine wa_nil ?_
  refine ⟨line ++ [(den : Int)], by unfold lI; rw [List.map_append]; rfl, by rw [List.length_append, List.length_singleton]; omega, fun x hx => ?_, ?_⟩
  · rcases List.mem_append.mp hx with hx | hx
    · obtain ⟨n, rfl, hn⟩ := hs x hx
      omega
    · rw [List.mem_singleton.mp hx]
      omega
  refine ⟨_, .bl _, ?_⟩
  refine ⟨fun hif1 => ?_, fun hif1 => ?_⟩
  · try replace hif1 := of_decide_eq_true hif1
    cases hif1
  try replace hif1 := of_decide_eq_false hif1
  refine wss_nil ?_
  refine wss_cons (ws_if (wt_cmp (we_name 3 rfl (we_int ?_))))
  walk_at "cmp"
  refine ⟨fun hif2 => ?_, fun hif2 => ?_⟩
  · try replace hif2 := of_decide_eq_true hif2
    refine wss_cons (ws_ret (we_m1 PySem.F.slot_str_join PySem.F.type_str_join (we_str ?_)))
    refine ⟨_, rfl, ?_⟩
    refine we_lc [("x", 4)] [4] (fun _ _ _ _ _ => tgt_one (by decide) sc__law_given_row.nd) sc__law_given_row.nd (blkOk_by (by kernel_rfl)) (wi_seq (we_name 1 rfl ?_))
    refine ⟨_, .lst _, ?_⟩
    refine lc_map (line) (D.int) (fun x => .str (ntx x.toNat den)) (rfl) (sz (by omega)) (fun x hx => .one _ _ _) (fun x hx s H cl Cc fp G C' hC => ?_) ?_
    · skip
      obtain ⟨n, rfl, hn⟩ := hs x hx
      refine we_call h__law_text (blkB B).room (by decide) (blkB B).tk (wa_cons (we_name 4 rfl (wa_cons (we_name 2 rfl (wa_nil ?_)))))
      refine ⟨n, den, rfl, hn, d1, d4, ?_⟩
      exact ⟨rfl, rfl⟩
    rw [show (line.map fun x => D.str (ntx x.toNat den)) = (line.map fun x => ntx x.toNat den).map D.str by rw [List.map_map]; rfl]
    refine ⟨_, .join _ _ (.v _) (by have := ntx_sum d1 d4 hl4 hs; rw [List.length_map]; show _ + line.length * 1 ≤ 16777216; omega), ?_⟩
    exact q _ _ _ (row_txt d1 d4 hl4 hl1 hs) txE_snd hB
  try replace hif2 := of_decide_eq_false hif2
  refine wss_nil ?_
  refine wss_cons (ws_if (wt_cmp (we_name 3 rfl (we_int ?_))))
  walk_at "cmp"
  refine ⟨fun hif3 => ?_, fun hif3 => ?_⟩
  · try replace hif3 := of_decide_eq_true hif3
    refine wss_cons (ws_ret (we_ty (T := "tuple") T.tuple (wa_cons (we_lc [("x", 4)] [4] (fun _ _ _ _ _ => tgt_one (by decide) sc__law_given_row.nd) sc__law_given_row.nd (blkOk_by (by kernel_rfl)) (wi_seq (we_name 1 rfl ?_))))))
    refine ⟨_, .lst _, ?_⟩
    refine lc_map (line) (D.int) (fun x => .tup [.int (2 * x), .int (2 * (den : Int))]) (rfl) (sz (by omega)) (fun x hx => .one _ _ _) (fun x hx s H cl Cc fp G C' hC => ?_) ?_
    · skip
      obtain ⟨n, rfl, hn⟩ := hs x hx
      refine we_tup (wa_cons (we_bin (we_int (we_name 4 rfl ?_))))
      walk_at "op"
      refine wa_cons (we_bin (we_int (we_name 2 rfl ?_)))
      walk_at "op"
      refine wa_nil ?_
      refine ⟨by walk_at "tsz", ?_⟩
      exact ⟨rfl, rfl⟩
    refine wa_nil ?_
    walk_at "blt"
    obtain ⟨_, h2, h3⟩ := row_lst (den := den) (f := fun x => .tup [.int (2 * x), .int (2 * (den : Int))]) hl4 hl1 fun x hx => by
      obtain ⟨n, rfl, hn⟩ := hs x hx
      rw [← low_two n hn den d4 d1]
      exact .pair _ _ (by omega) (by omega)
    exact q _ _ _ h2 h3 hB
  try replace hif3 := of_decide_eq_false hif3
  refine wss_nil ?_
  refine wss_cons (ws_ret (we_lc [("x", 4)] [4] (fun _ _ _ _ _ => tgt_one (by decide) sc__law_given_row.nd) sc__law_given_row.nd (blkOk_by (by kernel_rfl)) (wi_seq (we_name 1 rfl ?_))))
  refine ⟨_, .lst _, ?_⟩
  refine lc_map (line) (D.int) (fun x => if r = 2 then pD (lowP x (den : Int)) else .str (ntx x.toNat den)) (rfl) (sz (by omega)) (fun x hx => .one _ _ _) (fun x hx s H cl Cc fp G C' hC => ?_) ?_
  · skip
    obtain ⟨n, rfl, hn⟩ := hs x hx
    refine WE.mono (Q := fun dv C1 => dv = (if r = 2 then pD (lowP (n : Int) (den : Int)) else .str (ntx n den)) ∧ C' = C1) ?_ (fun d C1 hd => ?_)
    · skip
      refine we_if (wt_cmp (we_name 3 rfl (we_int ?_)))
      walk_at "cmp"
      refine ⟨fun hife1 => ?_, fun hife1 => ?_⟩
      · try replace hife1 := of_decide_eq_true hife1
        refine we_call h__law_low (blkB B).room (by decide) (blkB B).tk (wa_cons (we_name 4 rfl (wa_cons (we_name 2 rfl (wa_nil ?_)))))
        refine ⟨n, den, rfl, by omega, by omega, ?_⟩
        exact ⟨by rw [if_pos (by omega)], rfl⟩
      · try replace hife1 := of_decide_eq_false hife1
        refine we_call h__law_text (blkB B).room (by decide) (blkB B).tk (wa_cons (we_name 4 rfl (wa_cons (we_name 2 rfl (wa_nil ?_)))))
        refine ⟨n, den, rfl, hn, d1, d4, ?_⟩
        exact ⟨by rw [if_neg (by omega)], rfl⟩
    obtain ⟨rfl, rfl⟩ := hd
    exact ⟨rfl, rfl⟩
  obtain ⟨h2, _, h3⟩ := row_lst (den := den) (f := fun x => if r = 2 then pD (lowP x (den : Int)) else .str (ntx x.toNat den)) hl4 hl1 fun x hx => by
    obtain ⟨n, rfl, hn⟩ := hs x hx
    have hd := low_den n hn den d4 d1
    by_cases hr2 : r = 2
    · rw [if_pos hr2]
      have := NumIn.pair (lowP (n : Int) (den : Int)).1 (lowP (n : Int) (den : Int)).2 (by omega) (by omega)
      rw [low_low n hn den d4 d1] at this
      exact this
    · rw [if_neg hr2]
      exact (ntx_num (x := n) hn d4 d1).1
  exact q _ _ _ h2 h3 hB
theorem sc__law_given_table : FnScope ["box", "table", "lines", "den", "x", "line"] ["box", "table"] (defScope s__law_given_table) := ⟨rfl, rfl, rfl, by decide +kernel, rfl, by decide +kernel, by decide +kernel⟩
def sp__law_given_table : PreD := fun ds C R RX => ∃ (a : Addr) (t : Nat) (e : Nat → Nat) (den : Nat), ds = [.cell a, stuffT t (e, den)] ∧ EdOk t e den ∧ HasB C a ∧ ∀ d C', FirmIn t d → BxC a C C' → R d C'
theorem ok__law_given_table {P : Program} {w : World} {K : PySem.W.Frag} {tt : List (Addr × Str)} {mg : Str → Option Value} {base : Heap} {f : Addr} {fd : FuncData} (F : FnP K "_law_given_table" s__law_given_table f fd) (T : Txt K w mg) (h__law_given_row : HasF P w K tt mg base "_law_given_row" ["box", "line", "den"] 4 sp__law_given_row) (h__law_draw : HasF P w K tt mg base "_law_draw" ["box", "size"] 1 sp__law_draw) (h__law_big : HasF P w K tt mg base "_law_big" ["numbers"] 1 sp__law_big) (h__law_flat : HasF P w K tt mg base "_law_flat" ["one"] 1 sp__law_flat) (h__law_text : HasF P w K tt mg base "_law_text" ["top", "bottom"] 3 sp__law_text) : FnOk P w K mg base (L2.CX P w) 5 f fd ["box", "table"] (SpD K tt sp__law_given_table) := by
  refine body_ok F sc__law_given_table (fun ds C R RX hp => by (obtain ⟨a, t, e, den, rfl, he, hb, q⟩ := hp; rfl)) fun cdv A outer s H E G0 ds C R RX B hp => ?_
  obtain ⟨a, t, e, den, rfl, he, hb, q⟩ := hp
  have hr := dgR_row he
  have d1 := he.d1
  have d4 : den < 4 := by have := he.d3; omega
  have t1 := he.t1
  have t4 := he.t4
  have hrl : (dgR t e).length = t := dgR_len
  refine wss_cons (ws_asg (we_name 1 rfl ?_))
  refine wg_tup rfl rfl ?_
  refine ⟨_, _, rfl, wg_name 2 ?_ sc__law_given_table.nd⟩
  refine ⟨_, _, rfl, wg_name 3 ?_ sc__law_given_table.nd⟩
  refine ⟨rfl, ?_⟩
  refine wss_cons (ws_if ?_)
  refine WT.mono (Q := fun _ C1 => BxC a C C1) ?_ (fun k C1 hk => ?_)
  · skip
    refine wt_w (ww_and (wt_cmp (we_call h__law_draw B.room (by decide) B.tk (wa_cons (we_name 0 rfl (wa_cons (we_int (wa_nil ?_))))))))
    refine ⟨a, 4, rfl, by decide, by decide, hb, fun r C1 hr1 hB => ?_⟩
    refine we_int ?_
    walk_at "cmp"
    refine ⟨fun hsc1 => ?_, fun hsc1 => ?_⟩
    rotate_left
    · try replace hsc1 := of_decide_eq_false hsc1
      exact hB
    try replace hsc1 := of_decide_eq_true hsc1
    refine ww_and1 (wt_not (wt_tru (we_call h__law_big B.room (by decide) B.tk (wa_cons (we_bin (we_call h__law_flat B.room (by decide) B.tk (wa_cons (we_name 2 rfl (wa_nil ?_)))))))))
    refine ⟨dgR t e, rfl, ?_, ?_⟩
    · rw [flat_len _ fun r h => (hr r h).1, hrl]
      have := tt_le t4
      omega
    refine we_lst (wa_cons (we_name 3 rfl (wa_nil ?_)))
    refine ⟨by walk_at "tsz", ?_⟩
    have hfl : (dgR t e).flatten.length ≤ 16 := by
      rw [flat_len _ fun r h => (hr r h).1, hrl]
      exact tt_le t4
    refine ⟨_, .cat (.v _) (.v _) (sz (by rw [List.length_map]; show (dgR t e).flatten.length + 1 ≤ 16777216; omega)), ?_⟩
    refine wa_nil ?_
    refine ⟨(dgR t e).flatten ++ [(den : Int)], by unfold lI; rw [List.map_append]; rfl, by rw [List.length_append, List.length_singleton]; omega, fun x hx => ?_, ?_⟩
    · rcases List.mem_append.mp hx with hx | hx
      · obtain ⟨line, hm, hx⟩ := List.mem_flatten.mp hx
        obtain ⟨n, rfl, hn⟩ := (hr line hm).2 x hx
        omega
      · rw [List.mem_singleton.mp hx]
        omega
    refine ⟨_, .bl _, ?_⟩
    exact hB
  have hB := hk
  refine ⟨fun hif1 => ?_, fun hif1 => ?_⟩
  · try replace hif1 := of_decide_eq_true hif1
    refine wss_cons (ws_ret (we_m1 PySem.F.slot_str_join PySem.F.type_str_join (we_str ?_)))
    refine ⟨_, rfl, ?_⟩
    refine we_lc [("line", 5)] [5] (fun _ _ _ _ _ => tgt_one (by decide) sc__law_given_table.nd) sc__law_given_table.nd (blkOk_by (by kernel_rfl)) (wi_seq (we_name 2 rfl ?_))
    refine ⟨_, .lst _, ?_⟩
    refine lc_map (dgR t e) (lI) (fun line => .str (rtx den line)) (rfl) (sz (by omega)) (fun x hx => .one _ _ _) (fun line hx s H cl Cc fp G C' hC => ?_) ?_
    · skip
      obtain ⟨hll, hs⟩ := hr line hx
      refine we_m1 PySem.F.slot_str_join PySem.F.type_str_join (we_str ?_)
      refine ⟨_, rfl, ?_⟩
      refine we_lc [("x", 4)] [4] (fun _ _ _ _ _ => tgt_one (by decide) sc__law_given_table.nd) sc__law_given_table.nd (blkOk_by (by kernel_rfl)) (wi_seq (we_name 5 rfl ?_))
      refine ⟨_, .lst _, ?_⟩
      refine lc_map (line) (D.int) (fun x => .str (ntx x.toNat den)) (rfl) (sz (by omega)) (fun x hx => .one _ _ _) (fun x hx s H cl Cc fp G C' hC => ?_) ?_
      · skip
        obtain ⟨n, rfl, hn⟩ := hs x hx
        refine we_call h__law_text (blkC (blkB B)).room (by decide) (blkC (blkB B)).tk (wa_cons (we_name 4 rfl (wa_cons (we_name 3 rfl (wa_nil ?_)))))
        refine ⟨n, den, rfl, hn, d1, d4, ?_⟩
        exact ⟨rfl, rfl⟩
      rw [show (line.map fun x => D.str (ntx x.toNat den)) = (line.map fun x => ntx x.toNat den).map D.str by rw [List.map_map]; rfl]
      refine ⟨_, .join _ _ (.v _) (by have := ntx_sum d1 d4 (by omega) hs; rw [List.length_map]; show _ + line.length * 1 ≤ 16777216; omega), ?_⟩
      exact ⟨rfl, rfl⟩
    rw [show ((dgR t e).map fun line => D.str (rtx den line)) = ((dgR t e).map (rtx den)).map D.str by rw [List.map_map]; rfl]
    refine ⟨_, .join _ _ (.v _) ?_, ?_⟩
    · have := sum_le (fun line => (rtx den line).length) 16 (dgR t e) fun line hm => rtx_len d1 d4 (by rw [(hr line hm).1]; exact t4) (hr line hm).2
      rw [List.map_map, List.length_map, hrl]
      rw [hrl] at this
      refine Nat.le_trans (Nat.add_le_add_right this _) ?_
      show t * 16 + t * 3 ≤ 16777216
      omega
    exact q _ _ (tab_txt he) hB
  try replace hif1 := of_decide_eq_false hif1
  refine wss_nil ?_
  refine wss_cons (ws_ret (we_lc [("line", 5)] [5] (fun _ _ _ _ _ => tgt_one (by decide) sc__law_given_table.nd) sc__law_given_table.nd (blkOk_by (by kernel_rfl)) (wi_seq (we_name 2 rfl ?_))))
  refine ⟨_, .lst _, ?_⟩
  refine lc_bx BxOk a (dgR t e) (lI) (fun pre acc => ∃ rs : List (D × List (D × (Int × Int))), acc = rs.map (·.1) ∧ (∀ r ∈ rs, RowOk r.1 r.2 ∧ r.2.length = t) ∧ plain rs = pre.map (plL den)) (rfl) (sz (by omega)) (fun x hx => .one _ _ _) (hB.same) (⟨[], rfl, fun r h => (nomatch h), rfl⟩) (fun pre3 line post3 acc3 hx3 hl3 hp3 s H cl Cc fp G C3 hB3 => ?_) (fun acc3 C3 hl3 hp3 hB3 => ?_)
  · skip
    obtain ⟨hll, hs⟩ := hr line (by rw [hx3]; simp)
    obtain ⟨rs, rfl, hrs, hpl⟩ := hp3
    refine we_call h__law_given_row (blkB B).room (by decide) (blkB B).tk (wa_cons (we_name 0 rfl (wa_cons (we_name 5 rfl (wa_cons (we_name 3 rfl (wa_nil ?_)))))))
    refine ⟨a, line, den, rfl, by omega, by omega, hs, d1, d4, hB3.has, fun d es C4 ho hes hB4 => ⟨hB4, rs ++ [(d, es)], ?_, ?_, ?_⟩⟩
    · rw [List.map_append]
      rfl
    · intro r hm
      rcases List.mem_append.mp hm with hm | hm
      · exact hrs r hm
      · rw [List.mem_singleton.mp hm]
        refine ⟨ho, ?_⟩
        have := congrArg List.length hes
        unfold plL at this
        rw [List.length_map, List.length_map] at this
        show es.length = t
        omega
    · unfold plain at hpl ⊢
      rw [List.map_append, List.map_append, hpl]
      show _ ++ [es.map (·.2)] = _
      rw [hes]
      rfl
  obtain ⟨rs, rfl, hrs, hpl⟩ := hp3
  refine q _ _ ⟨rs, e, den, he, ⟨.lst _ (fun z => ?_), ?_, hrs⟩, by rw [hpl]; exact dgR_pl⟩ (hB.trans hB3)
  · have := congrArg List.length z
    rw [hl3, List.length_nil] at this
    omega
  · have := hl3
    rw [List.length_map] at this
    omega
end K60
set_option Elab.async false
set_option linter.all false
set_option maxRecDepth 100000
set_option maxHeartbeats 4000000
namespace K60
open PySem PySem.Spec PyProof.Rows L2 Evl DW
local macro_rules | `(tactic| walk_at "seq") => `(tactic| first | exact .l (.v _) | exact .t _ | exact .r _ | exact .l (.c setC_same) | exact .l (.c (by assumption)))
local macro_rules | `(tactic| walk_at "lin") => `(tactic| first | exact .v _ | exact .c setC_same | exact .c (by assumption))
local macro_rules | `(tactic| walk_at "size") => `(tactic| first | (refine sz ?_; first | omega | (simp only [List.length_map, List.length_range, List.length_append, List.length_cons, List.length_nil, List.length_replicate] at *; omega)) | decide)
local macro_rules | `(tactic| walk_at "mulok") => `(tactic| first | exact mulR (by decide) (by decide) | exact mulL (by decide) (by decide) | assumption | exact mulL (by omega) (by omega) | exact mulR (by omega) (by omega))
local macro_rules | `(tactic| walk_at "op") => `(tactic| first
  | refine ⟨_, .add _ _, ?_⟩
  | refine ⟨_, .sub _ _, ?_⟩
  | refine ⟨_, .mul _ _ (by walk_at "mulok"), ?_⟩
  | refine ⟨_, .mod _ _ (by first | decide | omega | assumption), ?_⟩
  | refine ⟨_, .div _ _ (by first | decide | omega | assumption) (by first | decide | assumption), ?_⟩
  | refine ⟨_, .pow _ _ ⟨by decide, by decide, by decide⟩, ?_⟩
  | refine ⟨_, .adds _ _ (by walk_at "size"), ?_⟩
  | refine ⟨_, .catT _ _ (by walk_at "size"), ?_⟩
  | refine ⟨_, .cat (by walk_at "lin") (by walk_at "lin") (by walk_at "size"), ?_⟩
  | refine ⟨_, .rep _ (by walk_at "lin") (by first | decide | omega) (by first | decide | omega) (by walk_at "size"), ?_⟩)
local macro_rules | `(tactic| walk_at "cmp") => `(tactic| first
  | refine ⟨_, .lt _ _, ?_⟩ | refine ⟨_, .le _ _, ?_⟩ | refine ⟨_, .gt _ _, ?_⟩ | refine ⟨_, .ge _ _, ?_⟩
  | refine ⟨_, .eqI _ _, ?_⟩ | refine ⟨_, .neI _ _, ?_⟩ | refine ⟨_, .eqS _ _, ?_⟩ | refine ⟨_, .neS _ _, ?_⟩ | refine ⟨_, .eqB _ _, ?_⟩ | refine ⟨_, .neB _ _, ?_⟩
  | refine ⟨_, .isN, ?_⟩ | refine ⟨_, .ntN, ?_⟩ | refine ⟨_, .isC, ?_⟩ | refine ⟨_, .ntC, ?_⟩ | refine ⟨_, .isNo trivial, ?_⟩ | refine ⟨_, .ntNo trivial, ?_⟩)
local macro_rules | `(tactic| walk_at "ix") => `(tactic| first | refine ⟨_, .seq (by walk_at "seq") rfl, ?_⟩)
local macro_rules | `(tactic| walk_at "slc") => `(tactic| first | refine ⟨_, .lst _ _ (by walk_at "lin"), ?_⟩ | refine ⟨_, .tup _ _ _, ?_⟩ | refine ⟨_, .rol _ _ _, ?_⟩ | refine ⟨_, .str _ _ _ (by walk_at "size"), ?_⟩)
local macro_rules | `(tactic| walk_at "blt") => `(tactic| first
  | refine ⟨_, .len (by walk_at "seq"), ?_⟩ | refine ⟨_, .lenS _ (by walk_at "size"), ?_⟩ | refine ⟨_, .abs _, ?_⟩ | refine ⟨_, .max2 _ _ rfl, ?_⟩ | refine ⟨_, .min2 _ _ rfl, ?_⟩
  | refine ⟨_, .int _, ?_⟩ | refine ⟨_, .intB _, ?_⟩ | refine ⟨_, .bool _, ?_⟩ | refine ⟨_, .boolI _, ?_⟩
  | refine ⟨_, .sum _ (by walk_at "lin") rfl, ?_⟩ | refine ⟨_, .all _ (by walk_at "lin") rfl, ?_⟩ | refine ⟨_, .any _ (by walk_at "lin") rfl, ?_⟩
  | refine ⟨_, .list (by walk_at "seq"), ?_⟩ | refine ⟨_, .tuple (by walk_at "lin"), ?_⟩ | refine ⟨_, .tupleT _, ?_⟩)
local macro_rules | `(tactic| walk_at "sub") => `(tactic| (refine ⟨_, _, _, _, rfl, rfl, (by first | exact setC_same | assumption), rfl, ?_⟩; try rw [setC_setC]))
local macro_rules | `(tactic| walk_at "fun") => `(tactic| first | refine ⟨_, .gcd _ _, ?_⟩ | refine ⟨_, .lcm _ _ (by assumption) (by assumption), ?_⟩ | refine ⟨_, .lcm _ _ (by omega) (by omega), ?_⟩ | refine ⟨_, .comb _ _ (by omega) (by omega) (by omega) (by omega), ?_⟩)
local macro_rules | `(tactic| walk_at "sizelt") => `(tactic| first | (refine szlt ?_; first | omega | (simp only [List.length_map, List.length_range, List.length_append, List.length_cons, List.length_nil, List.length_replicate] at *; omega)) | decide)
local macro_rules | `(tactic| walk_at "meth") => `(tactic| first | refine ⟨_, .startswith _ _, ?_⟩ | refine ⟨_, .strip _ _ (by walk_at "size"), ?_⟩ | refine ⟨_, .partition _ _ rfl (by walk_at "size"), ?_⟩ | refine ⟨_, .split _ _ rfl (by walk_at "size"), ?_⟩)
local macro_rules | `(tactic| walk_at "tsz") => `(tactic| first | decide | exact sz (by simp))
local macro_rules | `(tactic| walk_at "jsz") => `(tactic| first | decide | walk_at "size" | (refine sz ?_; simp; omega))
local macro_rules | `(tactic| walk_at "log") => `(tactic| first | assumption | omega)
abbrev SG : Str := "abcdefghijklmnopqrstuvwxyz0123456789"
abbrev sgs : List Nat := SG.cps.toList
abbrev sing (c : Nat) : Str := ⟨#[c]⟩
theorem sg_len : sgs.length = 36 := by decide +kernel
theorem sg_al : ∀ c ∈ sgs, c ∈ (LT ++ DG).cps.toList := by decide +kernel
theorem sg_lt : ∀ r : Nat, r < 26 → sgs.getD r 0 ∈ LT.cps.toList := by decide +kernel
theorem sg_at {r : Nat} (h : r < 36) : atI sgs (r : Int) = some (sgs.getD r 0) ∧ sgs.getD r 0 ∈ sgs := by
  have hl : r < sgs.length := by rw [sg_len]; exact h
  refine ⟨?_, DW.getD_mem hl⟩
  unfold atI
  rw [ixN_nat (by omega) (by omega), Option.bind_some, Int.toNat_natCast, List.getD_eq_getElem?_getD, List.getElem?_eq_getElem hl]
  rfl
theorem len_cps (x : Str) : x.cps.toList.length = x.length := by simp [Str.length]
theorem cps_app (x y : Str) : (x ++ y).cps.toList = x.cps.toList ++ y.cps.toList := TL.tl_append x y
theorem cps_cut1 (x : Str) (n : Nat) : (cutS x none (some ((n : Nat) : Int))).cps.toList = x.cps.toList.take n := by
  unfold cutS
  rw [HT.sIx_none, HT.sIx_nat, List.drop_zero, Nat.sub_zero]
  show x.cps.toList.take (min n x.length) = _
  rcases Nat.le_total n x.length with h | h
  · rw [Nat.min_eq_left h]
  · rw [Nat.min_eq_right h, List.take_of_length_le (by rw [len_cps]; exact Nat.le_refl _), List.take_of_length_le (by rw [len_cps]; exact h)]
theorem cps_cut2 (x : Str) (n : Nat) : (cutS x (some ((n : Nat) : Int)) none).cps.toList = x.cps.toList.drop n := by
  unfold cutS
  rw [HT.sIx_none, HT.sIx_nat]
  show (x.cps.toList.drop (min n x.length)).take (x.length - min n x.length) = _
  rcases Nat.le_total n x.length with h | h
  · rw [Nat.min_eq_left h]
    exact List.take_of_length_le (by rw [List.length_drop, len_cps]; exact Nat.le_refl _)
  · rw [Nat.min_eq_right h, List.drop_of_length_le (by rw [len_cps]; exact Nat.le_refl _), List.drop_of_length_le (by rw [len_cps]; exact h)]
    exact List.take_nil
theorem nm_of {x : Str} {c : Nat} {l : List Nat} (e : x.cps.toList = c :: l) (hl : l.length ≤ 11) (hc : c ∈ LT.cps.toList) (ha : ∀ d ∈ c :: l, d ∈ (LT ++ DG).cps.toList) : NmOk x := by
  have h1 := len_cps x
  rw [e, List.length_cons] at h1
  refine ⟨by omega, by omega, ⟨c, ?_, hc⟩, by rw [e]; exact ha⟩
  rw [e]
  unfold atI
  rw [ixN_nat (by decide) (by rw [List.length_cons]; omega)]
  rfl
theorem nm_head {x : Str} (h : NmOk x) : ∃ c l, x.cps.toList = c :: l ∧ l.length ≤ 11 ∧ c ∈ LT.cps.toList := by
  obtain ⟨h1, h2, ⟨c, hc, hcl⟩, h4⟩ := h
  have hl := len_cps x
  cases e : x.cps.toList with
  | nil =>
    rw [e] at hl
    simp at hl
    omega
  | cons d l =>
    rw [e, List.length_cons] at hl
    rw [e] at hc
    unfold atI at hc
    rw [ixN_nat (by decide) (by rw [List.length_cons]; omega)] at hc
    have : d = c := by simpa using hc
    exact ⟨d, l, rfl, by omega, by rw [this]; exact hcl⟩
theorem nm_change {x : Str} {i c : Nat} (h : NmOk x) (hi : i < x.length) (hc : c ∈ sgs) (h0 : i = 0 → c ∈ LT.cps.toList) : NmOk (cutS x none (some ((i : Nat) : Int)) ++ sing c ++ cutS x (some ((i : Nat) : Int) |>.map (· + 1)) none) := by
  show NmOk (cutS x none (some ((i : Nat) : Int)) ++ sing c ++ cutS x (some (((i : Nat) : Int) + 1)) none)
  obtain ⟨d, l, e, hl, hd⟩ := nm_head h
  have hal := h.al
  have hln := len_cps x
  rw [e, List.length_cons] at hln
  have e2 : (cutS x none (some ((i : Nat) : Int)) ++ sing c ++ cutS x (some (((i : Nat) : Int) + 1)) none).cps.toList = (d :: l).take i ++ c :: (d :: l).drop (i + 1) := by
    rw [cps_app, cps_app, cps_cut1, show ((i : Nat) : Int) + 1 = ((i + 1 : Nat) : Int) by omega, cps_cut2, e]
    show ((d :: l).take i ++ [c]) ++ _ = _
    rw [List.append_assoc]
    rfl
  rw [e] at hal
  cases i with
  | zero =>
    rw [List.take_zero, List.nil_append] at e2
    refine nm_of e2 (by rw [List.length_drop, List.length_cons]; omega) (h0 rfl) fun y hy => ?_
    rcases List.mem_cons.mp hy with rfl | hy
    · exact sg_al _ hc
    · exact hal y (List.mem_of_mem_drop hy)
  | succ i =>
    rw [List.take_succ_cons, List.cons_append] at e2
    refine nm_of e2 (by rw [List.length_append, List.length_take, List.length_cons, List.length_drop, List.length_cons]; omega) hd fun y hy => ?_
    rcases List.mem_cons.mp hy with rfl | hy
    · exact hal _ List.mem_cons_self
    · rcases List.mem_append.mp hy with hy | hy
      · exact hal y (List.mem_cons_of_mem _ (List.mem_of_mem_take hy))
      · rcases List.mem_cons.mp hy with rfl | hy
        · exact sg_al _ hc
        · exact hal y (List.mem_of_mem_drop hy)
theorem join_sing (cs : List Nat) : (Txt.join "" (cs.map sing)).cps.toList = cs := by
  have h := TL.tl_join "" (cs.map sing)
  rw [← TL.join_eq] at h
  rw [show (Txt.join "" (cs.map sing)).cps.toList = TL.tl (Txt.join "" (cs.map sing)) from rfl, h]
  have : ∀ l : List Nat, TL.joinL (TL.tl "") ((l.map sing).map TL.tl) = l := by
    intro l
    induction l with
    | nil => rfl
    | cons c l ih =>
      cases l with
      | nil => rfl
      | cons d l =>
        show [c] ++ (TL.tl "" ++ TL.joinL (TL.tl "") (((d :: l).map sing).map TL.tl)) = c :: d :: l
        rw [ih]
        rfl
  exact this cs
theorem nm_new {c : Nat} {cs : List Nat} (hc : c ∈ LT.cps.toList) (hc2 : c ∈ sgs) (hcs : ∀ d ∈ cs, d ∈ sgs) (hl : cs.length ≤ 11) : NmOk (sing c ++ Txt.join "" (cs.map sing)) := by
  refine nm_of (c := c) (l := cs) ?_ hl hc fun d hd => ?_
  · rw [cps_app, join_sing]
    rfl
  · rcases List.mem_cons.mp hd with rfl | hd
    · exact sg_al _ hc2
    · exact sg_al _ (hcs d hd)
def kx (j : Nat) : Str := "k" ++ strRep "x" (j : Int)
theorem kx_ok : ∀ j : Nat, j < 8 → (kx j).cps.toList = 107 :: List.replicate j 120 := by decide +kernel
theorem kx_nm {j : Nat} (h : j < 8) : NmOk (kx j) := by
  refine nm_of (kx_ok j h) (by rw [List.length_replicate]; omega) (by decide) fun d hd => ?_
  rcases List.mem_cons.mp hd with rfl | hd
  · decide
  · rw [List.eq_of_mem_replicate hd]
    decide
theorem kx_inj {i j : Nat} (hi : i < 8) (hj : j < 8) (h : kx i = kx j) : i = j := by
  have e := congrArg (fun x : Str => x.cps.toList.length) h
  simp only [kx_ok i hi, kx_ok j hj, List.length_cons, List.length_replicate] at e
  omega
theorem kx_len : ∀ j : Nat, j < 8 → (strRep "x" (j : Int)).length ≤ 8 := by decide +kernel
theorem nodup_le {α : Type} [DecidableEq α] : ∀ (l m : List α), l.Nodup → (∀ x ∈ l, x ∈ m) → l.length ≤ m.length
  | [], m, _, _ => Nat.zero_le _
  | x :: l, m, h, hs => by
    have hx := hs x List.mem_cons_self
    have h1 := List.nodup_cons.mp h
    have h2 := nodup_le l (m.erase x) h1.2 fun y hy => (List.mem_erase_of_ne fun e => h1.1 (by rw [← e]; exact hy)).mpr (hs y (List.mem_cons_of_mem _ hy))
    have h3 := List.length_erase_of_mem hx
    have h4 := List.length_pos_of_mem hx
    rw [List.length_cons]
    omega
theorem kx_free {ns : List Str} (hl : ns.length ≤ 5) (h : ∀ i, i < 8 → kx i ∈ ns) : False := by
  have hn : ((List.range 8).map kx).Nodup := by
    refine List.Pairwise.map kx (R := fun i j => i < 8 ∧ j < 8 ∧ i ≠ j) (fun i j h e => h.2.2 (kx_inj h.1 h.2.1 e)) ?_
    decide
  have := nodup_le _ ns hn fun x hx => by
    obtain ⟨i, hi, rfl⟩ := List.mem_map.mp hx
    exact h i (List.mem_range.mp hi)
  rw [List.length_map, List.length_range] at this
  omega
def szL : List Nat := [0, 1, 0, 2, 1, 4, 11, 0]
theorem sz_at : ∀ r : Nat, r < 8 → atI (szL.map natD) (r : Int) = some (natD (szL.getD r 0)) ∧ szL.getD r 0 ≤ 11 := by
  intro r h
  have hl : r < szL.length := h
  refine ⟨by rw [atI_map 0 (by omega) (by omega), Int.toNat_natCast], ?_⟩
  have : ∀ r : Nat, r < 8 → szL.getD r 0 ≤ 11 := by decide
  exact this r h
theorem sc__law_names : FnScope ["box", "many", "names", "signs", "k", "old", "at", "word", "size", "j"] ["box", "many"] (defScope s__law_names) := ⟨rfl, rfl, rfl, by decide +kernel, rfl, by decide +kernel, by decide +kernel⟩
def sp__law_names : PreD := fun ds C R RX => ∃ (a : Addr) (m : Nat), ds = [.cell a, natD m] ∧ m ≤ 6 ∧ HasB C a ∧ ∀ (ns : List Str) (C' : Cells), ns.length = m → ns.Nodup → (∀ n ∈ ns, NmOk n) → BxC a C C' → R (.lst (ns.map D.str)) C'
theorem ok__law_names {P : Program} {w : World} {K : PySem.W.Frag} {tt : List (Addr × Str)} {mg : Str → Option Value} {base : Heap} {f : Addr} {fd : FuncData} (F : FnP K "_law_names" s__law_names f fd) (T : Txt K w mg) (h__law_draw : HasF P w K tt mg base "_law_draw" ["box", "size"] 1 sp__law_draw) : FnOk P w K mg base (L2.CX P w) 2 f fd ["box", "many"] (SpD K tt sp__law_names) := by
  refine body_ok F sc__law_names (fun ds C R RX hp => by (obtain ⟨a, m, rfl, hm, hb, q⟩ := hp; rfl)) fun cdv A outer s H E G0 ds C R RX B hp => ?_
  obtain ⟨a, m, rfl, hm, hb, q⟩ := hp
  refine wss_cons (ws_set 2 ?_ sc__law_names.nd)
  refine we_nilC ?_
  intro p hp
  refine wss_cons (ws_set 3 ?_ sc__law_names.nd)
  refine we_str ?_
  refine wss_cons (ws_forL ?_ B.po)
  refine wi_range1 T.range (wa_cons (we_name 1 rfl (wa_nil ?_)))
  refine ⟨_, rfl, ⟨by omega, by omega⟩, ?_⟩
  rw [Int.toNat_natCast, rangeD0]
  refine ⟨_, List.range m, natD, fun pre σ' C' => ∃ (o4 o5 o6 o7 o8 o9 : Option D) (ns : List Str), σ' = [some (.cell a), some (natD m), some (.cell p), some (.str SG), o4, o5, o6, o7, o8, o9] ∧ C' p = some (.lst (ns.map D.str)) ∧ BxC a C C' ∧ ns.length = pre.length ∧ ns.Nodup ∧ ∀ n ∈ ns, NmOk n, rfl, ?_, fun G1 hG1 pre1 it1 post1 σ' C' hx1 hI => ?_, fun σ' C' hI => ?_⟩
  · exact ⟨_, _, _, _, _, _, [], rfl, setC_same, hb.bx.new hp, rfl, List.nodup_nil, fun n h => nomatch h⟩
  · obtain ⟨o4, o5, o6, o7, o8, o9, ns, rfl, hcp, hB, hnl, hnd, hnm⟩ := hI
    obtain ⟨ei, hlt⟩ := range_split hx1
    have hpa : p ≠ a := hb.bx.none_ne hp
    refine wg_name 4 ?_ sc__law_names.nd
    refine wss_cut (M := (fun σ' Ca => ∃ (o5 o6 o8 o9 : Option D) (w : Str), NmOk w ∧ σ' = [some (.cell a), some (natD m), some (.cell p), some (.str SG), some (natD it1), o5, o6, some (.str w), o8, o9] ∧ Ca p = some (.lst (ns.map D.str)) ∧ BxC a C Ca)) ?_ (fun σ' C' hM => ?_)
    · skip
      refine ws_if ?_
      refine WT.mono (Q := fun k Ca => BxC a C Ca ∧ Ca p = some (.lst (ns.map D.str)) ∧ (k = true → ns ≠ [])) ?_ (fun k C1 hk => ?_)
      · skip
        refine wt_w (ww_and (wt_tru (we_name 2 rfl ?_)))
        refine ⟨_, .seq (.l (.c hcp)), ?_⟩
        refine ⟨fun hsc1 => ?_, fun hsc1 => ?_⟩
        rotate_left
        · try replace hsc1 := of_decide_eq_false hsc1
          exact ⟨hB, hcp, fun z => Bool.noConfusion z⟩
        try replace hsc1 := of_decide_eq_true hsc1
        refine ww_and1 (wt_cmp (we_call h__law_draw (B.base hG1).room (by decide) (B.base hG1).tk (wa_cons (we_name 0 rfl (wa_cons (we_int (wa_nil ?_)))))))
        refine ⟨a, 4, rfl, by decide, by decide, hB.has, fun r Cb hr hBb => ?_⟩
        refine we_int ?_
        walk_at "cmp"
        refine ⟨hB.trans hBb, hBb.keep _ _ hpa hcp, fun _ e => ?_⟩
        rw [e] at hsc1
        cases hsc1
      obtain ⟨hBa, hcpa, hne⟩ := hk
      refine ⟨fun hif1 => ?_, fun hif1 => ?_⟩
      · try replace hif1 := of_decide_eq_true hif1
        refine wss_cons (ws_set 5 ?_ sc__law_names.nd)
        refine we_ix (we_name 2 rfl (we_call h__law_draw (B.base hG1).room (by decide) (B.base hG1).tk (wa_cons (we_name 0 rfl (wa_cons (we_blt (id := "len") T.len (wa_cons (we_name 2 rfl (wa_nil ?_)))))))))
        refine ⟨_, .len (.l (.c hcpa)), ?_⟩
        refine wa_nil ?_
        have hnp : 0 < ns.length := List.length_pos_iff.mpr (hne hif1)
        refine ⟨a, ns.length, by rw [List.length_map]; rfl, hnp, by omega, hBa.has, fun r Cb hr hBb => ?_⟩
        have hcpb := hBb.keep _ _ hpa hcpa
        have ho := hnm _ (DW.getD_mem (d := ("" : Str)) hr)
        refine ⟨.str (ns.getD r ""), .seq (.l (.c hcpb)) (by rw [atI_map ("" : Str) (by omega) (by omega), Int.toNat_natCast]), ?_⟩
        generalize ns.getD r "" = old at ho
        refine wss_cons (ws_set 6 ?_ sc__law_names.nd)
        refine we_call h__law_draw (B.base hG1).room (by decide) (B.base hG1).tk (wa_cons (we_name 0 rfl (wa_cons (we_blt (id := "len") T.len (wa_cons (we_name 5 rfl (wa_nil ?_)))))))
        refine ⟨_, .lenS _ (sz (by have := ho.l2; omega)), ?_⟩
        refine wa_nil ?_
        refine ⟨a, old.length, rfl, ho.l1, by have := ho.l2; omega, (hBa.trans hBb).has, fun i Cc hi hBc => ?_⟩
        refine wss_cons (ws_set 7 ?_ sc__law_names.nd)
        refine we_bin (we_bin (we_slice (we_name 5 rfl (we_name 6 rfl ?_))))
        refine ⟨_, rfl, ?_⟩
        refine ⟨_, .str _ _ _ (sz (by have := ho.l2; omega)), ?_⟩
        refine we_ix (we_name 3 rfl (we_call h__law_draw (B.base hG1).room (by decide) (B.base hG1).tk (wa_cons (we_name 0 rfl (wa_cons (we_bin (we_int (we_bin (we_int (we_ty (T := "int") T.int (wa_cons (we_cmp (we_name 6 rfl (we_int ?_))))))))))))))
        walk_at "cmp"
        refine wa_nil ?_
        walk_at "blt"
        walk_at "op"
        walk_at "op"
        refine wa_nil ?_
        refine ⟨a, if i = 0 then 26 else 36, ?_, by split <;> decide, by split <;> decide, ((hBa.trans hBb).trans hBc).has, fun g Cd hg hBd => ?_⟩
        · by_cases h0 : i = 0
          · rw [if_pos h0, h0]
            rfl
          · rw [if_neg h0, decide_eq_false (by omega)]
            rfl
        have hg36 : g < 36 := by split at hg <;> omega
        obtain ⟨hga, hgm⟩ := sg_at hg36
        refine ⟨_, .str (sz (by decide)) hga, ?_⟩
        refine ⟨_, .adds _ _ (sz (Nat.le_trans (Nat.add_le_add_right (cutS_length _ _ _) _) (by have := ho.l2; show old.length + 1 ≤ 16777216; omega))), ?_⟩
        refine we_slice (we_name 5 rfl (we_bin (we_name 6 rfl (we_int ?_))))
        walk_at "op"
        refine ⟨_, rfl, ?_⟩
        refine ⟨_, .str _ _ _ (sz (by have := ho.l2; omega)), ?_⟩
        refine ⟨_, .adds _ _ (sz (by rw [Str.length_append]; exact Nat.le_trans (Nat.add_le_add (Nat.add_le_add_right (cutS_length _ _ _) _) (cutS_length _ _ _)) (by have := ho.l2; show old.length + 1 + old.length ≤ 16777216; omega))), ?_⟩
        refine wss_nil ?_
        refine ⟨_, _, _, _, _, nm_change ho hi hgm (fun h0 => sg_lt g (by rw [if_pos h0] at hg; exact hg)), rfl, hBd.keep _ _ hpa (hBc.keep _ _ hpa hcpb), ((hBa.trans hBb).trans hBc).trans hBd⟩
      try replace hif1 := of_decide_eq_false hif1
      refine wss_cons (ws_set 8 ?_ sc__law_names.nd)
      refine we_ix (we_tup (wa_cons (we_int (wa_cons (we_int (wa_cons (we_int (wa_cons (we_int (wa_cons (we_int (wa_cons (we_int (wa_cons (we_int (wa_cons (we_int (wa_nil ?_))))))))))))))))))
      refine ⟨by walk_at "tsz", ?_⟩
      refine we_call h__law_draw (B.base hG1).room (by decide) (B.base hG1).tk (wa_cons (we_name 0 rfl (wa_cons (we_int (wa_nil ?_)))))
      refine ⟨a, 8, rfl, by decide, by decide, hBa.has, fun r Cb hr hBb => ?_⟩
      obtain ⟨hs1, hs2⟩ := sz_at r hr
      refine ⟨natD (szL.getD r 0), .seq (.t _) hs1, ?_⟩
      generalize szL.getD r 0 = z at hs2
      refine wss_cons (ws_set 7 ?_ sc__law_names.nd)
      refine we_bin (we_ix (we_name 3 rfl (we_call h__law_draw (B.base hG1).room (by decide) (B.base hG1).tk (wa_cons (we_name 0 rfl (wa_cons (we_int (wa_nil ?_))))))))
      refine ⟨a, 26, rfl, by decide, by decide, (hBa.trans hBb).has, fun g Cc hg hBc => ?_⟩
      obtain ⟨hga, hgm⟩ := sg_at (r := g) (by omega)
      refine ⟨_, .str (sz (by decide)) hga, ?_⟩
      refine we_m1 PySem.F.slot_str_join PySem.F.type_str_join (we_str ?_)
      refine ⟨_, rfl, ?_⟩
      refine we_lc [("j", 9)] [9] (fun _ _ _ _ _ => tgt_one (by decide) sc__law_names.nd) sc__law_names.nd (blkOk_by (by kernel_rfl)) (wi_range1 T.range (wa_cons (we_name 8 rfl (wa_nil ?_))))
      refine ⟨_, rfl, ⟨by omega, by omega⟩, ?_⟩
      rw [Int.toNat_natCast, rangeD0]
      refine lc_bx BxOk a (List.range z) (natD) (fun pre acc => ∃ cs : List Nat, acc = cs.map (fun c => D.str (sing c)) ∧ ∀ c ∈ cs, c ∈ sgs) (rfl) (sz (by rw [List.length_range]; omega)) (fun x hx => .one _ _ _) (((hBa.trans hBb).trans hBc).same) (⟨[], rfl, fun c h => nomatch h⟩) (fun pre1 j post1 acc1 hx1 hl1 hp1 s H cl Cc fp G C1 hB1 => ?_) (fun acc1 C1 hl1 hp1 hB1 => ?_)
      · skip
        obtain ⟨cs, rfl, hcs⟩ := hp1
        refine we_ix (we_name 3 rfl (we_call h__law_draw (blkB (B.base hG1)).room (by decide) (blkB (B.base hG1)).tk (wa_cons (we_name 0 rfl (wa_cons (we_int (wa_nil ?_)))))))
        refine ⟨a, 36, rfl, by decide, by decide, hB1.has, fun g2 Cd hg2 hBd => ?_⟩
        obtain ⟨hga2, hgm2⟩ := sg_at hg2
        refine ⟨_, .str (sz (by decide)) hga2, ?_⟩
        refine ⟨hBd, cs ++ [sgs.getD g2 0], by rw [List.map_append]; rfl, fun c hc => ?_⟩
        rcases List.mem_append.mp hc with hc | hc
        · exact hcs c hc
        · rw [List.mem_singleton.mp hc]
          exact hgm2
      obtain ⟨cs, rfl, hcs⟩ := hp1
      rw [List.length_map, List.length_range] at hl1
      rw [show (cs.map fun c => D.str (sing c)) = (cs.map sing).map D.str by rw [List.map_map]; rfl]
      refine ⟨_, .join _ _ (.v _) (by
        have := sum_le (fun c : Nat => (sing c).length) 1 cs (fun c _ => Nat.le_refl 1)
        rw [List.map_map, List.length_map]
        refine Nat.le_trans (Nat.add_le_add_right this _) ?_
        show cs.length * 1 + cs.length * 0 ≤ 16777216
        omega), ?_⟩
      have hjl : (Txt.join "" (cs.map sing)).length = cs.length := by rw [← len_cps, join_sing]
      refine ⟨_, .adds _ _ (sz (by rw [hjl]; show 1 + cs.length ≤ 16777216; omega)), ?_⟩
      refine wss_nil ?_
      refine ⟨_, _, _, _, _, nm_new (sg_lt g hg) hgm hcs (by omega), rfl, hB1.keep _ _ hpa (hBc.keep _ _ hpa (hBb.keep _ _ hpa hcpa)), ((hBa.trans hBb).trans hBc).trans hB1⟩
    obtain ⟨o5, o6, o8, o9, w, hw, rfl, hcpb, hBb⟩ := hM
    refine wss_cons (ws_forL ?_ (B.base hG1).po)
    refine wi_range1 T.range (wa_cons (we_int (wa_nil ?_)))
    refine ⟨8, rfl, ⟨by decide, by decide⟩, ?_⟩
    rw [show (8 : Int).toNat = 8 from rfl, rangeD0]
    refine ⟨_, List.range 8, natD, fun pre σ' C' => ∃ (w : Str) (o9 : Option D), σ' = [some (.cell a), some (natD m), some (.cell p), some (.str SG), some (natD it1), o5, o6, some (.str w), o8, o9] ∧ C' p = some (.lst (ns.map D.str)) ∧ BxC a C C' ∧ NmOk w ∧ (w ∈ ns → (∀ i, i + 1 < pre.length → kx i ∈ ns) ∧ (0 < pre.length → w = kx (pre.length - 1))), rfl, ?_, fun G2 hG2 pre2 it2 post2 σ' C' hx2 hI => ?_, fun σ' C' hI => ?_⟩
    · exact ⟨w, _, rfl, hcpb, hBb, hw, fun _ => ⟨fun i h => absurd h (by simp), fun h => absurd h (by simp)⟩⟩
    · obtain ⟨w, o9, rfl, hcpb, hBb, hw, hwi⟩ := hI
      obtain ⟨ej, hjt⟩ := range_split hx2
      subst ej
      refine wg_name 9 ?_ sc__law_names.nd
      refine wss_cons (ws_if (wt_cmp (we_name 7 rfl (we_name 2 rfl ?_))))
      refine ⟨_, .inSeq (.l (.c hcpb)) rfl flat_strs, ?_⟩
      rw [in_strs]
      refine ⟨fun hif2 => ?_, fun hif2 => ?_⟩
      · try replace hif2 := of_decide_eq_true hif2
        refine wss_cons (ws_set 7 ?_ sc__law_names.nd)
        refine we_bin (we_str (we_repS (we_str (we_name 9 rfl ?_))))
        refine ⟨_, _, rfl, rfl, by decide, by omega, by omega, ?_⟩
        refine ⟨_, .adds _ _ (sz (Nat.le_trans (Nat.add_le_add_left (kx_len _ hjt) _) (by decide))), ?_⟩
        refine wss_nil ?_
        refine wss_nil ?_
        refine ⟨kx pre2.length, some (natD pre2.length), rfl, hcpb, hBb, kx_nm hjt, fun hk => ⟨fun i hi => ?_, fun _ => by rw [List.length_append, List.length_singleton, Nat.add_sub_cancel]⟩⟩
        rw [List.length_append, List.length_singleton] at hi
        obtain ⟨h1, h2⟩ := hwi hif2
        by_cases h3 : i + 1 < pre2.length
        · exact h1 i h3
        · have h4 := h2 (by omega)
          rw [show i = pre2.length - 1 by omega, ← h4]
          exact hif2
      try replace hif2 := of_decide_eq_false hif2
      refine wss_nil ?_
      refine wss_nil ?_
      exact ⟨w, some (natD pre2.length), rfl, hcpb, hBb, hw, fun hk => absurd hk hif2⟩
    obtain ⟨w, o9, rfl, hcpb, hBb, hw, hwi⟩ := hI
    have hfr : w ∉ ns := fun hk => by
      obtain ⟨h1, h2⟩ := hwi hk
      rw [List.length_range] at h1 h2
      refine kx_free (ns := ns) (by omega) fun i hi => ?_
      by_cases h3 : i + 1 < 8
      · exact h1 i h3
      · rw [show i = 7 by omega, ← h2 (by decide)]
        exact hk
    refine wss_cons (ws_expr (we_append (we_name 2 rfl ?_)))
    refine ⟨_, rfl, ⟨_, by first | assumption | exact setC_same⟩, ?_⟩
    refine we_name 7 rfl ?_
    refine ⟨_, hcpb, szlt (by rw [List.length_map]; omega), ?_⟩
    refine wss_nil ?_
    refine ⟨_, _, _, _, _, _, ns ++ [w], rfl, by rw [setC_same, List.map_append]; rfl, hBb.loc hp hpa, by rw [List.length_append, List.length_append, hnl]; rfl, ?_, fun n hn => ?_⟩
    · refine List.nodup_append.mpr ⟨hnd, by simp, fun x hx y hy e => ?_⟩
      rw [List.mem_singleton.mp hy] at e
      exact hfr (e ▸ hx)
    · rcases List.mem_append.mp hn with hn | hn
      · exact hnm n hn
      · rw [List.mem_singleton.mp hn]
        exact hw
  obtain ⟨o4, o5, o6, o7, o8, o9, ns, rfl, hcp, hB, hnl, hnd, hnm⟩ := hI
  have hpa : p ≠ a := hb.bx.none_ne hp
  rw [List.length_range] at hnl
  refine wss_cons (ws_ret (we_freeze (we_name 2 rfl ?_)))
  refine ⟨p, _, rfl, hcp, ?_⟩
  exact q ns _ hnl hnd hnm (hB.del hp hpa)
end K60
set_option Elab.async false
set_option linter.all false
set_option maxRecDepth 100000
set_option maxHeartbeats 4000000
namespace K60
open PySem PySem.Spec PyProof.Rows L2 Evl DW
local macro_rules | `(tactic| walk_at "seq") => `(tactic| first | exact .l (.v _) | exact .t _ | exact .r _ | exact .l (.c setC_same) | exact .l (.c (by assumption)))
local macro_rules | `(tactic| walk_at "lin") => `(tactic| first | exact .v _ | exact .c setC_same | exact .c (by assumption))
local macro_rules | `(tactic| walk_at "size") => `(tactic| first | (refine sz ?_; first | omega | (simp only [List.length_map, List.length_range, List.length_append, List.length_cons, List.length_nil, List.length_replicate] at *; omega)) | decide)
local macro_rules | `(tactic| walk_at "mulok") => `(tactic| first | exact mulR (by decide) (by decide) | exact mulL (by decide) (by decide) | assumption | exact mulL (by omega) (by omega) | exact mulR (by omega) (by omega))
local macro_rules | `(tactic| walk_at "op") => `(tactic| first
  | refine ⟨_, .add _ _, ?_⟩
  | refine ⟨_, .sub _ _, ?_⟩
  | refine ⟨_, .mul _ _ (by walk_at "mulok"), ?_⟩
  | refine ⟨_, .mod _ _ (by first | decide | omega | assumption), ?_⟩
  | refine ⟨_, .div _ _ (by first | decide | omega | assumption) (by first | decide | assumption), ?_⟩
  | refine ⟨_, .pow _ _ ⟨by decide, by decide, by decide⟩, ?_⟩
  | refine ⟨_, .adds _ _ (by walk_at "size"), ?_⟩
  | refine ⟨_, .catT _ _ (by walk_at "size"), ?_⟩
  | refine ⟨_, .cat (by walk_at "lin") (by walk_at "lin") (by walk_at "size"), ?_⟩
  | refine ⟨_, .rep _ (by walk_at "lin") (by first | decide | omega) (by first | decide | omega) (by walk_at "size"), ?_⟩)
local macro_rules | `(tactic| walk_at "cmp") => `(tactic| first
  | refine ⟨_, .lt _ _, ?_⟩ | refine ⟨_, .le _ _, ?_⟩ | refine ⟨_, .gt _ _, ?_⟩ | refine ⟨_, .ge _ _, ?_⟩
  | refine ⟨_, .eqI _ _, ?_⟩ | refine ⟨_, .neI _ _, ?_⟩ | refine ⟨_, .eqS _ _, ?_⟩ | refine ⟨_, .neS _ _, ?_⟩ | refine ⟨_, .eqB _ _, ?_⟩ | refine ⟨_, .neB _ _, ?_⟩
  | refine ⟨_, .isN, ?_⟩ | refine ⟨_, .ntN, ?_⟩ | refine ⟨_, .isC, ?_⟩ | refine ⟨_, .ntC, ?_⟩ | refine ⟨_, .isNo trivial, ?_⟩ | refine ⟨_, .ntNo trivial, ?_⟩)
local macro_rules | `(tactic| walk_at "ix") => `(tactic| first | refine ⟨_, .seq (by walk_at "seq") rfl, ?_⟩)
local macro_rules | `(tactic| walk_at "slc") => `(tactic| first | refine ⟨_, .lst _ _ (by walk_at "lin"), ?_⟩ | refine ⟨_, .tup _ _ _, ?_⟩ | refine ⟨_, .rol _ _ _, ?_⟩ | refine ⟨_, .str _ _ _ (by walk_at "size"), ?_⟩)
local macro_rules | `(tactic| walk_at "blt") => `(tactic| first
  | refine ⟨_, .len (by walk_at "seq"), ?_⟩ | refine ⟨_, .lenS _ (by walk_at "size"), ?_⟩ | refine ⟨_, .abs _, ?_⟩ | refine ⟨_, .max2 _ _ rfl, ?_⟩ | refine ⟨_, .min2 _ _ rfl, ?_⟩
  | refine ⟨_, .int _, ?_⟩ | refine ⟨_, .intB _, ?_⟩ | refine ⟨_, .bool _, ?_⟩ | refine ⟨_, .boolI _, ?_⟩
  | refine ⟨_, .sum _ (by walk_at "lin") rfl, ?_⟩ | refine ⟨_, .all _ (by walk_at "lin") rfl, ?_⟩ | refine ⟨_, .any _ (by walk_at "lin") rfl, ?_⟩
  | refine ⟨_, .list (by walk_at "seq"), ?_⟩ | refine ⟨_, .tuple (by walk_at "lin"), ?_⟩ | refine ⟨_, .tupleT _, ?_⟩)
local macro_rules | `(tactic| walk_at "sub") => `(tactic| (refine ⟨_, _, _, _, rfl, rfl, (by first | exact setC_same | assumption), rfl, ?_⟩; try rw [setC_setC]))
local macro_rules | `(tactic| walk_at "fun") => `(tactic| first | refine ⟨_, .gcd _ _, ?_⟩ | refine ⟨_, .lcm _ _ (by assumption) (by assumption), ?_⟩ | refine ⟨_, .lcm _ _ (by omega) (by omega), ?_⟩ | refine ⟨_, .comb _ _ (by omega) (by omega) (by omega) (by omega), ?_⟩)
local macro_rules | `(tactic| walk_at "sizelt") => `(tactic| first | (refine szlt ?_; first | omega | (simp only [List.length_map, List.length_range, List.length_append, List.length_cons, List.length_nil, List.length_replicate] at *; omega)) | decide)
local macro_rules | `(tactic| walk_at "meth") => `(tactic| first | refine ⟨_, .startswith _ _, ?_⟩ | refine ⟨_, .strip _ _ (by walk_at "size"), ?_⟩ | refine ⟨_, .partition _ _ rfl (by walk_at "size"), ?_⟩ | refine ⟨_, .split _ _ rfl (by walk_at "size"), ?_⟩)
local macro_rules | `(tactic| walk_at "tsz") => `(tactic| first | decide | exact sz (by simp))
local macro_rules | `(tactic| walk_at "jsz") => `(tactic| first | decide | walk_at "size" | (refine sz ?_; simp; omega))
local macro_rules | `(tactic| walk_at "log") => `(tactic| first | assumption | omega)
theorem HasB.del {a p : Addr} {C : Cells} (h : HasB C a) (hp : p ≠ a) : HasB (delC C p) a := by
  obtain ⟨d, h1, h2⟩ := h
  exact ⟨d, by rw [delC_ne hp.symm]; exact h1, h2⟩
def tL : List Nat := [2, 3, 1, 2, 4, 2, 3]
def mL : List Nat := [2, 3, 1, 2, 4, 6, 5, 2, 3]
theorem tL_at (r : Nat) (h : r < 7) : atI (tL.map natD) (r : Int) = some (natD (tL.getD r 0)) ∧ 1 ≤ tL.getD r 0 ∧ tL.getD r 0 ≤ 4 := by
  have hl : r < tL.length := h
  refine ⟨by rw [atI_map 0 (by omega) (by omega), Int.toNat_natCast], ?_⟩
  have : ∀ r : Nat, r < 7 → 1 ≤ tL.getD r 0 ∧ tL.getD r 0 ≤ 4 := by decide
  exact this r h
theorem mL_at (r : Nat) (h : r < 9) : atI (mL.map natD) (r : Int) = some (natD (mL.getD r 0)) ∧ 1 ≤ mL.getD r 0 ∧ mL.getD r 0 ≤ 6 := by
  have hl : r < mL.length := h
  refine ⟨by rw [atI_map 0 (by omega) (by omega), Int.toNat_natCast], ?_⟩
  have : ∀ r : Nat, r < 9 → 1 ≤ mL.getD r 0 ∧ mL.getD r 0 ≤ 6 := by decide
  exact this r h
abbrev Ed := (Nat → Nat) × Nat
def woD (t : Nat) (gs : List (Str × List (List Int))) (ns : List Str) (es : List Ed) : D := .dic [("t", natD t), ("dirs", .lst (gs.map dirG)), ("names", .lst (ns.map D.str)), ("stuffs", .lst (es.map (stuffT t)))]
structure WoOk (t : Nat) (gs : List (Str × List (List Int))) (ns : List Str) (es : List Ed) : Prop where
  t1 : 1 ≤ t
  t4 : t ≤ 4
  gf : GivF t gs
  nd : ns.Nodup
  nm : ∀ n ∈ ns, NmOk n
  le : es.length = ns.length
  n1 : 1 ≤ ns.length
  n6 : ns.length ≤ 6
  ed : ∀ q ∈ es, EdOk t q.1 q.2
theorem wo_wo {t : Nat} {gs : List (Str × List (List Int))} {ns : List Str} {es : List Ed} (h : WoOk t gs ns es) : WoD t ns.length (woD t gs ns es) := ⟨_, _, _, rfl, by rw [List.length_map]; exact h.le, h.t1, h.t4, h.n1, h.n6⟩
theorem sc__law_plain_world : FnScope ["box", "t", "many", "stuffs", "k", "ends", "j", "i", "dirs", "name"] ["box"] (defScope s__law_plain_world) := ⟨rfl, rfl, rfl, by decide +kernel, rfl, by decide +kernel, by decide +kernel⟩
def sp__law_plain_world : PreD := fun ds C R RX => ∃ a : Addr, ds = [.cell a] ∧ HasB C a ∧ ∀ (t : Nat) (gs : List (Str × List (List Int))) (ns : List Str) (es : List Ed) (C' : Cells), WoOk t gs ns es → BxC a C C' → R (woD t gs ns es) C'
theorem ok__law_plain_world {P : Program} {w : World} {K : PySem.W.Frag} {tt : List (Addr × Str)} {mg : Str → Option Value} {base : Heap} {f : Addr} {fd : FuncData} (F : FnP K "_law_plain_world" s__law_plain_world f fd) (T : Txt K w mg) (h__law_names : HasF P w K tt mg base "_law_names" ["box", "many"] 2 sp__law_names) (h__law_draw : HasF P w K tt mg base "_law_draw" ["box", "size"] 1 sp__law_draw) : FnOk P w K mg base (L2.CX P w) 3 f fd ["box"] (SpD K tt sp__law_plain_world) := by
  refine body_ok F sc__law_plain_world (fun ds C R RX hp => by (obtain ⟨a, rfl, hb, q⟩ := hp; rfl)) fun cdv A outer s H E G0 ds C R RX B hp => ?_
  obtain ⟨a, rfl, hb, q⟩ := hp
  refine wss_cons (ws_set 1 ?_ sc__law_plain_world.nd)
  refine we_ix (we_tup (wa_cons (we_int (wa_cons (we_int (wa_cons (we_int (wa_cons (we_int (wa_cons (we_int (wa_cons (we_int (wa_cons (we_int (wa_nil ?_))))))))))))))))
  refine ⟨by walk_at "tsz", ?_⟩
  refine we_call h__law_draw B.room (by decide) B.tk (wa_cons (we_name 0 rfl (wa_cons (we_int (wa_nil ?_)))))
  refine ⟨a, 7, rfl, by decide, by decide, hb, fun r1 Ca hr1 hBa => ?_⟩
  obtain ⟨hta, ht⟩ := tL_at r1 hr1
  refine ⟨natD (tL.getD r1 0), .seq (.t _) hta, ?_⟩
  generalize tL.getD r1 0 = t at ht
  refine wss_cons (ws_set 2 ?_ sc__law_plain_world.nd)
  refine we_ix (we_tup (wa_cons (we_int (wa_cons (we_int (wa_cons (we_int (wa_cons (we_int (wa_cons (we_int (wa_cons (we_int (wa_cons (we_int (wa_cons (we_int (wa_cons (we_int (wa_nil ?_))))))))))))))))))))
  refine ⟨by walk_at "tsz", ?_⟩
  refine we_call h__law_draw B.room (by decide) B.tk (wa_cons (we_name 0 rfl (wa_cons (we_int (wa_nil ?_)))))
  refine ⟨a, 9, rfl, by decide, by decide, hBa.has, fun r2 Cb hr2 hBb => ?_⟩
  obtain ⟨hma, hm⟩ := mL_at r2 hr2
  refine ⟨natD (mL.getD r2 0), .seq (.t _) hma, ?_⟩
  generalize mL.getD r2 0 = m at hm
  refine wss_cons (ws_set 3 ?_ sc__law_plain_world.nd)
  refine we_nilC ?_
  intro p hp
  refine wss_cons (ws_forL ?_ B.po)
  refine wi_range1 T.range (wa_cons (we_name 2 rfl (wa_nil ?_)))
  have hpa : p ≠ a := hBb.none_ne hp
  have hp0 : C p = none := (hBa.trans hBb).old hp
  refine ⟨_, rfl, ⟨by omega, by omega⟩, ?_⟩
  rw [Int.toNat_natCast, rangeD0]
  refine ⟨_, List.range m, natD, fun pre σ' C' => ∃ (o4 o5 o6 o7 : Option D) (es : List Ed), σ' = [some (.cell a), some (natD t), some (natD m), some (.cell p), o4, o5, o6, o7, none, none] ∧ C' p = some (.lst (es.map (stuffT t))) ∧ BxC a C C' ∧ es.length = pre.length ∧ ∀ q ∈ es, EdOk t q.1 q.2, rfl, ?_, fun G1 hG1 pre1 it1 post1 σ' C' hx1 hI => ?_, fun σ' C' hI => ?_⟩
  · exact ⟨_, _, _, _, [], rfl, setC_same, (hBa.trans hBb).new hp, rfl, fun q h => nomatch h⟩
  · obtain ⟨o4, o5, o6, o7, es, rfl, hcp, hB, hel, hed⟩ := hI
    have hpl : pre1.length < m := (range_split hx1).2
    refine wg_name 4 ?_ sc__law_plain_world.nd
    refine wss_cons (ws_set 5 ?_ sc__law_plain_world.nd)
    refine we_lc [("j", 6)] [6] (fun _ _ _ _ _ => tgt_one (by decide) sc__law_plain_world.nd) sc__law_plain_world.nd (blkOk_by (by kernel_rfl)) (wi_range1 T.range (wa_cons (we_name 1 rfl (wa_nil ?_))))
    refine ⟨_, rfl, ⟨by omega, by omega⟩, ?_⟩
    rw [Int.toNat_natCast, rangeD0]
    refine lc_bx BxOk a (List.range t) (natD) (fun pre acc => ∃ el : List Nat, acc = el.map natD ∧ el.length = pre.length ∧ ∀ x ∈ el, 1 ≤ x ∧ x ≤ 5) (rfl) (sz (by rw [List.length_range]; omega)) (fun x hx => .one _ _ _) (hB.same) (⟨[], rfl, rfl, fun x h => nomatch h⟩) (fun pre1 j post1 acc1 hx1 hl1 hp1 s H cl Cc fp G C1 hB1 => ?_) (fun acc1 C1 hl1 hp1 hB1 => ?_)
    · skip
      obtain ⟨el, rfl, hell, hel5⟩ := hp1
      refine we_bin (we_int (we_call h__law_draw (blkB (B.base hG1)).room (by decide) (blkB (B.base hG1)).tk (wa_cons (we_name 0 rfl (wa_cons (we_int (wa_nil ?_)))))))
      refine ⟨a, 5, rfl, by decide, by decide, hB1.has, fun r3 Cc hr3 hBc => ?_⟩
      walk_at "op"
      refine ⟨hBc, el ++ [1 + r3], by rw [List.map_append]; rfl, by rw [List.length_append, List.length_append, hell]; rfl, fun x hx => ?_⟩
      rcases List.mem_append.mp hx with hx | hx
      · exact hel5 x hx
      · rw [List.mem_singleton.mp hx]
        omega
    refine wss_cons (ws_expr (we_append (we_name 3 rfl ?_)))
    refine ⟨_, rfl, ⟨_, hB1.keep _ _ hpa hcp⟩, ?_⟩
    refine we_tup (wa_cons (we_lc [("i", 7)] [7] (fun _ _ _ _ _ => tgt_one (by decide) sc__law_plain_world.nd) sc__law_plain_world.nd (blkOk_by (by kernel_rfl)) (wi_range1 T.range (wa_cons (we_name 1 rfl (wa_nil ?_))))))
    obtain ⟨el, rfl, hell, hel5⟩ := hp1
    rw [List.length_range] at hell
    have hcp1 := hB1.keep _ _ hpa hcp
    refine ⟨_, rfl, ⟨by omega, by omega⟩, ?_⟩
    rw [Int.toNat_natCast, rangeD0]
    refine lc_map (List.range t) (natD) (fun i => lI (diagL t i ((el.getD i 0 : Nat) : Int))) (rfl) (sz (by rw [List.length_range]; omega)) (fun x hx => .one _ _ _) (fun i hx s H cl Cc fp G C' hC => ?_) ?_
    · skip
      have hi := List.mem_range.mp hx
      refine we_lc [("j", 6)] [6] (fun _ _ _ _ _ => tgt_one (by decide) sc__law_plain_world.nd) sc__law_plain_world.nd (blkOk_by (by kernel_rfl)) (wi_range1 T.range (wa_cons (we_name 1 rfl (wa_nil ?_))))
      refine ⟨_, rfl, ⟨by omega, by omega⟩, ?_⟩
      rw [Int.toNat_natCast, rangeD0]
      refine lc_map (List.range t) (natD) (fun j => .int (if i = j then ((el.getD i 0 : Nat) : Int) else 0)) (rfl) (sz (by rw [List.length_range]; omega)) (fun x hx => .one _ _ _) (fun j hx s H cl Cc fp G C' hC => ?_) ?_
      · skip
        refine we_bin (we_ix (we_name 5 rfl (we_name 7 rfl ?_)))
        refine ⟨natD (el.getD i 0), .seq (.l (.v _)) (by rw [atI_map 0 (by omega) (by omega), Int.toNat_natCast]), ?_⟩
        refine we_ty (T := "int") T.int (wa_cons (we_cmp (we_name 7 rfl (we_name 6 rfl ?_))))
        walk_at "cmp"
        refine wa_nil ?_
        walk_at "blt"
        have hei : el.getD i 0 ≤ 5 := (hel5 _ (DW.getD_mem (by omega))).2
        refine ⟨_, .mul _ _ (mulL (by omega) (by omega)), ?_⟩
        refine ⟨?_, rfl⟩
        by_cases hij : i = j
        · rw [if_pos hij, decide_eq_true (by omega), if_pos rfl, Int.mul_one]
        · rw [if_neg hij, decide_eq_false (by omega), if_neg (by decide), Int.mul_zero]
      refine ⟨?_, rfl⟩
      unfold lI diagL
      rw [List.map_map]
      rfl
    refine wa_cons (we_bin (we_int (we_call h__law_draw (B.base hG1).room (by decide) (B.base hG1).tk (wa_cons (we_name 0 rfl (wa_cons (we_int (wa_nil ?_))))))))
    refine ⟨a, 3, rfl, by decide, by decide, hB1.has, fun r4 Cd hr4 hBd => ?_⟩
    walk_at "op"
    refine wa_nil ?_
    refine ⟨by walk_at "tsz", ?_⟩
    refine ⟨_, hBd.keep _ _ hpa hcp1, szlt (by rw [List.length_map]; omega), ?_⟩
    refine wss_nil ?_
    refine ⟨_, _, _, _, es ++ [(fun i => el.getD i 0, 1 + r4)], rfl, ?_, ((hB.trans hB1).trans hBd).loc hp0 hpa, by rw [List.length_append, List.length_append, hel]; rfl, fun q hq => ?_⟩
    · rw [setC_same, List.map_append]
      unfold stuffT dgR
      rw [List.map_cons, List.map_nil, List.map_map]
      rfl
    · rcases List.mem_append.mp hq with hq | hq
      · exact hed q hq
      · rw [List.mem_singleton.mp hq]
        exact ⟨ht.1, ht.2, fun i hi => hel5 _ (DW.getD_mem (by omega)), by show 1 ≤ 1 + r4; omega, by show 1 + r4 ≤ 3; omega⟩
  obtain ⟨o4, o5, o6, o7, es, rfl, hcp, hB, hel, hed⟩ := hI
  rw [List.length_range] at hel
  refine wss_cons (ws_set 8 ?_ sc__law_plain_world.nd)
  refine we_nilC ?_
  intro p2 hp2
  refine wss_cons (ws_forL ?_ B.po)
  refine wi_seq (we_call h__law_names B.room (by decide) B.tk (wa_cons (we_name 0 rfl (wa_cons (we_bin (we_int (we_call h__law_draw B.room (by decide) B.tk (wa_cons (we_name 0 rfl (wa_cons (we_int (wa_nil ?_))))))))))))
  have hp2a : p2 ≠ a := hB.none_ne hp2
  have hp20 : C p2 = none := hB.old hp2
  have hp12 : p ≠ p2 := ne_cell hcp hp2
  refine ⟨a, 3, rfl, by decide, by decide, (hB.has.set hp2), fun r5 Ce hr5 hBe => ?_⟩
  walk_at "op"
  refine wa_nil ?_
  have hB2 : BxC a C Ce := (hB.new hp2).trans hBe
  refine ⟨a, 1 + r5, rfl, by omega, hB2.has, fun dn Cf hdl hdnd hdnm hBf => ?_⟩
  refine ⟨_, .lst _, ?_⟩
  refine ⟨_, dn, D.str, fun pre σ' C' => ∃ (o4 o5 o6 o7 o9 : Option D) (gs : List (Str × List (List Int))), σ' = [some (.cell a), some (natD t), some (natD m), some (.cell p), o4, o5, o6, o7, some (.cell p2), o9] ∧ C' p2 = some (.lst (gs.map dirG)) ∧ C' p = some (.lst (es.map (stuffT t))) ∧ BxC a C C' ∧ gs.map (·.1) = pre ∧ ∀ g ∈ gs, RowsG t g.2, rfl, ?_, fun G2 hG2 pre2 it2 post2 σ' C' hx2 hI => ?_, fun σ' C' hI => ?_⟩
  · exact ⟨_, _, _, _, _, [], rfl, hBf.keep _ _ hp2a (hBe.keep _ _ hp2a setC_same), hBf.keep _ _ hpa (hBe.keep _ _ hpa (by rw [setC_ne hp12]; exact hcp)), hB2.trans hBf, rfl, fun g h => nomatch h⟩
  · obtain ⟨o4, o5, o6, o7, o9, gs, rfl, hcp2, hcp, hB, hgn, hgr⟩ := hI
    have hgl : gs.length < 4 := by
      have h1 := congrArg List.length hgn
      have h2 := congrArg List.length hx2
      rw [List.length_map] at h1
      rw [List.length_append, List.length_cons] at h2
      omega
    refine wg_name 9 ?_ sc__law_plain_world.nd
    refine wss_cons (ws_expr (we_append (we_name 8 rfl ?_)))
    refine ⟨_, rfl, ⟨_, by first | assumption | exact setC_same⟩, ?_⟩
    refine we_tup (wa_cons (we_name 9 rfl (wa_cons (we_lc [("j", 6)] [6] (fun _ _ _ _ _ => tgt_one (by decide) sc__law_plain_world.nd) sc__law_plain_world.nd (blkOk_by (by kernel_rfl)) (wi_range1 T.range (wa_cons (we_call h__law_draw (B.base hG2).room (by decide) (B.base hG2).tk (wa_cons (we_name 0 rfl (wa_cons (we_int (wa_nil ?_))))))))))))
    refine ⟨a, 3, rfl, by decide, by decide, hB.has, fun r7 Cg hr7 hBg => ?_⟩
    refine wa_nil ?_
    refine ⟨_, rfl, ⟨by omega, by omega⟩, ?_⟩
    rw [Int.toNat_natCast, rangeD0]
    refine lc_bx BxOk a (List.range r7) (natD) (fun pre acc => ∃ rows : List (List Int), acc = rows.map lI ∧ rows.length = pre.length ∧ ∀ r ∈ rows, r.length = t ∧ ∀ v ∈ r, -3 ≤ v ∧ v ≤ 3) (rfl) (sz (by rw [List.length_range]; omega)) (fun x hx => .one _ _ _) (hBg.same) (⟨[], rfl, rfl, fun x h => nomatch h⟩) (fun pre4 j post4 acc4 hx4 hl4 hp4 s H cl Cc fp G C4 hB4 => ?_) (fun acc4 C4 hl4 hp4 hB4 => ?_)
    · skip
      obtain ⟨rows, rfl, hrl, hrows⟩ := hp4
      refine we_lc [("k", 4)] [4] (fun _ _ _ _ _ => tgt_one (by decide) sc__law_plain_world.nd) sc__law_plain_world.nd (blkOk_by (by kernel_rfl)) (wi_range1 T.range (wa_cons (we_name 1 rfl (wa_nil ?_))))
      refine ⟨_, rfl, ⟨by omega, by omega⟩, ?_⟩
      rw [Int.toNat_natCast, rangeD0]
      refine lc_bx BxOk a (List.range t) (natD) (fun pre acc => ∃ r : List Int, acc = r.map D.int ∧ r.length = pre.length ∧ ∀ v ∈ r, -3 ≤ v ∧ v ≤ 3) (rfl) (sz (by rw [List.length_range]; omega)) (fun x hx => .one _ _ _) (hB4.same) (⟨[], rfl, rfl, fun x h => nomatch h⟩) (fun pre5 k post5 acc5 hx5 hl5 hp5 s H cl Cc fp G C5 hB5 => ?_) (fun acc5 C5 hl5 hp5 hB5 => ?_)
      · skip
        obtain ⟨rr, rfl, hrrl, hrr⟩ := hp5
        refine we_bin (we_call h__law_draw (blkC (blkB (B.base hG2))).room (by decide) (blkC (blkB (B.base hG2))).tk (wa_cons (we_name 0 rfl (wa_cons (we_int (wa_nil ?_))))))
        refine ⟨a, 4, rfl, by decide, by decide, hB5.has, fun r8 Ch hr8 hBh => ?_⟩
        refine we_int ?_
        walk_at "op"
        refine ⟨hBh, rr ++ [(r8 : Int) - 1], by rw [List.map_append]; rfl, by rw [List.length_append, List.length_append, hrrl]; rfl, fun v hv => ?_⟩
        rcases List.mem_append.mp hv with hv | hv
        · exact hrr v hv
        · rw [List.mem_singleton.mp hv]
          omega
      obtain ⟨rr, rfl, hrrl, hrr⟩ := hp5
      rw [List.length_range] at hrrl
      refine ⟨hB5, rows ++ [rr], by rw [List.map_append]; rfl, by rw [List.length_append, List.length_append, hrl]; rfl, fun r hr => ?_⟩
      rcases List.mem_append.mp hr with hr | hr
      · exact hrows r hr
      · rw [List.mem_singleton.mp hr]
        exact ⟨hrrl, hrr⟩
    refine wa_nil ?_
    refine ⟨by walk_at "tsz", ?_⟩
    obtain ⟨rows, rfl, hrl, hrows⟩ := hp4
    rw [List.length_range] at hrl
    refine ⟨_, hB4.keep _ _ hp2a (hBg.keep _ _ hp2a hcp2), szlt (by rw [List.length_map]; omega), ?_⟩
    refine wss_nil ?_
    refine ⟨_, _, _, _, _, gs ++ [(it2, rows)], rfl, by rw [setC_same, List.map_append]; rfl, by rw [setC_ne hp12]; exact hB4.keep _ _ hpa (hBg.keep _ _ hpa hcp), ((hB.trans hBg).trans hB4).loc hp20 hp2a, by rw [List.map_append, hgn]; rfl, fun g hg => ?_⟩
    rcases List.mem_append.mp hg with hg | hg
    · exact hgr g hg
    · rw [List.mem_singleton.mp hg]
      exact ⟨ht.1, ht.2, by show rows.length ≤ 2; omega, hrows⟩
  obtain ⟨o4, o5, o6, o7, o9, gs, rfl, hcp2, hcp, hB, hgn, hgr⟩ := hI
  refine wss_cons (ws_ret (we_dict fun qdict1 hqdict1 => ?_))
  show DW.WE _ _ _ _ _
  refine we_str ?_
  refine ⟨_, rfl, ?_⟩
  refine we_name 1 rfl ?_
  show DW.WE _ _ _ _ _
  refine we_str ?_
  refine ⟨_, rfl, ?_⟩
  refine we_freeze (we_name 8 rfl ?_)
  refine ⟨p2, _, rfl, (by rw [setC_ne (ne_cell hcp2 hqdict1)]; exact hcp2), ?_⟩
  show DW.WE _ _ _ _ _
  refine we_str ?_
  refine ⟨_, rfl, ?_⟩
  refine we_call h__law_names B.room (by decide) B.tk (wa_cons (we_name 0 rfl (wa_cons (we_name 2 rfl (wa_nil ?_)))))
  have hqa : qdict1 ≠ a := hB.none_ne hqdict1
  have hq0 : C qdict1 = none := hB.old hqdict1
  have hB3 : BxC a C (delC (setC _ qdict1 .dk0) p2) := (hB.new hqdict1).del hp20 hp2a
  refine ⟨a, m, rfl, hm.2, hB3.has, fun ns Ch hnl hnd hnm hBh => ?_⟩
  show DW.WE _ _ _ _ _
  refine we_str ?_
  refine ⟨_, rfl, ?_⟩
  refine we_freeze (we_name 3 rfl ?_)
  refine ⟨p, _, rfl, hBh.keep _ _ hpa (by rw [delC_ne hp12, setC_ne (ne_cell hcp hqdict1)]; exact hcp), ?_⟩
  show ∃ C5, _
  have hqp : qdict1 ≠ p := (ne_cell hcp hqdict1).symm
  have hqp2 : qdict1 ≠ p2 := (ne_cell hcp2 hqdict1).symm
  have hq3 : delC Ch p qdict1 = some .dk0 := by
    rw [delC_ne hqp]
    exact hBh.keep _ _ hqa (by rw [delC_ne hqp2]; exact setC_same)
  refine ⟨delC (delC Ch p) qdict1, delC_same, (setC_delC hq3).symm, (show (["t", "dirs", "names", "stuffs"] : List Str).Nodup by decide), (show 4 ≤ 15 by decide), ?_⟩
  refine q t gs ns es _ ⟨ht.1, ht.2, ⟨?_, ?_, ?_, fun g hg => ?_, hgr⟩, hnd, hnm, by omega, by omega, by omega, hed⟩ (((hB3.trans hBh).del hp0 hpa).del hq0 hqa)
  · have h1 := congrArg List.length hgn
    rw [List.length_map] at h1
    omega
  · have h1 := congrArg List.length hgn
    rw [List.length_map] at h1
    omega
  · rw [hgn]
    exact hdnd
  · refine hdnm _ ?_
    rw [← hgn]
    exact List.mem_map.mpr ⟨g, hg, rfl⟩
theorem sc__law_made_field : FnScope ["world", "line", "name", "lines"] ["world"] (defScope s__law_made_field) := ⟨rfl, rfl, rfl, by decide +kernel, rfl, by decide +kernel, by decide +kernel⟩
def sp__law_made_field (K : PySem.W.Frag) : PreD := fun ds C R RX => ∃ (t : Nat) (gs : List (Str × List (List Int))) (ns : List Str) (es : List Ed), ds = [woD t gs ns es] ∧ WoOk t gs ns es ∧ R (fieldD K t ((gs.map dirR).map dirS)) C
theorem ok__law_made_field {P : Program} {w : World} {K : PySem.W.Frag} {tt : List (Addr × Str)} {mg : Str → Option Value} {base : Heap} {f : Addr} {fd : FuncData} (F : FnP K "_law_made_field" s__law_made_field f fd) (T : Txt K w mg) (h_field_of : HasF P w K tt mg base "field_of" ["numbers", "directions"] 12 (sp_field_of K)) : FnOk P w K mg base (L2.CX P w) 13 f fd ["world"] (SpD K tt (sp__law_made_field K)) := by
  refine body_ok F sc__law_made_field (fun ds C R RX hp => by (obtain ⟨t, gs, ns, es, rfl, hw, q⟩ := hp; rfl)) fun cdv A outer s H E G0 ds C R RX B hp => ?_
  obtain ⟨t, gs, ns, es, rfl, hw, q⟩ := hp
  have hg := hw.gf
  have hg3 := hg.n3
  refine wss_cons (ws_ret (we_call h_field_of B.room (by decide) B.tk (wa_cons (we_dget B.room.units (we_name 0 rfl (we_str ?_))))))
  refine ⟨_, _, _, rfl, rfl, rfl, ?_⟩
  refine wa_cons (we_lc [("name", 2), ("lines", 3)] [2, 3] (fun _ _ _ _ _ => tgt_tup2 (by decide) (by decide) sc__law_made_field.nd) sc__law_made_field.nd (blkOk_by (by kernel_rfl)) (wi_seq (we_dget B.room.units (we_name 0 rfl (we_str ?_)))))
  refine ⟨_, _, _, rfl, rfl, rfl, ?_⟩
  refine ⟨_, .lst _, ?_⟩
  refine lc_map (gs) (dirG) (dirG) (rfl) (sz (by omega)) (fun x hx => .tup2 _ _ _ _ _) (fun g hx s H cl Cc fp G C' hC => ?_) ?_
  · skip
    have hgl := (hg.rw g hx).l2
    refine we_tup (wa_cons (we_name 2 rfl (wa_cons (we_lc [("line", 1)] [1] (fun _ _ _ _ _ => tgt_one (by decide) sc__law_made_field.nd) sc__law_made_field.nd (blkOk_by (by kernel_rfl)) (wi_seq (we_name 3 rfl ?_))))))
    refine ⟨_, .lst _, ?_⟩
    refine lc_map (g.2) (lI) (lI) (rfl) (sz (by omega)) (fun x hx => .one _ _ _) (fun l hx s H cl Cc fp G C' hC => ?_) ?_
    · skip
      refine we_ty (T := "list") T.list (wa_cons (we_name 1 rfl (wa_nil ?_)))
      walk_at "blt"
      exact ⟨rfl, rfl⟩
    refine wa_nil ?_
    refine ⟨by walk_at "tsz", ?_⟩
    exact ⟨rfl, rfl⟩
  refine wa_nil ?_
  exact ⟨t, gs, rfl, hg, q⟩
theorem sc__law_made_lot : FnScope ["box", "world", "made", "k"] ["box", "world", "made"] (defScope s__law_made_lot) := ⟨rfl, rfl, rfl, by decide +kernel, rfl, by decide +kernel, by decide +kernel⟩
def sp__law_made_lot (K : PySem.W.Frag) : PreD := fun ds C R RX => ∃ (a : Addr) (t : Nat) (gs : List (Str × List (List Int))) (ns : List Str) (es : List Ed) (qs : List Dir), ds = [.cell a, woD t gs ns es, fieldD K t qs] ∧ WoOk t gs ns es ∧ HasB C a ∧ ∀ (lot : D) (C' : Cells), LotD K t ns.length lot → BxC a C C' → R lot C'
theorem ok__law_made_lot {P : Program} {w : World} {K : PySem.W.Frag} {tt : List (Addr × Str)} {mg : Str → Option Value} {base : Heap} {f : Addr} {fd : FuncData} (F : FnP K "_law_made_lot" s__law_made_lot f fd) (T : Txt K w mg) (h_lot_of : HasF P w K tt mg base "lot_of" ["field", "stuffs"] 13 (sp_lot_of K)) (h__law_given_table : HasF P w K tt mg base "_law_given_table" ["box", "table"] 5 sp__law_given_table) : FnOk P w K mg base (L2.CX P w) 14 f fd ["box", "world", "made"] (SpD K tt (sp__law_made_lot K)) := by
  refine body_ok F sc__law_made_lot (fun ds C R RX hp => by (obtain ⟨a, t, gs, ns, es, qs, rfl, hw, hb, q⟩ := hp; rfl)) fun cdv A outer s H E G0 ds C R RX B hp => ?_
  obtain ⟨a, t, gs, ns, es, qs, rfl, hw, hb, q⟩ := hp
  have hn1 := hw.n1
  have hn6 := hw.n6
  have hle := hw.le
  refine wss_cons (ws_ret (we_call h_lot_of B.room (by decide) B.tk (wa_cons (we_name 2 rfl (wa_cons (we_lc [("k", 3)] [3] (fun _ _ _ _ _ => tgt_one (by decide) sc__law_made_lot.nd) sc__law_made_lot.nd (blkOk_by (by kernel_rfl)) (wi_range1 T.range (wa_cons (we_blt (id := "len") T.len (wa_cons (we_dget B.room.units (we_name 1 rfl (we_str ?_)))))))))))))
  refine ⟨_, _, _, rfl, rfl, rfl, ?_⟩
  refine wa_nil ?_
  refine ⟨_, .len (.l (.v _)), ?_⟩
  rw [List.length_map]
  refine wa_nil ?_
  refine ⟨_, rfl, ⟨by omega, by omega⟩, ?_⟩
  rw [Int.toNat_natCast, rangeD0]
  refine lc_bx BxOk a (List.range ns.length) (natD) (fun pre acc => ∃ g2 : List (Str × D), acc = g2.map stD ∧ g2.map (·.1) = ns.take pre.length ∧ ∀ g ∈ g2, FirmIn t g.2) (rfl) (sz (by rw [List.length_range]; omega)) (fun x hx => .one _ _ _) (hb.bx) (⟨[], rfl, rfl, fun g h => nomatch h⟩) (fun pre1 k post1 acc1 hx1 hl1 hp1 s H cl Cc fp G C1 hB1 => ?_) (fun acc1 C1 hl1 hp1 hB1 => ?_)
  · skip
    obtain ⟨g2, rfl, hg2, hgf⟩ := hp1
    obtain ⟨ek, hk⟩ := range_split hx1
    subst ek
    refine we_tup (wa_cons (we_ix (we_dget (blkB B).room.units (we_name 1 rfl (we_str ?_)))))
    refine ⟨_, _, _, rfl, rfl, rfl, ?_⟩
    refine we_name 3 rfl ?_
    refine ⟨.str (ns.getD pre1.length ""), .seq (.l (.v _)) (by rw [atI_map ("" : Str) (by omega) (by omega), Int.toNat_natCast]), ?_⟩
    refine wa_cons (we_call h__law_given_table (blkB B).room (by decide) (blkB B).tk (wa_cons (we_name 0 rfl (wa_cons (we_ix (we_dget (blkB B).room.units (we_name 1 rfl (we_str ?_))))))))
    refine ⟨_, _, _, rfl, rfl, rfl, ?_⟩
    refine we_name 3 rfl ?_
    refine ⟨stuffT t (es.getD pre1.length (fun _ => 0, 0)), .seq (.l (.v _)) (by rw [atI_map ((fun _ => 0, 0) : Ed) (by omega) (by omega), Int.toNat_natCast]), ?_⟩
    refine wa_nil ?_
    refine ⟨a, t, (es.getD pre1.length (fun _ => 0, 0)).1, (es.getD pre1.length (fun _ => 0, 0)).2, rfl, hw.ed _ (DW.getD_mem (by omega)), hB1.has, fun d Cc hd hBc => ?_⟩
    refine wa_nil ?_
    refine ⟨by walk_at "tsz", ?_⟩
    refine ⟨hBc, g2 ++ [(ns.getD pre1.length "", d)], by rw [List.map_append]; rfl, ?_, fun g hg => ?_⟩
    · rw [List.map_append, hg2, List.length_append, List.length_singleton, List.take_succ, List.getD_eq_getElem?_getD, List.getElem?_eq_getElem hk]
      rfl
    · rcases List.mem_append.mp hg with hg | hg
      · exact hgf g hg
      · rw [List.mem_singleton.mp hg]
        exact hd
  refine wa_nil ?_
  obtain ⟨g2, rfl, hg2, hgf⟩ := hp1
  rw [List.length_range, List.take_length] at hg2
  have hg2l : g2.length = ns.length := by
    have := congrArg List.length hg2
    rwa [List.length_map] at this
  refine ⟨t, qs, g2, rfl, by omega, by omega, hw.t1, hw.t4, by rw [hg2]; exact hw.nd, fun g hg => hw.nm _ (by rw [← hg2]; exact List.mem_map.mpr ⟨g, hg, rfl⟩), hgf, fun lot hl => q lot _ (by rw [← hg2l]; exact hl) hB1⟩
theorem sc__law_made : FnScope ["box", "world"] ["box", "world"] (defScope s__law_made) := ⟨rfl, rfl, rfl, by decide +kernel, rfl, by decide +kernel, by decide +kernel⟩
def sp__law_made (K : PySem.W.Frag) : PreD := fun ds C R RX => ∃ (a : Addr) (t : Nat) (gs : List (Str × List (List Int))) (ns : List Str) (es : List Ed), ds = [.cell a, woD t gs ns es] ∧ WoOk t gs ns es ∧ HasB C a ∧ ∀ (lot : D) (C' : Cells), LotD K t ns.length lot → BxC a C C' → R lot C'
theorem ok__law_made {P : Program} {w : World} {K : PySem.W.Frag} {tt : List (Addr × Str)} {mg : Str → Option Value} {base : Heap} {f : Addr} {fd : FuncData} (F : FnP K "_law_made" s__law_made f fd) (T : Txt K w mg) (h__law_made_lot : HasF P w K tt mg base "_law_made_lot" ["box", "world", "made"] 14 (sp__law_made_lot K)) (h__law_made_field : HasF P w K tt mg base "_law_made_field" ["world"] 13 (sp__law_made_field K)) : FnOk P w K mg base (L2.CX P w) 15 f fd ["box", "world"] (SpD K tt (sp__law_made K)) := by
  refine body_ok F sc__law_made (fun ds C R RX hp => by (obtain ⟨a, t, gs, ns, es, rfl, hw, hb, q⟩ := hp; rfl)) fun cdv A outer s H E G0 ds C R RX B hp => ?_
  obtain ⟨a, t, gs, ns, es, rfl, hw, hb, q⟩ := hp
  refine wss_cons (ws_ret (we_call h__law_made_lot B.room (by decide) B.tk (wa_cons (we_name 0 rfl (wa_cons (we_name 1 rfl (wa_cons (we_call h__law_made_field B.room (by decide) B.tk (wa_cons (we_name 1 rfl (wa_nil ?_)))))))))))
  refine ⟨t, gs, ns, es, rfl, hw, ?_⟩
  refine wa_nil ?_
  exact ⟨a, t, gs, ns, es, _, rfl, hw, hb, q⟩
end K60
set_option Elab.async false
set_option linter.all false
set_option maxRecDepth 100000
set_option maxHeartbeats 4000000
set_option pp.maxSteps 1500
set_option pp.deepTerms false
namespace K60
open PySem PySem.Spec PyProof.Rows L2 Evl DW
local macro_rules | `(tactic| walk_at "seq") => `(tactic| first | exact .l (.v _) | exact .t _ | exact .r _ | exact .l (.c setC_same) | exact .l (.c (by assumption)))
local macro_rules | `(tactic| walk_at "lin") => `(tactic| first | exact .v _ | exact .c setC_same | exact .c (by assumption))
local macro_rules | `(tactic| walk_at "size") => `(tactic| first | (refine sz ?_; first | omega | (simp only [List.length_map, List.length_range, List.length_append, List.length_cons, List.length_nil, List.length_replicate] at *; omega)) | decide)
local macro_rules | `(tactic| walk_at "mulok") => `(tactic| first | exact mulR (by decide) (by decide) | exact mulL (by decide) (by decide) | assumption | exact mulL (by omega) (by omega) | exact mulR (by omega) (by omega))
local macro_rules | `(tactic| walk_at "op") => `(tactic| first
  | refine ⟨_, .add _ _, ?_⟩
  | refine ⟨_, .sub _ _, ?_⟩
  | refine ⟨_, .mul _ _ (by walk_at "mulok"), ?_⟩
  | refine ⟨_, .mod _ _ (by first | decide | omega | assumption), ?_⟩
  | refine ⟨_, .div _ _ (by first | decide | omega | assumption) (by first | decide | assumption), ?_⟩
  | refine ⟨_, .pow _ _ ⟨by decide, by decide, by decide⟩, ?_⟩
  | refine ⟨_, .adds _ _ (by walk_at "size"), ?_⟩
  | refine ⟨_, .catT _ _ (by walk_at "size"), ?_⟩
  | refine ⟨_, .cat (by walk_at "lin") (by walk_at "lin") (by walk_at "size"), ?_⟩
  | refine ⟨_, .rep _ (by walk_at "lin") (by first | decide | omega) (by first | decide | omega) (by walk_at "size"), ?_⟩)
local macro_rules | `(tactic| walk_at "cmp") => `(tactic| first
  | refine ⟨_, .lt _ _, ?_⟩ | refine ⟨_, .le _ _, ?_⟩ | refine ⟨_, .gt _ _, ?_⟩ | refine ⟨_, .ge _ _, ?_⟩
  | refine ⟨_, .eqI _ _, ?_⟩ | refine ⟨_, .neI _ _, ?_⟩ | refine ⟨_, .eqS _ _, ?_⟩ | refine ⟨_, .neS _ _, ?_⟩ | refine ⟨_, .eqB _ _, ?_⟩ | refine ⟨_, .neB _ _, ?_⟩
  | refine ⟨_, .isN, ?_⟩ | refine ⟨_, .ntN, ?_⟩ | refine ⟨_, .isC, ?_⟩ | refine ⟨_, .ntC, ?_⟩ | refine ⟨_, .isNo trivial, ?_⟩ | refine ⟨_, .ntNo trivial, ?_⟩)
local macro_rules | `(tactic| walk_at "ix") => `(tactic| first | refine ⟨_, .seq (by walk_at "seq") rfl, ?_⟩)
local macro_rules | `(tactic| walk_at "slc") => `(tactic| first | refine ⟨_, .lst _ _ (by walk_at "lin"), ?_⟩ | refine ⟨_, .tup _ _ _, ?_⟩ | refine ⟨_, .rol _ _ _, ?_⟩ | refine ⟨_, .str _ _ _ (by walk_at "size"), ?_⟩)
local macro_rules | `(tactic| walk_at "blt") => `(tactic| first
  | refine ⟨_, .len (by walk_at "seq"), ?_⟩ | refine ⟨_, .lenS _ (by walk_at "size"), ?_⟩ | refine ⟨_, .abs _, ?_⟩ | refine ⟨_, .max2 _ _ rfl, ?_⟩ | refine ⟨_, .min2 _ _ rfl, ?_⟩
  | refine ⟨_, .int _, ?_⟩ | refine ⟨_, .intB _, ?_⟩ | refine ⟨_, .bool _, ?_⟩ | refine ⟨_, .boolI _, ?_⟩
  | refine ⟨_, .sum _ (by walk_at "lin") rfl, ?_⟩ | refine ⟨_, .all _ (by walk_at "lin") rfl, ?_⟩ | refine ⟨_, .any _ (by walk_at "lin") rfl, ?_⟩
  | refine ⟨_, .list (by walk_at "seq"), ?_⟩ | refine ⟨_, .tuple (by walk_at "lin"), ?_⟩ | refine ⟨_, .tupleT _, ?_⟩)
local macro_rules | `(tactic| walk_at "sub") => `(tactic| (refine ⟨_, _, _, _, rfl, rfl, (by first | exact setC_same | assumption), rfl, ?_⟩; try rw [setC_setC]))
local macro_rules | `(tactic| walk_at "fun") => `(tactic| first | refine ⟨_, .gcd _ _, ?_⟩ | refine ⟨_, .lcm _ _ (by assumption) (by assumption), ?_⟩ | refine ⟨_, .lcm _ _ (by omega) (by omega), ?_⟩ | refine ⟨_, .comb _ _ (by omega) (by omega) (by omega) (by omega), ?_⟩)
local macro_rules | `(tactic| walk_at "sizelt") => `(tactic| first | (refine szlt ?_; first | omega | (simp only [List.length_map, List.length_range, List.length_append, List.length_cons, List.length_nil, List.length_replicate] at *; omega)) | decide)
local macro_rules | `(tactic| walk_at "meth") => `(tactic| first | refine ⟨_, .startswith _ _, ?_⟩ | refine ⟨_, .strip _ _ (by walk_at "size"), ?_⟩ | refine ⟨_, .partition _ _ rfl (by walk_at "size"), ?_⟩ | refine ⟨_, .split _ _ rfl (by walk_at "size"), ?_⟩)
local macro_rules | `(tactic| walk_at "tsz") => `(tactic| first | decide | exact sz (by simp))
local macro_rules | `(tactic| walk_at "jsz") => `(tactic| first | decide | walk_at "size" | (refine sz ?_; simp; omega))
local macro_rules | `(tactic| walk_at "log") => `(tactic| first | assumption | omega)
structure TxE (K : PySem.W.Frag) : Prop where
  ex : PySem.W.exmOne K (.ref (He.ga K "TooMany")) (.ref (He.ga K "TooMany")) = some true
  xf : XfC K (He.ga K "TooMany")
  ec : ExcC K (He.ga K "TooMany")
  kV : PySem.W.kitOne K (.ref (He.ga K "TooMany")) (.type "ValueError") = some true
  kL : PySem.W.kitOne K (.ref (He.ga K "TooMany")) (.type "LookupError") = some false
  kR : PySem.W.kitOne K (.ref (He.ga K "TooMany")) (.type "RuntimeError") = some false
  nw : PySem.W.findIn K (.ref (He.ga K "TooMany")) "what" = some none
  nc : PySem.W.findIn K (.ref (He.ga K "TooMany")) "count" = some none
def ToldOk (t s d : Nat) (C : Cells) (told : D) : Prop :=
  (4 < d ∧ told = .tup [.str "degree", natD d]) ∨ (d ≤ 4 ∧ 150 < cmb (t * t + s - 1) d ∧ told = .tup [.str "monomials", .int (cmb (t * t + s - 1) d)]) ∨
    (d ≤ 4 ∧ cmb (t * t + s - 1) d ≤ 150 ∧ ∃ p, told = .cell p ∧ C p = some (.lst ((orF (t * t + s - 1) d).map fun l => powD (fmF t l))))
theorem shD_si {x : Str} (h : PyData.canLay0 (.str x) = true) (i : Int) : DW.shD (.tup [.str x, .int i]) = true := by
  unfold DW.shD
  have h1 : (D.tup [.str x, .int i]).isPy = true := by
    simp [D.isPy, arePy]
  have h2 : (D.tup [.str x, .int i]).py = .tuple [.str x, .int i] := by
    simp [D.py, pys]
  rw [h1, h2]
  unfold SeqAt.shaped PyData.canLay0 PyData.canLayAll0
  rw [h]
  simp [PyData.canLayAll0, PyData.canLay0, PyData.depth, PyData.depthAll]
theorem eqv_si (x : Str) (i : Int) : PyData.eqv (D.tup [.str x, .int i]).py (D.tup [.str x, .int i]).py = true := by
  have h2 : (D.tup [.str x, .int i]).py = .tuple [.str x, .int i] := by
    simp [D.py, pys]
  rw [h2]
  simp [PyData.eqv, PyData.eqvAll]
theorem told_ne {t s d : Nat} {C : Cells} {a p : Addr} (hb : HasB C a) (hp : C p = some (.lst ((orF (t * t + s - 1) d).map fun l => powD (fmF t l)))) : p ≠ a := by
  intro e
  obtain ⟨c, h1, cs, i, b2, b3, b4, rfl⟩ := hb
  rw [e, h1] at hp
  injection hp with hp
  injection hp with hp
  cases h : orF (t * t + s - 1) d with
  | nil =>
    rw [h] at hp
    cases hp
  | cons l r =>
    rw [h, List.map_cons] at hp
    unfold boxL powD at hp
    injection hp with h3 h4
    cases h3
theorem HasB.ne {a p : Addr} {C : Cells} {c : Ct} (h : HasB C a) (hp : p ≠ a) : HasB (setC C p c) a := by
  obtain ⟨d, h1, h2⟩ := h
  exact ⟨d, by rw [setC_ne hp.symm]; exact h1, h2⟩
theorem key_mem {t s d : Nat} (t1 : 1 ≤ t) (t4 : t ≤ 4) (s1 : 1 ≤ s) (s6 : s ≤ 6) (d4 : d ≤ 4) (hc : cmb (t * t + s - 1) d ≤ 150) : (keysF t s d).length ≤ 1000 ∧ ∀ key ∈ keysF t s d, ∀ a ∈ key, a < t * t + s := by
  have hB := ky_all t (by omega) s (by omega) d (by omega) t1 s1 hc
  unfold kyB at hB
  rw [Bool.and_eq_true] at hB
  refine ⟨of_decide_eq_true hB.2, fun key hk a ha => ?_⟩
  unfold keysF at hk
  obtain ⟨l, hl, hkl⟩ := List.mem_flatten.mp hk
  obtain ⟨k, hk2, rfl⟩ := List.mem_map.mp (List.mem_reverse.mp hl)
  have h := List.all_eq_true.mp hB.1 k hk2
  rw [Bool.and_eq_true] at h
  have h2 := List.all_eq_true.mp h.2 key hkl
  rw [Bool.and_eq_true] at h2
  exact of_decide_eq_true (List.all_eq_true.mp h2.2 a ha)
theorem two_at {w0 w1 l0 l1 : D} {K : PySem.W.Frag} {t0 s0 t1 s1 : Nat} (a : WoD t0 s0 w0) (b : LotD K t0 s0 l0) (c : WoD t1 s1 w1) (e : LotD K t1 s1 l1) : ∀ k : Nat, k < 2 → ∃ t s w l, atI [w0, w1] (k : Int) = some w ∧ atI [l0, l1] (k : Int) = some l ∧ WoD t s w ∧ LotD K t s l := by
  intro k hk
  have : k = 0 ∨ k = 1 := by omega
  rcases this with rfl | rfl
  · exact ⟨t0, s0, w0, l0, rfl, rfl, a, b⟩
  · exact ⟨t1, s1, w1, l1, rfl, rfl, c, e⟩
theorem sc__law_asked : FnScope ["made", "size", "by_name", "told", "e"] ["made", "size", "by_name"] (defScope s__law_asked) := ⟨rfl, rfl, rfl, by decide +kernel, rfl, by decide +kernel, by decide +kernel⟩
def sp__law_asked (K : PySem.W.Frag) : PreD := fun ds C R RX => ∃ (t s d : Nat) (lot : D) (b : Bool), ds = [lot, natD d, .bl b] ∧ LotD K t s lot ∧ ∀ (told : D) (C' : Cells), ToldOk t s d C' told → (∀ a, HasB C a → HasB C' a) → R told C'
theorem ok__law_asked {P : Program} {w : World} {K : PySem.W.Frag} {tt : List (Addr × Str)} {mg : Str → Option Value} {base : Heap} {f : Addr} {fd : FuncData} (F : FnP K "_law_asked" s__law_asked f fd) (T : Txt K w mg) (h_monomials : HasF P w K tt mg base "monomials" ["lot", "degree"] 7 (sp_monomials K)) (h_monomials_degree_lot : HasK P w K tt mg base "monomials" 0 ["degree", "lot"] (fun a b => a ++ b.reverse) 7 (sp_monomials K)) (TE : TxE K) : FnOk P w K mg base (L2.CX P w) 8 f fd ["made", "size", "by_name"] (SpD K tt (sp__law_asked K)) := by
  refine body_ok F sc__law_asked (fun ds C R RX hp => by (obtain ⟨t, s, d, lot, b, rfl, hlot, q⟩ := hp; rfl)) fun cdv A outer s H E G0 ds C R RX B hp => ?_
  obtain ⟨t, s, d, lot, b, rfl, hlot, q⟩ := hp
  refine wss_cons (ws_tryAsS 4 B ⟨rfl, by decide, .inl T.TooMany⟩ (fun cx fs σ' C' => cx = He.ga K "TooMany" ∧ ∃ (x : Str) (y : D), fs = ([("count", y), ("what", .str x)] : List (Str × D)) ∧ σ' = [some lot, some (natD d), some (.bl b), none, none] ∧ R (.tup [.str x, y]) C') (fun cx fs σ' C' hS => ?_) (fun pn xe Bt => ?_) sc__law_asked.nd)
  · obtain ⟨rfl, x, y, rfl, rfl, hR⟩ := hS
    refine ⟨true, TE.ex, fun _ a oe pn d' G hz hfo hS => ?_, fun h => Bool.noConfusion h⟩
    refine wss_cons (ws_if (wt_w (ww_or (wt_not (wt_tru (we_isiE TE.ec hz hfo hS T.isinstance (wa_cons (we_name 4 rfl (wa_cons (we_bty (T := "ValueError") T.ValueError (wa_nil ?_)))))))))))
    refine ⟨.ty "ValueError", .type "ValueError", true, rfl, .ty _, TE.kV, true, .bl _, fun h => Bool.noConfusion h, fun _ => ?_⟩
    refine ww_or (wt_tru (we_isiE TE.ec hz hfo hS T.isinstance (wa_cons (we_name 4 rfl (wa_cons (we_bty (T := "LookupError") T.LookupError (wa_nil ?_)))))))
    refine ⟨.ty "LookupError", .type "LookupError", false, rfl, .ty _, TE.kL, false, .bl _, fun h => Bool.noConfusion h, fun _ => ?_⟩
    refine ww_or1 (wt_tru (we_isiE TE.ec hz hfo hS T.isinstance (wa_cons (we_name 4 rfl (wa_cons (we_bty (T := "RuntimeError") T.RuntimeError (wa_nil ?_)))))))
    refine ⟨.ty "RuntimeError", .type "RuntimeError", false, rfl, .ty _, TE.kR, false, .bl _, fun h => Bool.noConfusion h, fun _ => ?_⟩
    refine wss_nil ?_
    refine wss_cons (ws_ret (we_tup (wa_cons (we_xf TE.xf TE.nw hz hfo hS (we_name 4 rfl ?_)))))
    refine ⟨rfl, _, rfl, ?_⟩
    refine wa_cons (we_xf TE.xf TE.nc hz hfo hS (we_name 4 rfl ?_))
    refine ⟨rfl, _, rfl, ?_⟩
    refine wa_nil ⟨by walk_at "tsz", ?_⟩
    exact hR
  · refine wss_cons (ws_if (wt_tru (we_name 2 rfl ?_)))
    refine ⟨_, .bl _, fun hif => ?_, fun hif => ?_⟩
    · refine wss_cons (ws_set 3 (we_callKw0 h_monomials_degree_lot Bt.room (by decide) Bt.tk ?_) sc__law_asked.nd)
      show DW.WE _ _ _ _ _
      refine we_name 1 rfl ?_
      show DW.WE _ _ _ _ _
      refine we_name 0 rfl ?_
      refine ⟨rfl, t, s, d, lot, rfl, hlot, fun h4 h5 p hp => ?_, fun h4 => ⟨rfl, "degree", _, rfl, rfl, q _ _ (.inl ⟨h4, rfl⟩) (fun a h => h)⟩, fun h4 h5 => ⟨rfl, "monomials", _, rfl, rfl, q _ _ (.inr (.inl ⟨h4, h5, rfl⟩)) (fun a h => h)⟩⟩
      refine wss_nil ?_
      refine wss_nil ?_
      refine wss_cons (ws_ret (we_name 3 rfl ?_))
      exact q _ _ (.inr (.inr ⟨h4, h5, p, rfl, setC_same⟩)) fun a ha => ha.set hp
    · refine wss_cons (ws_set 3 (we_call h_monomials Bt.room (by decide) Bt.tk (wa_cons (we_name 0 rfl (wa_cons (we_name 1 rfl (wa_nil ?_)))))) sc__law_asked.nd)
      refine ⟨t, s, d, lot, rfl, hlot, fun h4 h5 p hp => ?_, fun h4 => ⟨rfl, "degree", _, rfl, rfl, q _ _ (.inl ⟨h4, rfl⟩) (fun a h => h)⟩, fun h4 h5 => ⟨rfl, "monomials", _, rfl, rfl, q _ _ (.inr (.inl ⟨h4, h5, rfl⟩)) (fun a h => h)⟩⟩
      refine wss_nil ?_
      refine wss_nil ?_
      refine wss_cons (ws_ret (we_name 3 rfl ?_))
      exact q _ _ (.inr (.inr ⟨h4, h5, p, rfl, setC_same⟩)) fun a ha => ha.set hp
theorem sc__law_right : FnScope ["world", "told", "size", "many", "due", "key", "k", "power"] ["world", "told", "size"] (defScope s__law_right) := ⟨rfl, rfl, rfl, by decide +kernel, rfl, by decide +kernel, by decide +kernel⟩
def sp__law_right (K : PySem.W.Frag) : PreD := fun ds C R RX => ∃ (t s d : Nat) (w told : D), ds = [w, told, natD d] ∧ WoD t s w ∧ d ≤ 1000000 ∧ ToldOk t s d C told ∧ R (.bl true) C
theorem ok__law_right {P : Program} {w : World} {K : PySem.W.Frag} {tt : List (Addr × Str)} {mg : Str → Option Value} {base : Heap} {f : Addr} {fd : FuncData} (F : FnP K "_law_right" s__law_right f fd) (T : Txt K w mg) (h__law_many : HasF P w K tt mg base "_law_many" ["n", "size"] 1 sp__law_many) (h__law_powers : HasF P w K tt mg base "_law_powers" ["world", "key"] 1 sp__law_powers) (h__law_unknowns : HasF P w K tt mg base "_law_unknowns" ["world"] 1 sp__law_unknowns) (h__law_is_int : HasF P w K tt mg base "_law_is_int" ["thing"] 1 sp__law_is_int) (h__law_keys : HasF P w K tt mg base "_law_keys" ["world", "size"] 2 sp__law_keys) : FnOk P w K mg base (L2.CX P w) 3 f fd ["world", "told", "size"] (SpD K tt (sp__law_right K)) := by
  refine body_ok F sc__law_right (fun ds C R RX hp => by (obtain ⟨t, s, d, w, told, rfl, hw, hd, hto, q⟩ := hp; rfl)) fun cdv A outer s H E G0 ds C R RX B hp => ?_
  obtain ⟨t, s, d, w, told, rfl, hw, hd, hto, q⟩ := hp
  obtain ⟨_, _, _, _, _, t1, t4, s1, s6⟩ := id hw
  have htt := tt_le t4
  have h11 : 1 ≤ t * t := Nat.mul_le_mul t1 t1
  refine wss_cons (ws_set 3 ?_ sc__law_right.nd)
  refine we_call h__law_many B.room (by decide) B.tk (wa_cons (we_blt (id := "len") T.len (wa_cons (we_call h__law_unknowns B.room (by decide) B.tk (wa_cons (we_name 0 rfl (wa_nil ?_)))))))
  refine ⟨t, s, w, rfl, hw, ?_⟩
  refine wa_nil ?_
  refine ⟨_, .len (.l (.v _)), ?_⟩
  rw [List.length_map, unk_len s1]
  refine wa_cons (we_name 2 rfl (wa_nil ?_))
  refine ⟨t * t + s - 1, d, rfl, by omega, hd, ?_⟩
  refine wss_cons (ws_if (wt_cmp (we_name 2 rfl (we_int ?_))))
  walk_at "cmp"
  refine ⟨fun hif1 => ?_, fun hif1 => ?_⟩
  · try replace hif1 := of_decide_eq_true hif1
    obtain rfl : told = .tup [.str "degree", natD d] := by
      rcases hto with ⟨_, e⟩ | ⟨h, _⟩ | ⟨h, _⟩
      · exact e
      · omega
      · omega
    refine wss_cons (ws_ret (we_and (we_isiV .tup T.isinstance T.tuple (we_name 1 rfl ?_))))
    refine ⟨_, rfl, ?_⟩
    refine ⟨_, rfl, fun hsc1 => ?_, fun hsc1 => ?_⟩
    rotate_left
    · try replace hsc1 := of_decide_eq_false hsc1
      cases hsc1
    try replace hsc1 := of_decide_eq_true hsc1
    refine we_and (we_cmp (we_name 1 rfl (we_tup (wa_cons (we_str (wa_cons (we_name 2 rfl (wa_nil ?_))))))))
    refine ⟨by walk_at "tsz", ?_⟩
    refine ⟨_, .eqD (.v _) (.v _) (shD_si (by decide +kernel) _) (shD_si (by decide +kernel) _) B.room.units, ?_⟩
    rw [show natD d = D.int (d : Int) from rfl, eqv_si]
    refine ⟨_, rfl, fun hsc2 => ?_, fun hsc2 => ?_⟩
    rotate_left
    · try replace hsc2 := of_decide_eq_false hsc2
      cases hsc2
    try replace hsc2 := of_decide_eq_true hsc2
    refine we_one (we_call h__law_is_int B.room (by decide) B.tk (wa_cons (we_ix (we_name 1 rfl (we_int ?_)))))
    refine ⟨natD d, .seq (.t _) rfl, ?_⟩
    refine wa_nil ?_
    exact ⟨_, rfl, q⟩
  try replace hif1 := of_decide_eq_false hif1
  refine wss_nil ?_
  refine wss_cons (ws_if (wt_cmp (we_name 3 rfl (we_int ?_))))
  walk_at "cmp"
  refine ⟨fun hif2 => ?_, fun hif2 => ?_⟩
  · try replace hif2 := of_decide_eq_true hif2
    have hlm := lm_eq (t * t + s - 1) (by omega) d (by omega)
    obtain rfl : told = .tup [.str "monomials", .int (cmb (t * t + s - 1) d)] := by
      rcases hto with ⟨h, _⟩ | ⟨_, _, e⟩ | ⟨_, h, _⟩
      · omega
      · exact e
      · rw [hlm] at hif2
        exact absurd h (Int.not_le.mpr hif2)
    rw [← hlm]
    refine wss_cons (ws_ret (we_and (we_isiV .tup T.isinstance T.tuple (we_name 1 rfl ?_))))
    refine ⟨_, rfl, ?_⟩
    refine ⟨_, rfl, fun hsc3 => ?_, fun hsc3 => ?_⟩
    rotate_left
    · try replace hsc3 := of_decide_eq_false hsc3
      cases hsc3
    try replace hsc3 := of_decide_eq_true hsc3
    refine we_and (we_cmp (we_name 1 rfl (we_tup (wa_cons (we_str (wa_cons (we_name 3 rfl (wa_nil ?_))))))))
    refine ⟨by walk_at "tsz", ?_⟩
    refine ⟨_, .eqD (.v _) (.v _) (shD_si (by decide +kernel) _) (shD_si (by decide +kernel) _) B.room.units, ?_⟩
    rw [eqv_si]
    refine ⟨_, rfl, fun hsc4 => ?_, fun hsc4 => ?_⟩
    rotate_left
    · try replace hsc4 := of_decide_eq_false hsc4
      cases hsc4
    try replace hsc4 := of_decide_eq_true hsc4
    refine we_one (we_call h__law_is_int B.room (by decide) B.tk (wa_cons (we_ix (we_name 1 rfl (we_int ?_)))))
    refine ⟨_, .seq (.t _) rfl, ?_⟩
    refine wa_nil ?_
    exact ⟨_, rfl, q⟩
  try replace hif2 := of_decide_eq_false hif2
  refine wss_nil ?_
  have d4 : d ≤ 4 := by omega
  have hlm := lm_eq (t * t + s - 1) (by omega) d (by omega)
  have hcm : cmb (t * t + s - 1) d ≤ 150 := by
    rw [hlm] at hif2
    exact Int.not_lt.mp hif2
  obtain ⟨p, rfl, hp⟩ : ∃ p, told = .cell p ∧ C p = some (.lst ((orF (t * t + s - 1) d).map fun l => powD (fmF t l))) := by
    rcases hto with ⟨h, _⟩ | ⟨_, h, _⟩ | ⟨_, _, h⟩
    · omega
    · exact absurd hcm (Int.not_le.mpr h)
    · exact h
  obtain ⟨hle, hll⟩ := law_eq t (by omega) s (by omega) d (by omega) t1 s1 hcm
  have hkm := key_mem t1 t4 s1 s6 d4 hcm
  have hol : (orF (t * t + s - 1) d).length ≤ 150 := by omega
  rw [hlm, ← hll]
  refine wss_cons (ws_if ?_)
  refine WT.mono (Q := fun k C1 => k = false ∧ C = C1) ?_ (fun k C1 hk => ?_)
  · skip
    refine wt_w (ww_or (wt_not (wt_tru (we_isiC .lst T.isinstance T.list (we_name 1 rfl ?_)))))
    refine ⟨_, by walk_at "lin", ?_⟩
    refine ⟨_, .bl _, ?_⟩
    refine ⟨fun hsc5 => ?_, fun hsc5 => ?_⟩
    skip
    · try replace hsc5 := of_decide_eq_true hsc5
      cases hsc5
    try replace hsc5 := of_decide_eq_false hsc5
    refine ww_or1 (wt_cmp (we_blt (id := "len") T.len (wa_cons (we_name 1 rfl (wa_nil ?_)))))
    refine ⟨_, .len (.l (.c hp)), ?_⟩
    rw [List.length_map]
    refine we_name 3 rfl ?_
    walk_at "cmp"
    exact ⟨by simp, rfl⟩
  obtain ⟨rfl, rfl⟩ := hk
  refine ⟨fun hif3 => ?_, fun hif3 => ?_⟩
  · try replace hif3 := of_decide_eq_true hif3
    cases hif3
  try replace hif3 := of_decide_eq_false hif3
  refine wss_nil ?_
  refine wss_cons (ws_setLc 4 [("key", 5)] [5] (fun _ _ _ _ _ => tgt_one (by decide) sc__law_right.nd) sc__law_right.nd (blkOk_by (by kernel_rfl)) (wi_seq (we_call h__law_keys B.room (by decide) B.tk (wa_cons (we_name 0 rfl (wa_cons (we_name 2 rfl (wa_nil ?_))))))))
  refine ⟨t, s, d, w, rfl, hw, d4, hcm, ?_⟩
  refine ⟨_, .lst _, ?_⟩
  refine lc_map (keysF t s d) (powD) (fun key => powD (pwrF (t * t + s) key)) (rfl) (sz (by have := hkm.1; omega)) (fun x hx => .one _ _ _) (fun key hx s H cl Cc fp G C' hC => ?_) ?_
  · skip
    refine we_call h__law_powers (blkB B).room (by decide) (blkB B).tk (wa_cons (we_name 0 rfl (wa_cons (we_name 5 rfl (wa_nil ?_)))))
    exact ⟨t, _, w, key, rfl, hw, hkm.2 key hx, rfl, rfl⟩
  refine wss_cons (ws_forL ?_ B.po)
  refine wi_range1 T.range (wa_cons (we_name 3 rfl (wa_nil ?_)))
  rw [show ((keysF t s d).map fun key => powD (pwrF (t * t + s) key)) = (orF (t * t + s - 1) d).map fun l => powD (fmF t l) by
    have := congrArg (List.map powD) hle
    rw [List.map_map, List.map_map] at this
    exact this.symm]
  refine ⟨_, rfl, ⟨by omega, by omega⟩, ?_⟩
  rw [Int.toNat_natCast, rangeD0]
  refine ⟨_, List.range (orF (t * t + s - 1) d).length, natD, fun pre σ' C' => ∃ o6, σ' = [some w, some (.cell p), some (natD d), some (natD (orF (t * t + s - 1) d).length), some (.lst ((orF (t * t + s - 1) d).map fun l => powD (fmF t l))), none, o6, none] ∧ C = C', rfl, ?_, fun G1 hG1 pre1 it1 post1 σ' C' hx1 hI => ?_, fun σ' C' hI => ?_⟩
  · exact ⟨_, rfl, rfl⟩
  · obtain ⟨o6, rfl, rfl⟩ := hI
    obtain ⟨ei, hlt⟩ := range_split hx1
    subst ei
    have hat : atI ((orF (t * t + s - 1) d).map fun l => powD (fmF t l)) ((pre1.length : Nat) : Int) = some (powD (fmF t ((orF (t * t + s - 1) d).getD pre1.length []))) := by rw [atI_map [] (by omega) (by omega), Int.toNat_natCast]
    have hl9 : ((orF (t * t + s - 1) d).getD pre1.length []).length ≤ 100 := by
      rw [orF_len _ (DW.getD_mem hlt)]
      omega
    generalize (orF (t * t + s - 1) d).getD pre1.length [] = l at hat hl9
    refine wg_name 6 ?_ sc__law_right.nd
    refine wss_cons (ws_if ?_)
    refine WT.mono (Q := fun k C1 => k = false ∧ C = C1) ?_ (fun k C1 hk => ?_)
    · skip
      refine wt_w (ww_or (wt_not (wt_tru (we_isiV .tup T.isinstance T.tuple (we_ix (we_name 1 rfl (we_name 6 rfl ?_)))))))
      refine ⟨_, .seq (.l (.c hp)) hat, ?_⟩
      refine ⟨_, rfl, ?_⟩
      refine ⟨_, .bl _, ?_⟩
      refine ⟨fun hsc6 => ?_, fun hsc6 => ?_⟩
      skip
      · try replace hsc6 := of_decide_eq_true hsc6
        cases hsc6
      try replace hsc6 := of_decide_eq_false hsc6
      refine ww_or (wt_not (wt_tru (we_blt (id := "all") T.all (wa_cons (we_lc [("power", 7)] [7] (fun _ _ _ _ _ => tgt_one (by decide) sc__law_right.nd) sc__law_right.nd (blkOk_by (by kernel_rfl)) (wi_seq (we_ix (we_name 1 rfl (we_name 6 rfl ?_)))))))))
      refine ⟨_, .seq (.l (.c hp)) hat, ?_⟩
      refine ⟨_, .tup _, ?_⟩
      refine lc_map (fmF t l) (natD) (fun _ => .bl true) (rfl) (sz (by unfold fmF; rw [List.length_append, List.length_append, List.length_take, List.length_drop]; show min (t * t) l.length + 1 + (l.length - t * t) ≤ 16777216; omega)) (fun x hx => .one _ _ _) (fun v hx s H cl Cc fp G C' hC => ?_) ?_
      · skip
        refine we_call h__law_is_int (blkB (B.base hG1)).room (by decide) (blkB (B.base hG1)).tk (wa_cons (we_name 7 rfl (wa_nil ?_)))
        exact ⟨_, rfl, rfl, rfl⟩
      refine wa_nil ?_
      rw [show ((fmF t l).map fun _ => D.bl true) = ((fmF t l).map fun _ => true).map D.bl by rw [List.map_map]; rfl]
      refine ⟨_, .all _ (.v _) rfl, ?_⟩
      refine ⟨_, .bl _, ?_⟩
      refine ⟨fun hsc7 => ?_, fun hsc7 => ?_⟩
      skip
      · try replace hsc7 := of_decide_eq_true hsc7
        exact absurd hsc7 (by simp)
      try replace hsc7 := of_decide_eq_false hsc7
      refine ww_or1 (wt_cmp (we_ix (we_name 1 rfl (we_name 6 rfl ?_))))
      refine ⟨_, .seq (.l (.c hp)) hat, ?_⟩
      refine we_ix (we_name 4 rfl (we_name 6 rfl ?_))
      refine ⟨_, .seq (.l (.v _)) hat, ?_⟩
      refine ⟨_, .neD (.v _) (.v _) (shD_pow _) (shD_pow _) B.room.units, ?_⟩
      rw [eqv_pow]
      exact ⟨rfl, rfl⟩
    obtain ⟨rfl, rfl⟩ := hk
    refine ⟨fun hif4 => ?_, fun hif4 => ?_⟩
    · try replace hif4 := of_decide_eq_true hif4
      cases hif4
    try replace hif4 := of_decide_eq_false hif4
    refine wss_nil ?_
    refine wss_nil ?_
    exact ⟨_, rfl, rfl⟩
  obtain ⟨o6, rfl, rfl⟩ := hI
  refine wss_cons (ws_ret (we_bl ?_))
  exact q
end K60
set_option Elab.async false
set_option linter.all false
set_option maxRecDepth 100000
set_option maxHeartbeats 4000000
set_option pp.maxSteps 1500
set_option pp.deepTerms false
namespace K60
open PySem PySem.Spec PyProof.Rows L2 Evl DW
local macro_rules | `(tactic| walk_at "seq") => `(tactic| first | exact .l (.v _) | exact .t _ | exact .r _ | exact .l (.c setC_same) | exact .l (.c (by assumption)))
local macro_rules | `(tactic| walk_at "lin") => `(tactic| first | exact .v _ | exact .c setC_same | exact .c (by assumption))
local macro_rules | `(tactic| walk_at "size") => `(tactic| first | (refine sz ?_; first | omega | (simp only [List.length_map, List.length_range, List.length_append, List.length_cons, List.length_nil, List.length_replicate] at *; omega)) | decide)
local macro_rules | `(tactic| walk_at "mulok") => `(tactic| first | exact mulR (by decide) (by decide) | exact mulL (by decide) (by decide) | assumption | exact mulL (by omega) (by omega) | exact mulR (by omega) (by omega))
local macro_rules | `(tactic| walk_at "op") => `(tactic| first
  | refine ⟨_, .add _ _, ?_⟩
  | refine ⟨_, .sub _ _, ?_⟩
  | refine ⟨_, .mul _ _ (by walk_at "mulok"), ?_⟩
  | refine ⟨_, .mod _ _ (by first | decide | omega | assumption), ?_⟩
  | refine ⟨_, .div _ _ (by first | decide | omega | assumption) (by first | decide | assumption), ?_⟩
  | refine ⟨_, .pow _ _ ⟨by decide, by decide, by decide⟩, ?_⟩
  | refine ⟨_, .adds _ _ (by walk_at "size"), ?_⟩
  | refine ⟨_, .catT _ _ (by walk_at "size"), ?_⟩
  | refine ⟨_, .cat (by walk_at "lin") (by walk_at "lin") (by walk_at "size"), ?_⟩
  | refine ⟨_, .rep _ (by walk_at "lin") (by first | decide | omega) (by first | decide | omega) (by walk_at "size"), ?_⟩)
local macro_rules | `(tactic| walk_at "cmp") => `(tactic| first
  | refine ⟨_, .lt _ _, ?_⟩ | refine ⟨_, .le _ _, ?_⟩ | refine ⟨_, .gt _ _, ?_⟩ | refine ⟨_, .ge _ _, ?_⟩
  | refine ⟨_, .eqI _ _, ?_⟩ | refine ⟨_, .neI _ _, ?_⟩ | refine ⟨_, .eqS _ _, ?_⟩ | refine ⟨_, .neS _ _, ?_⟩ | refine ⟨_, .eqB _ _, ?_⟩ | refine ⟨_, .neB _ _, ?_⟩
  | refine ⟨_, .isN, ?_⟩ | refine ⟨_, .ntN, ?_⟩ | refine ⟨_, .isC, ?_⟩ | refine ⟨_, .ntC, ?_⟩ | refine ⟨_, .isNo trivial, ?_⟩ | refine ⟨_, .ntNo trivial, ?_⟩)
local macro_rules | `(tactic| walk_at "ix") => `(tactic| first | refine ⟨_, .seq (by walk_at "seq") rfl, ?_⟩)
local macro_rules | `(tactic| walk_at "slc") => `(tactic| first | refine ⟨_, .lst _ _ (by walk_at "lin"), ?_⟩ | refine ⟨_, .tup _ _ _, ?_⟩ | refine ⟨_, .rol _ _ _, ?_⟩ | refine ⟨_, .str _ _ _ (by walk_at "size"), ?_⟩)
local macro_rules | `(tactic| walk_at "blt") => `(tactic| first
  | refine ⟨_, .len (by walk_at "seq"), ?_⟩ | refine ⟨_, .lenS _ (by walk_at "size"), ?_⟩ | refine ⟨_, .abs _, ?_⟩ | refine ⟨_, .max2 _ _ rfl, ?_⟩ | refine ⟨_, .min2 _ _ rfl, ?_⟩
  | refine ⟨_, .int _, ?_⟩ | refine ⟨_, .intB _, ?_⟩ | refine ⟨_, .bool _, ?_⟩ | refine ⟨_, .boolI _, ?_⟩
  | refine ⟨_, .sum _ (by walk_at "lin") rfl, ?_⟩ | refine ⟨_, .all _ (by walk_at "lin") rfl, ?_⟩ | refine ⟨_, .any _ (by walk_at "lin") rfl, ?_⟩
  | refine ⟨_, .list (by walk_at "seq"), ?_⟩ | refine ⟨_, .tuple (by walk_at "lin"), ?_⟩ | refine ⟨_, .tupleT _, ?_⟩)
local macro_rules | `(tactic| walk_at "sub") => `(tactic| (refine ⟨_, _, _, _, rfl, rfl, (by first | exact setC_same | assumption), rfl, ?_⟩; try rw [setC_setC]))
local macro_rules | `(tactic| walk_at "fun") => `(tactic| first | refine ⟨_, .gcd _ _, ?_⟩ | refine ⟨_, .lcm _ _ (by assumption) (by assumption), ?_⟩ | refine ⟨_, .lcm _ _ (by omega) (by omega), ?_⟩ | refine ⟨_, .comb _ _ (by omega) (by omega) (by omega) (by omega), ?_⟩)
local macro_rules | `(tactic| walk_at "sizelt") => `(tactic| first | (refine szlt ?_; first | omega | (simp only [List.length_map, List.length_range, List.length_append, List.length_cons, List.length_nil, List.length_replicate] at *; omega)) | decide)
local macro_rules | `(tactic| walk_at "meth") => `(tactic| first | refine ⟨_, .startswith _ _, ?_⟩ | refine ⟨_, .strip _ _ (by walk_at "size"), ?_⟩ | refine ⟨_, .partition _ _ rfl (by walk_at "size"), ?_⟩ | refine ⟨_, .split _ _ rfl (by walk_at "size"), ?_⟩)
local macro_rules | `(tactic| walk_at "tsz") => `(tactic| first | decide | exact sz (by simp))
local macro_rules | `(tactic| walk_at "jsz") => `(tactic| first | decide | walk_at "size" | (refine sz ?_; simp; omega))
local macro_rules | `(tactic| walk_at "log") => `(tactic| first | assumption | omega)
structure Wd where
  t : Nat
  gs : List (Str × List (List Int))
  ns : List Str
  es : List Ed
  ok : WoOk t gs ns es
def wdD (w : Wd) : D := woD w.t w.gs w.ns w.es
def SL (x y : Nat) : List Nat := [0, 1, 2, 3, 4, 5 + x * y]
theorem SL_le {x y n : Nat} (hx : x < 3) (hy : y < 1000) : ∀ d ∈ (SL x y).drop n ++ (SL x y).take n, d ≤ 2003 := by
  intro d hd
  have h1 : d ∈ SL x y := by
    rcases List.mem_append.mp hd with h | h
    · exact List.mem_of_mem_drop h
    · exact List.mem_of_mem_take h
  have hxy : x * y ≤ 2 * 999 := Nat.mul_le_mul (by omega) (by omega)
  unfold SL at h1
  simp only [List.mem_cons, List.not_mem_nil, or_false] at h1
  omega
theorem SL_len {x y : Nat} : (SL x y).length = 6 := rfl
theorem mulSL {x y : Nat} (hx : x < 3) : IntMulOk (x : Int) (y : Int) := mulL (by omega) (by omega)
theorem told_lst {t s d : Nat} (t1 : 1 ≤ t) (t4 : t ≤ 4) (s1 : 1 ≤ s) (s6 : s ≤ 6) (hd : d ≤ 4) (hc : cmb (t * t + s - 1) d ≤ 150) : ∃ x r, (orF (t * t + s - 1) d).map (fun l => powD (fmF t l)) = x :: r ∧ r.length ≤ 1000 := by
  have htt := tt_le t4
  have h11 : 1 ≤ t * t := Nat.mul_le_mul t1 t1
  have ho := (ordB_ok (ord_all (t * t + s - 1) (by omega) d (by omega) (by omega) hc)).ln
  have hne : orF (t * t + s - 1) d ≠ [] := by
    intro e
    have h := (law_eq t (by omega) s (by omega) d (by omega) t1 s1 hc).2
    rw [e] at h
    have h2 : ∀ n : Nat, n < 22 → ∀ d : Nat, d < 5 → cmb n d ≠ 0 := by decide +kernel
    exact h2 (t * t + s - 1) (by omega) d (by omega) h.symm
  cases h : orF (t * t + s - 1) d with
  | nil => exact absurd h hne
  | cons l r =>
    rw [h, List.length_cons] at ho
    exact ⟨_, _, rfl, by rw [List.length_map]; omega⟩
theorem sc_law : FnScope ["script", "box", "worlds", "mades", "world", "sizes", "begin", "size", "k", "told"] ["script"] (defScope s_law) := ⟨rfl, rfl, rfl, by decide +kernel, rfl, by decide +kernel, by decide +kernel⟩
def sp_law (K : PySem.W.Frag) : PreD := fun ds C R RX => ∃ cs : List Int, ds = [.rol (cs.map D.int)] ∧ cs.length ≤ 63 ∧ ∀ C', R (.bl true) C'
theorem ok_law {P : Program} {w : World} {K : PySem.W.Frag} {tt : List (Addr × Str)} {mg : Str → Option Value} {base : Heap} {f : Addr} {fd : FuncData} (F : FnP K "law" s_law f fd) (T : Txt K w mg) (h__law_open : HasF P w K tt mg base "_law_open" ["script"] 1 sp__law_open) (h__law_draw : HasF P w K tt mg base "_law_draw" ["box", "size"] 1 sp__law_draw) (h__law_plain_world : HasF P w K tt mg base "_law_plain_world" ["box"] 3 sp__law_plain_world) (h__law_made : HasF P w K tt mg base "_law_made" ["box", "world"] 15 (sp__law_made K)) (h__law_asked : HasF P w K tt mg base "_law_asked" ["made", "size", "by_name"] 8 (sp__law_asked K)) (h__law_right : HasF P w K tt mg base "_law_right" ["world", "told", "size"] 3 (sp__law_right K)) (h_limit_of : HasF P w K tt mg base "limit_of" ["what"] 4 sp_limit_of) (TE : TxE K) : FnOk P w K mg base (L2.CX P w) 16 f fd ["script"] (SpD K tt (sp_law K)) := by
  refine body_ok F sc_law (fun ds C R RX hp => by (obtain ⟨cs, rfl, hl, q⟩ := hp; rfl)) fun cdv A outer s H E G0 ds C R RX B hp => ?_
  obtain ⟨cs, rfl, hl, q⟩ := hp
  refine wss_cons (ws_set 1 ?_ sc_law.nd)
  refine we_call h__law_open B.room (by decide) B.tk (wa_cons (we_name 0 rfl (wa_nil ?_)))
  refine ⟨cs, rfl, hl, fun a ha => ?_⟩
  have hb0 : HasB (setC C a (.lst (boxL cs 0 0 0 0))) a := ⟨_, setC_same, cs, 0, 0, 0, 0, rfl⟩
  refine wss_cons (ws_set 2 ?_ sc_law.nd)
  refine we_lst (wa_cons (we_call h__law_plain_world B.room (by decide) B.tk (wa_cons (we_name 1 rfl (wa_nil ?_)))))
  refine ⟨a, rfl, hb0, fun t0 gs0 ns0 es0 Ca hw0 hBa => ?_⟩
  refine wa_cons (we_call h__law_plain_world B.room (by decide) B.tk (wa_cons (we_name 1 rfl (wa_nil ?_))))
  refine ⟨a, rfl, hBa.has, fun t1 gs1 ns1 es1 Cb hw1 hBb => ?_⟩
  refine wa_nil ?_
  refine ⟨by walk_at "tsz", ?_⟩
  refine wss_cons (ws_setLc 3 [("world", 4)] [4] (fun _ _ _ _ _ => tgt_one (by decide) sc_law.nd) sc_law.nd (blkOk_by (by kernel_rfl)) (wi_seq (we_name 2 rfl ?_)))
  refine ⟨_, .lst _, ?_⟩
  refine lc_bx BxOk a ([(⟨t0, gs0, ns0, es0, hw0⟩ : Wd), ⟨t1, gs1, ns1, es1, hw1⟩]) (wdD) (fun pre acc => ∃ ps : List (Wd × D), pre = ps.map (·.1) ∧ acc = ps.map (·.2) ∧ ∀ p ∈ ps, LotD K p.1.t p.1.ns.length p.2) (rfl) (sz (by show 2 ≤ 16777216; decide)) (fun x hx => .one _ _ _) (hBb.same) (⟨[], rfl, rfl, fun w h => nomatch h⟩) (fun pre1 w post1 acc1 hx1 hl1 hp1 s H cl Cc fp G C1 hB1 => ?_) (fun acc1 C1 hl1 hp1 hB1 => ?_)
  · skip
    obtain ⟨ps, rfl, rfl, hps⟩ := hp1
    refine we_call h__law_made (blkB B).room (by decide) (blkB B).tk (wa_cons (we_name 1 rfl (wa_cons (we_name 4 rfl (wa_nil ?_)))))
    refine ⟨a, w.t, w.gs, w.ns, w.es, rfl, w.ok, hB1.has, fun lot Cc hlo hBc => ⟨hBc, ps ++ [(w, lot)], by rw [List.map_append]; rfl, by rw [List.map_append]; rfl, fun p hp => ?_⟩⟩
    rcases List.mem_append.mp hp with hp | hp
    · exact hps p hp
    · rw [List.mem_singleton.mp hp]
      exact hlo
  obtain ⟨l0, l1, rfl, hl0, hl1⟩ : ∃ l0 l1, acc1 = [l0, l1] ∧ LotD K t0 ns0.length l0 ∧ LotD K t1 ns1.length l1 := by
    obtain ⟨ps, he, rfl, hps⟩ := hp1
    match ps, he, hps with
    | [p0, p1], he, hps =>
      injection he with e1 e2
      injection e2 with e2 e3
      have e1 : _ = p0.1 := e1
      have e2 : _ = p1.1 := e2
      have h0 := hps p0 (by simp)
      have h1 := hps p1 (by simp)
      rw [← e1] at h0
      rw [← e2] at h1
      exact ⟨_, _, rfl, h0, h1⟩
  have two := two_at (wo_wo hw0) hl0 (wo_wo hw1) hl1
  refine wss_cons (ws_set 5 ?_ sc_law.nd)
  refine we_lst (wa_cons (we_int (wa_cons (we_int (wa_cons (we_int (wa_cons (we_int (wa_cons (we_int (wa_cons (we_bin (we_int (we_bin (we_call h__law_draw B.room (by decide) B.tk (wa_cons (we_name 1 rfl (wa_cons (we_int (wa_nil ?_))))))))))))))))))))
  refine ⟨a, 3, rfl, by decide, by decide, hB1.has, fun r5 Cc hr5 hBc => ?_⟩
  refine we_call h__law_draw B.room (by decide) B.tk (wa_cons (we_name 1 rfl (wa_cons (we_int (wa_nil ?_)))))
  refine ⟨a, 1000, rfl, by decide, by decide, hBc.has, fun r6 Cd hr6 hBd => ?_⟩
  refine ⟨_, .mul _ _ (mulSL hr5), ?_⟩
  walk_at "op"
  refine wa_nil ?_
  refine ⟨by walk_at "tsz", ?_⟩
  show DW.WSs _ _ [some (.rol (cs.map D.int)), some (.cell a), some (.lst [woD t0 gs0 ns0 es0, woD t1 gs1 ns1 es1]), some (.lst [l0, l1]), none, some (.lst ((SL r5 r6).map natD)), none, none, none, none] _ _
  refine wss_cons (ws_set 6 ?_ sc_law.nd)
  refine we_call h__law_draw B.room (by decide) B.tk (wa_cons (we_name 1 rfl (wa_cons (we_int (wa_nil ?_)))))
  refine ⟨a, 6, rfl, by decide, by decide, hBd.has, fun bg Ce hbg hBe => ?_⟩
  refine wss_cons (ws_forL ?_ B.po)
  refine wi_seq (we_bin (we_slice (we_name 5 rfl (we_name 6 rfl ?_))))
  refine ⟨_, rfl, ?_⟩
  refine ⟨_, .lst _ _ (.v _), ?_⟩
  rw [tcut_drop, ← List.map_drop]
  refine we_slice (we_name 5 rfl (we_name 6 rfl ?_))
  refine ⟨_, rfl, ?_⟩
  refine ⟨_, .lst _ _ (.v _), ?_⟩
  rw [tcut_take, ← List.map_take]
  refine ⟨_, .cat (.v _) (.v _) (sz (by rw [List.length_map, List.length_map, List.length_drop, List.length_take, SL_len]; omega)), ?_⟩
  refine ⟨_, .lst _, ?_⟩
  refine ⟨_, (SL r5 r6).drop bg ++ (SL r5 r6).take bg, natD, fun pre σ' C' => ∃ o7 o8 o9 : Option D, σ' = [some (.rol (cs.map D.int)), some (.cell a), some (.lst [woD t0 gs0 ns0 es0, woD t1 gs1 ns1 es1]), some (.lst [l0, l1]), none, some (.lst ((SL r5 r6).map natD)), some (natD bg), o7, o8, o9] ∧ HasB C' a, (by rw [List.map_append]), ?_, fun G1 hG1 pre1 it1 post1 σ' C' hx1 hI => ?_, fun σ' C' hI => ?_⟩
  · exact ⟨_, _, _, rfl, hBe.has⟩
  · obtain ⟨o7, o8, o9, rfl, hb⟩ := hI
    have hd3 := SL_le hr5 hr6 (n := bg) it1 (by rw [hx1]; simp)
    refine wg_name 7 ?_ sc_law.nd
    refine wss_cons (ws_forL ?_ (B.base hG1).po)
    refine wi_range1 T.range (wa_cons (we_int (wa_nil ?_)))
    refine ⟨2, rfl, ⟨by decide, by decide⟩, ?_⟩
    rw [show (2 : Int).toNat = 2 from rfl, rangeD0]
    refine ⟨_, List.range 2, natD, fun pre σ' C' => ∃ o8 o9 : Option D, σ' = [some (.rol (cs.map D.int)), some (.cell a), some (.lst [woD t0 gs0 ns0 es0, woD t1 gs1 ns1 es1]), some (.lst [l0, l1]), none, some (.lst ((SL r5 r6).map natD)), some (natD bg), some (natD it1), o8, o9] ∧ HasB C' a, rfl, ?_, fun G2 hG2 pre2 it2 post2 σ' C' hx2 hI => ?_, fun σ' C' hI => ?_⟩
    · exact ⟨_, _, rfl, hb⟩
    · obtain ⟨o8, o9, rfl, hb⟩ := hI
      obtain ⟨ek, hk⟩ := range_split hx2
      subst ek
      obtain ⟨t, s, w, l, hwat, hlat, hw, hlot⟩ := two pre2.length hk
      refine wg_name 8 ?_ sc_law.nd
      refine wss_cons (ws_set 9 ?_ sc_law.nd)
      refine we_call h__law_asked ((B.base hG1).base hG2).room (by decide) ((B.base hG1).base hG2).tk (wa_cons (we_ix (we_name 3 rfl (we_name 8 rfl ?_))))
      refine ⟨_, .seq (.l (.v _)) hlat, ?_⟩
      refine wa_cons (we_name 7 rfl (wa_cons (we_cmp (we_call h__law_draw ((B.base hG1).base hG2).room (by decide) ((B.base hG1).base hG2).tk (wa_cons (we_name 1 rfl (wa_cons (we_int (wa_nil ?_)))))))))
      refine ⟨a, 2, rfl, by decide, by decide, hb, fun r8 Cf hr8 hBf => ?_⟩
      refine we_int ?_
      walk_at "cmp"
      refine wa_nil ?_
      refine ⟨t, s, it1, l, _, rfl, hlot, fun told Cg hto hgb => ?_⟩
      have hbg := hgb a hBf.has
      refine wss_cons (ws_if (wt_not (wt_tru (we_call h__law_right ((B.base hG1).base hG2).room (by decide) ((B.base hG1).base hG2).tk (wa_cons (we_ix (we_name 2 rfl (we_name 8 rfl ?_))))))))
      refine ⟨_, .seq (.l (.v _)) hwat, ?_⟩
      refine wa_cons (we_name 9 rfl (wa_cons (we_name 7 rfl (wa_nil ?_))))
      refine ⟨t, s, it1, w, told, rfl, hw, by omega, hto, ?_⟩
      refine ⟨_, .bl _, ?_⟩
      refine ⟨fun hif1 => ?_, fun hif1 => ?_⟩
      · try replace hif1 := of_decide_eq_true hif1
        cases hif1
      try replace hif1 := of_decide_eq_false hif1
      refine wss_nil ?_
      refine wss_cons (ws_if ?_)
      refine WT.mono (Q := fun k Cx => HasB Cx a ∧ (k = true → ∃ p x r, told = .cell p ∧ Cx p = some (.lst (x :: r)) ∧ r.length ≤ 1000 ∧ p ≠ a)) ?_ (fun k C1 hk => ?_)
      · skip
        refine wt_tru (we_isi T.isinstance (wa_cons (we_name 9 rfl (wa_cons (we_bty (T := "list") T.list (wa_nil ?_))))))
        obtain ⟨_, _, _, _, _, u1, u4, v1, v6⟩ := id hw
        rcases hto with ⟨_, e⟩ | ⟨_, _, e⟩ | ⟨h4, h5, p, e, hp⟩
        · exact ⟨told, .ty "list", .type "tuple", .type "list", false, rfl, .ty _, by rw [e]; exact .tup _, isiT_ok .tup .lst (by decide), false, .bl _, hbg, fun z => Bool.noConfusion z⟩
        · exact ⟨told, .ty "list", .type "tuple", .type "list", false, rfl, .ty _, by rw [e]; exact .tup _, isiT_ok .tup .lst (by decide), false, .bl _, hbg, fun z => Bool.noConfusion z⟩
        · have hpa := told_ne hbg hp
          obtain ⟨x, r, er, hr⟩ := told_lst u1 u4 v1 v6 h4 h5
          exact ⟨told, .ty "list", .type "list", .type "list", true, rfl, .ty _, .lst (by rw [e]; exact .c hp), isiT_ok .lst .lst (by decide), true, .bl _, hbg, fun _ => ⟨p, x, r, e, by rw [hp, er], hr, hpa⟩⟩
      obtain ⟨hbx, hkt⟩ := hk
      refine ⟨fun hif2 => ?_, fun hif2 => ?_⟩
      · try replace hif2 := of_decide_eq_true hif2
        obtain ⟨p, x, r, rfl, hp, hr, hpa⟩ := hkt hif2
        refine wss_cons (ws_expr (we_append (we_name 9 rfl ?_)))
        refine ⟨_, rfl, ⟨_, hp⟩, ?_⟩
        refine we_ix (we_name 9 rfl (we_int ?_))
        refine ⟨_, .seq (.l (.c hp)) atI_zero, ?_⟩
        refine ⟨_, hp, szlt (by rw [List.length_cons]; omega), ?_⟩
        refine wss_cons (ws_asg (we_non ?_))
        refine wg_sub (we_name 9 rfl (we_int ?_))
        refine ⟨_, _, _, 0, rfl, rfl, setC_same, ixN_nat (by decide) (by rw [List.length_append, List.length_cons]; omega), ?_⟩
        rw [setC_setC]
        refine wss_nil ?_
        refine wss_nil ?_
        exact ⟨_, _, rfl, hbx.ne hpa⟩
      try replace hif2 := of_decide_eq_false hif2
      refine wss_nil ?_
      refine wss_nil ?_
      exact ⟨_, _, rfl, hbx⟩
    obtain ⟨o8, o9, rfl, hb⟩ := hI
    refine wss_nil ?_
    exact ⟨_, _, _, rfl, hb⟩
  obtain ⟨o7, o8, o9, rfl, hb⟩ := hI
  refine wss_cons (ws_set 7 ?_ sc_law.nd)
  refine we_call h__law_draw B.room (by decide) B.tk (wa_cons (we_name 1 rfl (wa_cons (we_int (wa_nil ?_)))))
  refine ⟨a, 4, rfl, by decide, by decide, hb, fun r11 Ch hr11 hBh => ?_⟩
  refine wss_cons (ws_forL ?_ B.po)
  refine wi_range1 T.range (wa_cons (we_int (wa_nil ?_)))
  refine ⟨2, rfl, ⟨by decide, by decide⟩, ?_⟩
  rw [show (2 : Int).toNat = 2 from rfl, rangeD0]
  refine ⟨_, List.range 2, natD, fun pre σ' C' => ∃ o8 o9 : Option D, σ' = [some (.rol (cs.map D.int)), some (.cell a), some (.lst [woD t0 gs0 ns0 es0, woD t1 gs1 ns1 es1]), some (.lst [l0, l1]), none, some (.lst ((SL r5 r6).map natD)), some (natD bg), some (natD r11), o8, o9] ∧ HasB C' a, rfl, ?_, fun G3 hG3 pre3 it3 post3 σ' C' hx3 hI => ?_, fun σ' C' hI => ?_⟩
  · exact ⟨_, _, rfl, hBh.has⟩
  · obtain ⟨o8, o9, rfl, hb⟩ := hI
    obtain ⟨ek, hk⟩ := range_split hx3
    subst ek
    obtain ⟨t, s, w, l, hwat, hlat, hw, hlot⟩ := two pre3.length hk
    refine wg_name 8 ?_ sc_law.nd
    refine wss_cons (ws_if (wt_not (wt_tru (we_call h__law_right (B.base hG3).room (by decide) (B.base hG3).tk (wa_cons (we_ix (we_name 2 rfl (we_name 8 rfl ?_))))))))
    refine ⟨_, .seq (.l (.v _)) hwat, ?_⟩
    refine wa_cons (we_call h__law_asked (B.base hG3).room (by decide) (B.base hG3).tk (wa_cons (we_ix (we_name 3 rfl (we_name 8 rfl ?_)))))
    refine ⟨_, .seq (.l (.v _)) hlat, ?_⟩
    refine wa_cons (we_name 7 rfl (wa_cons (we_bl (wa_nil ?_))))
    refine ⟨t, s, r11, l, _, rfl, hlot, fun told Cg hto hgb => ?_⟩
    have hbg := hgb a hb
    refine wa_cons (we_name 7 rfl (wa_nil ?_))
    refine ⟨t, s, r11, w, told, rfl, hw, by omega, hto, ?_⟩
    refine ⟨_, .bl _, ?_⟩
    refine ⟨fun hif3 => ?_, fun hif3 => ?_⟩
    · try replace hif3 := of_decide_eq_true hif3
      cases hif3
    try replace hif3 := of_decide_eq_false hif3
    refine wss_nil ?_
    refine wss_nil ?_
    exact ⟨_, _, rfl, hbg⟩
  obtain ⟨o8, o9, rfl, hb⟩ := hI
  refine wss_cons (ws_ret (we_and (we_cmp (we_call h_limit_of B.room (by decide) B.tk (wa_cons (we_str (wa_nil ?_)))))))
  refine ⟨_, 150, rfl, rfl, ?_⟩
  refine we_int ?_
  walk_at "cmp"
  refine ⟨_, rfl, fun hsc1 => ?_, fun hsc1 => ?_⟩
  rotate_left
  · try replace hsc1 := of_decide_eq_false hsc1
    exact absurd rfl hsc1
  try replace hsc1 := of_decide_eq_true hsc1
  refine we_one (we_cmp (we_call h_limit_of B.room (by decide) B.tk (wa_cons (we_str (wa_nil ?_)))))
  refine ⟨_, 4, rfl, rfl, ?_⟩
  refine we_int ?_
  walk_at "cmp"
  exact q _
end K60
set_option Elab.async false
set_option linter.all false
set_option maxRecDepth 100000
set_option maxHeartbeats 8000000
namespace K60
open PySem PySem.Spec PyProof.Rows L2 Evl DW
theorem kwb_any {K : PySem.W.Frag} {x qual : Str} {params : Arguments} {body : List Stmt} {scope : Scope} {kws : List (Str × V)} {f : Addr} {fd : FuncData} {ps : List Str} {n : Nat} {ks : List Str} (g : {α : Type} → List α → List α → List α) (F : FunD K x qual params body scope [] kws f fd)
    (h : ∀ (kV doc pm : Value) (an : Option Addr) (cdv ct : Value) (us ws : List Value), us.length = n → ws.length = ks.length → bindArgs (PySem.W.fnOf x qual params body scope .none kV doc pm an cdv ct) ⟨us, ks.zip ws⟩ = pure (ps.zip (g us ws)))
    (hv : ∀ {vs zs : List V} {us ws : List Value}, Vals vs us → Vals zs ws → Vals (g vs zs) (g us ws)) (hd : ∀ (G : Hp) (vs : List V) (ds : List D) (zs : List V) (es : List D), Reps K G vs ds → Reps K G zs es → Reps K G (g vs zs) (g ds es)) : KwB K fd ps n ks (fun ds es => g ds es) := by
  obtain ⟨oc, od, dV, kV, doc, pm, an, cdv, ct, osl, rfl, lk, hcd, hD, hK⟩ := F.ex
  rcases hD with ⟨_, rfl⟩ | ⟨e, _⟩
  · exact ⟨fun us ws => g us ws, fun vs zs => g vs zs, ⟨fun s us ws X l1 l2 => .of_eq (h kV doc pm an cdv ct us ws l1 l2), hv⟩, hd⟩
  · exact absurd rfl e
theorem vals_rev : ∀ {vs : List V} {us : List Value}, Vals vs us → Vals vs.reverse us.reverse
  | _, _, .nil => .nil
  | _, _, .cons r t => by
    rw [List.reverse_cons, List.reverse_cons]
    exact (vals_rev t).append (.cons r .nil)
theorem vals_app_rev {vs zs : List V} {us ws : List Value} (r : Vals vs us) (s : Vals zs ws) : Vals (vs ++ zs.reverse) (us ++ ws.reverse) := r.append (vals_rev s)
theorem reps_rev {K : PySem.W.Frag} {G : Hp} : ∀ {vs : List V} {ds : List D}, Reps K G vs ds → Reps K G vs.reverse ds.reverse
  | _, _, .nil => .nil
  | _, _, .cons r t => by
    rw [List.reverse_cons, List.reverse_cons]
    exact (reps_rev t).append (.cons r .nil)
theorem reps_app_rev {K : PySem.W.Frag} {G : Hp} {vs zs : List V} {ds es : List D} (r : Reps K G vs ds) (s : Reps K G zs es) : Reps K G (vs ++ zs.reverse) (ds ++ es.reverse) := r.append (reps_rev s)
theorem lookup_mem : ∀ {l : List (Str × Int)} {k : Str} {v : Int}, l.lookup k = some v → (k, v) ∈ l
  | [], k, v, h => by cases h
  | (a, b) :: r, k, v, h => by
    rw [List.lookup_cons] at h
    cases e : k == a with
    | true =>
      rw [e] at h
      cases h
      rw [eq_of_beq e]
      exact List.mem_cons_self
    | false =>
      rw [e] at h
      exact List.mem_cons_of_mem _ (lookup_mem h)
def keysT : List (Str × He.Dv) := [("text", .int 60000), ("digits", .int 200), ("numbers", .int 4), ("directions", .int 8), ("slides", .int 8), ("stuffs", .int 6), ("parts", .int 12), ("lines", .int 60), ("levels", .int 8), ("leaves", .int 300), ("terms", .int 200), ("degree", .int 4), ("dimension", .int 12), ("monomials", .int 150), ("grid", .int 1000), ("deeds", .int 60)]
theorem lim_keys : ∀ q ∈ limits, (q.1, He.Dv.int q.2) ∈ keysT := by
  intro q hq
  unfold limits at hq
  simp only [List.mem_cons, List.not_mem_nil, or_false] at hq
  unfold keysT
  rcases hq with rfl | rfl | rfl | rfl | rfl | rfl | rfl | rfl <;> simp
def pT (K : PySem.W.Frag) : Addr × Addr := He.cT K ("with_row", none)
def ttK (K : PySem.W.Frag) : List (Addr × Str) := [((pT K).2, "with_row.<locals>.<lambda>")]
section
variable {w : World} {K : PySem.W.Frag} {mg : Str → Option Value} {base h0 : Heap}
theorem vals_x (c : He.SaysX fa fn ts tf ex w h0 K) : He.valsB K (He.ga K "LIMITS") keysT = true := by
  have hx : ex K = true := c.more
  unfold ex at hx
  simp only [Bool.and_eq_true] at hx
  exact hx.1.1.1.1.1.1.1.2
theorem txt (X : K.In base) (G : base.Ns mainGlobals mg) (c : He.SaysX fa fn ts tf ex w h0 K) : Txt K w mg := by
  have hx : ex K = true := c.more
  unfold ex at hx
  simp only [Bool.and_eq_true] at hx
  obtain ⟨⟨⟨⟨⟨⟨⟨⟨⟨⟨xg, xl⟩, xc⟩, xv⟩, xo⟩, xi⟩, xx⟩, xe⟩, xV⟩, xL⟩, xR⟩ := hx
  have xv : He.valsB K (He.ga K "LIMITS") keysT = true := xv
  obtain ⟨es, n, hD⟩ := c.t.tab 0
  have hlim : ∀ k v, limits.lookup k = some v → ∃ u, PySem.W.nsIn K (He.ga K "LIMITS") k = some (some u) ∧ RelV (.int v) u := fun k v hk => He.valsB_ok xv (lim_keys _ (lookup_mem hk))
  constructor
  · exact He.free_ok X G (c.t.d.fact 72 (f := .free "LookupError") rfl)
  · exact He.free_ok X G (c.t.d.fact 73 (f := .free "RuntimeError") rfl)
  · exact He.free_ok X G (c.t.d.fact 74 (f := .free "ValueError") rfl)
  · exact He.free_ok X G (c.t.d.fact 75 (f := .free "abs") rfl)
  · exact He.free_ok X G (c.t.d.fact 76 (f := .free "all") rfl)
  · exact He.free_ok X G (c.t.d.fact 77 (f := .free "bool") rfl)
  · exact He.free_ok X G (c.t.d.fact 78 (f := .free "enumerate") rfl)
  · exact He.free_ok X G (c.t.d.fact 79 (f := .free "int") rfl)
  · exact He.free_ok X G (c.t.d.fact 80 (f := .free "isinstance") rfl)
  · exact He.free_ok X G (c.t.d.fact 81 (f := .free "len") rfl)
  · exact He.free_ok X G (c.t.d.fact 82 (f := .free "list") rfl)
  · exact He.free_ok X G (c.t.d.fact 83 (f := .free "max") rfl)
  · exact He.free_ok X G (c.t.d.fact 84 (f := .free "range") rfl)
  · exact He.free_ok X G (c.t.d.fact 85 (f := .free "reversed") rfl)
  · exact He.free_ok X G (c.t.d.fact 86 (f := .free "sorted") rfl)
  · exact He.free_ok X G (c.t.d.fact 87 (f := .free "str") rfl)
  · exact He.free_ok X G (c.t.d.fact 88 (f := .free "tuple") rfl)
  · exact He.free_ok X G (c.t.d.fact 89 (f := .free "zip") rfl)
  · exact bltB_ok X G xg
  · exact bltB_ok X G xl
  · exact bltB_ok X G xc
  · exact He.str_ok X G (c.t.d.fact 90 (f := .str "DIGITS" "0123456789") rfl)
  · exact He.str_ok X G (c.t.d.fact 91 (f := .str "LETTERS" "abcdefghijklmnopqrstuvwxyz") rfl)
  · exact He.str_ok X G (c.t.d.fact 93 (f := .str "NO_SLIDES" "-") rfl)
  · exact He.int_ok X G (c.t.d.fact 92 (f := .int "NAME_LENGTH" 12) rfl)
  · exact He.glo_ok X G (c.t.d.fact 97 (f := .glo "LIMITS") rfl)
  · exact ⟨es, n, hD⟩
  · intro k v hk
    obtain ⟨u, h1, h2⟩ := hlim k v hk
    exact ⟨es, n, u, hD.at_, hD.lit, h1, h2⟩
  · intro k v hk
    obtain ⟨u, h1, h2⟩ := hlim k v hk
    exact ⟨u, h1⟩
  · exact He.glo_ok X G (c.t.d.fact 96 (f := .glo "TooMany") rfl)
  · exact He.glo_ok X G (c.t.d.fact 94 (f := .glo "Field") rfl)
  · exact He.glo_ok X G (c.t.d.fact 95 (f := .glo "Lot") rfl)
  · exact He.cls_ok (c.t.d.fact 98 (f := .cls "Field") rfl)
  · exact He.cls_ok (c.t.d.fact 99 (f := .cls "Lot") rfl)
  · rintro f (rfl | rfl | rfl | rfl)
    · exact He.noat_ok (c.t.d.fact 102 (f := .noat "Field" "parts") rfl)
    · exact He.noat_ok (c.t.d.fact 103 (f := .noat "Field" "numbers") rfl)
    · exact He.noat_ok (c.t.d.fact 104 (f := .noat "Field" "directions") rfl)
    · exact He.noat_ok (c.t.d.fact 105 (f := .noat "Field" "lead") rfl)
  · rintro f (rfl | rfl | rfl | rfl)
    · exact He.noat_ok (c.t.d.fact 106 (f := .noat "Lot" "field") rfl)
    · exact He.noat_ok (c.t.d.fact 107 (f := .noat "Lot" "parts") rfl)
    · exact He.noat_ok (c.t.d.fact 108 (f := .noat "Lot" "stuffs") rfl)
    · exact He.noat_ok (c.t.d.fact 109 (f := .noat "Lot" "base") rfl)
theorem txe (c : He.SaysX fa fn ts tf ex w h0 K) : TxE K := by
  have hx : ex K = true := c.more
  unfold ex at hx
  simp only [Bool.and_eq_true] at hx
  obtain ⟨⟨⟨⟨⟨⟨⟨⟨⟨⟨xg, xl⟩, xc⟩, xv⟩, xo⟩, xi⟩, xx⟩, xe⟩, xV⟩, xL⟩, xR⟩ := hx
  exact ⟨He.exm_ok (c.t.d.fact 112 (f := .exm "TooMany" "TooMany" true) rfl), xfB_ok xx, ecB_ok (xfB_ok xx) xe, of_decide_eq_true xV, of_decide_eq_true xL, of_decide_eq_true xR, He.noat_ok (c.t.d.fact 110 (f := .noat "TooMany" "what") rfl), He.noat_ok (c.t.d.fact 111 (f := .noat "TooMany" "count") rfl)⟩
theorem sc_TooMany : FnScope ["self", "what", "count"] ["self", "what", "count"] (defScope s_TooMany_init) := ⟨rfl, rfl, rfl, by decide +kernel, rfl, by decide +kernel, by decide +kernel⟩
theorem all_ok {P : Program} (X : K.In base) (G : base.Ns mainGlobals mg) (c : He.SaysX fa fn ts tf ex w h0 K) (TB : LamX.TabB base mg (pT K).1 (pT K).2) {fd_law : FuncData} (F_law : FnP K "law" s_law (He.fAd K ("law", none)) fd_law) :
    FnOk P w K mg base (L2.CX P w) 16 (He.fAd K ("law", none)) fd_law ["script"] (SpD K (ttK K) (sp_law K)) := by
  have T : Txt K w mg := txt X G c
  have TE : TxE K := txe c
  have hmT : ((pT K).2, ("with_row.<locals>.<lambda>" : Str)) ∈ ttK K := List.mem_singleton_self _
  have huT : ∀ p ∈ ttK K, p.1 = (pT K).2 → p.2 = ("with_row.<locals>.<lambda>" : Str) := fun p hp _ => by
    rw [List.mem_singleton.mp hp]
  have hx : ex K = true := c.more
  unfold ex at hx
  simp only [Bool.and_eq_true] at hx
  obtain ⟨⟨⟨⟨⟨⟨⟨⟨⟨⟨xg, xl⟩, xc⟩, xv⟩, xo⟩, xi⟩, xx⟩, xe⟩, xV⟩, xL⟩, xR⟩ := hx
  obtain ⟨fd_TM, F_TM⟩ := c.t.d.def_ 74 (d := mkm "TooMany" "__init__" s_TooMany_init []) rfl
  have x_TooMany : HasX2 P w K mg base "TooMany" (He.ga K "TooMany") "what" "count" := ⟨_, _, _, T.TooMany, oexB_ok xo, (initB_ok xi).1, (initB_ok xi).2,
    exInit2 F_TM sc_TooMany (oexB_ok xo) TE.nw TE.nc rfl rfl rfl rfl rfl rfl rfl rfl rfl (fun _ => rfl) (fun _ => rfl), F_TM.bindsN fun _ _ _ _ _ _ us hl => match us, hl with | [_, _, _], _ => rfl⟩
  obtain ⟨fd_lowest, F_lowest⟩ := c.t.d.def_ 0 (d := mk "lowest" s_lowest) rfl
  have h_lowest : HasF P w K (ttK K) mg base "lowest" ["top", "bottom"] 1 sp_lowest := ⟨_, _, He.glo_ok X G (c.t.d.fact 0 (f := .glo "lowest") rfl), F_lowest.kp, F_lowest.bindsN fun _ _ _ _ _ _ us hl => match us, hl with | [_, _], _ => rfl, ok_lowest F_lowest T ⟩
  obtain ⟨fd_common_bottom, F_common_bottom⟩ := c.t.d.def_ 1 (d := mk "common_bottom" s_common_bottom) rfl
  have h_common_bottom : HasF P w K (ttK K) mg base "common_bottom" ["numbers"] 1 sp_common_bottom := ⟨_, _, He.glo_ok X G (c.t.d.fact 1 (f := .glo "common_bottom") rfl), F_common_bottom.kp, F_common_bottom.bindsN fun _ _ _ _ _ _ us hl => match us, hl with | [_], _ => rfl, ok_common_bottom F_common_bottom T ⟩
  obtain ⟨fd_check_text, F_check_text⟩ := c.t.d.def_ 3 (d := mk "check_text" s_check_text) rfl
  have h_check_text : HasF P w K (ttK K) mg base "check_text" ["text"] 4 sp_check_text := ⟨_, _, He.glo_ok X G (c.t.d.fact 3 (f := .glo "check_text") rfl), F_check_text.kp, F_check_text.bindsN fun _ _ _ _ _ _ us hl => match us, hl with | [_], _ => rfl, ok_check_text F_check_text T ⟩
  obtain ⟨fd_check_many, F_check_many⟩ := c.t.d.def_ 4 (d := mk "check_many" s_check_many) rfl
  have h_check_many : HasF P w K (ttK K) mg base "check_many" ["what", "many"] 4 sp_check_many := ⟨_, _, He.glo_ok X G (c.t.d.fact 4 (f := .glo "check_many") rfl), F_check_many.kp, F_check_many.bindsN fun _ _ _ _ _ _ us hl => match us, hl with | [_, _], _ => rfl, ok_check_many F_check_many T ⟩
  obtain ⟨fd_check_next, F_check_next⟩ := c.t.d.def_ 5 (d := mk "check_next" s_check_next) rfl
  have h_check_next : HasF P w K (ttK K) mg base "check_next" ["what", "many"] 4 sp_check_next := ⟨_, _, He.glo_ok X G (c.t.d.fact 5 (f := .glo "check_next") rfl), F_check_next.kp, F_check_next.bindsN fun _ _ _ _ _ _ us hl => match us, hl with | [_, _], _ => rfl, ok_check_next F_check_next T ⟩
  obtain ⟨fd_is_whole, F_is_whole⟩ := c.t.d.def_ 6 (d := mk "is_whole" s_is_whole) rfl
  have h_is_whole : HasF P w K (ttK K) mg base "is_whole" ["thing"] 1 sp_is_whole := ⟨_, _, He.glo_ok X G (c.t.d.fact 6 (f := .glo "is_whole") rfl), F_is_whole.kp, F_is_whole.bindsN fun _ _ _ _ _ _ us hl => match us, hl with | [_], _ => rfl, ok_is_whole F_is_whole T ⟩
  obtain ⟨fd_is_list, F_is_list⟩ := c.t.d.def_ 7 (d := mk "is_list" s_is_list) rfl
  have h_is_list : HasF P w K (ttK K) mg base "is_list" ["thing"] 1 sp_is_list := ⟨_, _, He.glo_ok X G (c.t.d.fact 7 (f := .glo "is_list") rfl), F_is_list.kp, F_is_list.bindsN fun _ _ _ _ _ _ us hl => match us, hl with | [_], _ => rfl, ok_is_list F_is_list T ⟩
  obtain ⟨fd_is_pair_number, F_is_pair_number⟩ := c.t.d.def_ 8 (d := mk "is_pair_number" s_is_pair_number) rfl
  have h_is_pair_number : HasF P w K (ttK K) mg base "is_pair_number" ["thing"] 2 sp_is_pair_number := ⟨_, _, He.glo_ok X G (c.t.d.fact 8 (f := .glo "is_pair_number") rfl), F_is_pair_number.kp, F_is_pair_number.bindsN fun _ _ _ _ _ _ us hl => match us, hl with | [_], _ => rfl, ok_is_pair_number F_is_pair_number T h_is_whole h_is_list⟩
  obtain ⟨fd_many_powers, F_many_powers⟩ := c.t.d.def_ 32 (d := mk "many_powers" s_many_powers) rfl
  have h_many_powers : HasF P w K (ttK K) mg base "many_powers" ["unknowns", "degree"] 1 sp_many_powers := ⟨_, _, He.glo_ok X G (c.t.d.fact 32 (f := .glo "many_powers") rfl), F_many_powers.kp, F_many_powers.bindsN fun _ _ _ _ _ _ us hl => match us, hl with | [_, _], _ => rfl, ok_many_powers F_many_powers T ⟩
  obtain ⟨fd_limit_of, F_limit_of⟩ := c.t.d.def_ 2 (d := mk "limit_of" s_limit_of) rfl
  have h_limit_of : HasF P w K (ttK K) mg base "limit_of" ["what"] 4 sp_limit_of := ⟨_, _, He.glo_ok X G (c.t.d.fact 2 (f := .glo "limit_of") rfl), F_limit_of.kp, F_limit_of.bindsN fun _ _ _ _ _ _ us hl => match us, hl with | [_], _ => rfl, ok_limit_of F_limit_of T ⟩
  obtain ⟨fd_hold, F_hold⟩ := c.t.d.def_ 31 (d := mk "hold" s_hold) rfl
  have h_hold : HasF P w K (ttK K) mg base "hold" ["what", "count"] 5 (sp_hold (He.ga K "TooMany")) := ⟨_, _, He.glo_ok X G (c.t.d.fact 31 (f := .glo "hold") rfl), F_hold.kp, F_hold.bindsN fun _ _ _ _ _ _ us hl => match us, hl with | [_, _], _ => rfl, ok_hold F_hold T h_limit_of x_TooMany⟩
  obtain ⟨fd_is_digits, F_is_digits⟩ := c.t.d.def_ 10 (d := mk "is_digits" s_is_digits) rfl
  have h_is_digits : HasF P w K (ttK K) mg base "is_digits" ["word"] 1 sp_is_digits := ⟨_, _, He.glo_ok X G (c.t.d.fact 10 (f := .glo "is_digits") rfl), F_is_digits.kp, F_is_digits.bindsN fun _ _ _ _ _ _ us hl => match us, hl with | [_], _ => rfl, ok_is_digits F_is_digits T ⟩
  obtain ⟨fd_number_parts, F_number_parts⟩ := c.t.d.def_ 11 (d := mk "number_parts" s_number_parts) rfl
  have h_number_parts : HasF P w K (ttK K) mg base "number_parts" ["word"] 2 sp_number_parts := ⟨_, _, He.glo_ok X G (c.t.d.fact 11 (f := .glo "number_parts") rfl), F_number_parts.kp, F_number_parts.bindsN fun _ _ _ _ _ _ us hl => match us, hl with | [_], _ => rfl, ok_number_parts F_number_parts T h_is_digits⟩
  obtain ⟨fd_word_number, F_word_number⟩ := c.t.d.def_ 12 (d := mk "word_number" s_word_number) rfl
  have h_word_number : HasF P w K (ttK K) mg base "word_number" ["word", "at"] 5 sp_word_number := ⟨_, _, He.glo_ok X G (c.t.d.fact 12 (f := .glo "word_number") rfl), F_word_number.kp, F_word_number.bindsN fun _ _ _ _ _ _ us hl => match us, hl with | [_, _], _ => rfl, ok_word_number F_word_number T h_number_parts h_check_next h_lowest⟩
  obtain ⟨fd_number_at, F_number_at⟩ := c.t.d.def_ 13 (d := mk "number_at" s_number_at) rfl
  have h_number_at : HasF P w K (ttK K) mg base "number_at" ["thing", "at"] 7 sp_number_at := ⟨_, _, He.glo_ok X G (c.t.d.fact 13 (f := .glo "number_at") rfl), F_number_at.kp, F_number_at.bindsN fun _ _ _ _ _ _ us hl => match us, hl with | [_, _], _ => rfl, ok_number_at F_number_at T h_is_whole h_is_pair_number h_check_text h_word_number h_lowest⟩
  obtain ⟨fd_row_items, F_row_items⟩ := c.t.d.def_ 14 (d := mk "row_items" s_row_items) rfl
  have h_row_items : HasF P w K (ttK K) mg base "row_items" ["thing"] 5 sp_row_items := ⟨_, _, He.glo_ok X G (c.t.d.fact 14 (f := .glo "row_items") rfl), F_row_items.kp, F_row_items.bindsN fun _ _ _ _ _ _ us hl => match us, hl with | [_], _ => rfl, ok_row_items F_row_items T h_check_text h_is_list⟩
  obtain ⟨fd_table_items, F_table_items⟩ := c.t.d.def_ 28 (d := mk "table_items" s_table_items) rfl
  have h_table_items : HasF P w K (ttK K) mg base "table_items" ["thing"] 5 sp_table_items := ⟨_, _, He.glo_ok X G (c.t.d.fact 28 (f := .glo "table_items") rfl), F_table_items.kp, F_table_items.bindsN fun _ _ _ _ _ _ us hl => match us, hl with | [_], _ => rfl, ok_table_items F_table_items T h_check_text h_is_list⟩
  obtain ⟨fd_read_row, F_read_row⟩ := c.t.d.def_ 27 (d := mk "read_row" s_read_row) rfl
  have h_read_row : HasF P w K (ttK K) mg base "read_row" ["thing"] 8 sp_read_row := ⟨_, _, He.glo_ok X G (c.t.d.fact 27 (f := .glo "read_row") rfl), F_read_row.kp, F_read_row.bindsN fun _ _ _ _ _ _ us hl => match us, hl with | [_], _ => rfl, ok_read_row F_read_row T h_number_at h_row_items⟩
  obtain ⟨fd_row_at, F_row_at⟩ := c.t.d.def_ 29 (d := mk "row_at" s_row_at) rfl
  have h_row_at : HasF P w K (ttK K) mg base "row_at" ["thing", "at"] 9 sp_row_at := ⟨_, _, He.glo_ok X G (c.t.d.fact 29 (f := .glo "row_at") rfl), F_row_at.kp, F_row_at.bindsN fun _ _ _ _ _ _ us hl => match us, hl with | [_, _], _ => rfl, ok_row_at F_row_at T h_read_row⟩
  obtain ⟨fd_read_table, F_read_table⟩ := c.t.d.def_ 30 (d := mk "read_table" s_read_table) rfl
  have h_read_table : HasF P w K (ttK K) mg base "read_table" ["thing"] 10 sp_read_table := ⟨_, _, He.glo_ok X G (c.t.d.fact 30 (f := .glo "read_table") rfl), F_read_table.kp, F_read_table.bindsN fun _ _ _ _ _ _ us hl => match us, hl with | [_], _ => rfl, ok_read_table F_read_table T h_table_items h_row_at⟩
  obtain ⟨fd_whole_rows, F_whole_rows⟩ := c.t.d.def_ 15 (d := mk "whole_rows" s_whole_rows) rfl
  have h_whole_rows : HasF P w K (ttK K) mg base "whole_rows" ["a"] 2 sp_whole_rows := ⟨_, _, He.glo_ok X G (c.t.d.fact 15 (f := .glo "whole_rows") rfl), F_whole_rows.kp, F_whole_rows.bindsN fun _ _ _ _ _ _ us hl => match us, hl with | [_], _ => rfl, ok_whole_rows F_whole_rows T h_common_bottom⟩
  obtain ⟨fd_cleared_line, F_cleared_line⟩ := c.t.d.def_ 16 (d := mk "cleared_line" s_cleared_line) rfl
  have h_cleared_line : HasF P w K (ttK K) mg base "cleared_line" ["line", "pivot_line", "at", "last"] 1 sp_cleared_line := ⟨_, _, He.glo_ok X G (c.t.d.fact 16 (f := .glo "cleared_line") rfl), F_cleared_line.kp, F_cleared_line.bindsN fun _ _ _ _ _ _ us hl => match us, hl with | [_, _, _, _], _ => rfl, ok_cleared_line F_cleared_line T ⟩
  obtain ⟨fd_mat_firm, F_mat_firm⟩ := c.t.d.def_ 17 (d := mk "mat_firm" s_mat_firm) rfl
  have h_mat_firm : HasF P w K (ttK K) mg base "mat_firm" ["a"] 3 sp_mat_firm := ⟨_, _, He.glo_ok X G (c.t.d.fact 17 (f := .glo "mat_firm") rfl), F_mat_firm.kp, F_mat_firm.bindsN fun _ _ _ _ _ _ us hl => match us, hl with | [_], _ => rfl, ok_mat_firm F_mat_firm T h_whole_rows h_cleared_line⟩
  obtain ⟨fd_whole_row, F_whole_row⟩ := c.t.d.def_ 18 (d := mk "whole_row" s_whole_row) rfl
  have h_whole_row : HasF P w K (ttK K) mg base "whole_row" ["row"] 2 sp_whole_row := ⟨_, _, He.glo_ok X G (c.t.d.fact 18 (f := .glo "whole_row") rfl), F_whole_row.kp, F_whole_row.bindsN fun _ _ _ _ _ _ us hl => match us, hl with | [_], _ => rfl, ok_whole_row F_whole_row T h_common_bottom⟩
  obtain ⟨fd_first_place, F_first_place⟩ := c.t.d.def_ 19 (d := mk "first_place" s_first_place) rfl
  have h_first_place : HasF P w K (ttK K) mg base "first_place" ["row"] 1 sp_first_place := ⟨_, _, He.glo_ok X G (c.t.d.fact 19 (f := .glo "first_place") rfl), F_first_place.kp, F_first_place.bindsN fun _ _ _ _ _ _ us hl => match us, hl with | [_], _ => rfl, ok_first_place F_first_place T ⟩
  obtain ⟨fd_shortened, F_shortened⟩ := c.t.d.def_ 20 (d := mk "shortened" s_shortened) rfl
  have h_shortened : HasF P w K (ttK K) mg base "shortened" ["row"] 2 sp_shortened := ⟨_, _, He.glo_ok X G (c.t.d.fact 20 (f := .glo "shortened") rfl), F_shortened.kp, F_shortened.bindsN fun _ _ _ _ _ _ us hl => match us, hl with | [_], _ => rfl, ok_shortened F_shortened T h_first_place⟩
  obtain ⟨fd_cleared, F_cleared⟩ := c.t.d.def_ 21 (d := mk "cleared" s_cleared) rfl
  have h_cleared : HasF P w K (ttK K) mg base "cleared" ["row", "kept"] 1 sp_cleared := ⟨_, _, He.glo_ok X G (c.t.d.fact 21 (f := .glo "cleared") rfl), F_cleared.kp, F_cleared.bindsN fun _ _ _ _ _ _ us hl => match us, hl with | [_, _], _ => rfl, ok_cleared F_cleared T ⟩
  obtain ⟨fd_with_row, F_with_row⟩ := c.t.d.def_ 22 (d := mk "with_row" s_with_row) rfl
  have h_with_row : HasF P w K (ttK K) mg base "with_row" ["kept", "row"] 3 sp_with_row := ⟨_, _, He.glo_ok X G (c.t.d.fact 22 (f := .glo "with_row") rfl), F_with_row.kp, F_with_row.bindsN fun _ _ _ _ _ _ us hl => match us, hl with | [_, _], _ => rfl, ok_with_row F_with_row T h_cleared h_shortened h_first_place (code_at F_with_row) TB hmT huT⟩
  obtain ⟨fd_added, F_added⟩ := c.t.d.def_ 23 (d := mk "added" s_added) rfl
  have h_added : HasF P w K (ttK K) mg base "added" ["kept", "row"] 4 sp_added := ⟨_, _, He.glo_ok X G (c.t.d.fact 23 (f := .glo "added") rfl), F_added.kp, F_added.bindsN fun _ _ _ _ _ _ us hl => match us, hl with | [_, _], _ => rfl, ok_added F_added T h_with_row h_whole_row⟩
  obtain ⟨fd_kept_rows, F_kept_rows⟩ := c.t.d.def_ 24 (d := mk "kept_rows" s_kept_rows) rfl
  have h_kept_rows : HasF P w K (ttK K) mg base "kept_rows" ["kept"] 2 sp_kept_rows := ⟨_, _, He.glo_ok X G (c.t.d.fact 24 (f := .glo "kept_rows") rfl), F_kept_rows.kp, F_kept_rows.bindsN fun _ _ _ _ _ _ us hl => match us, hl with | [_], _ => rfl, ok_kept_rows F_kept_rows T h_lowest⟩
  obtain ⟨fd_span_of, F_span_of⟩ := c.t.d.def_ 25 (d := mk "span_of" s_span_of) rfl
  have h_span_of : HasF P w K (ttK K) mg base "span_of" ["rows"] 5 sp_span_of := ⟨_, _, He.glo_ok X G (c.t.d.fact 25 (f := .glo "span_of") rfl), F_span_of.kp, F_span_of.bindsN fun _ _ _ _ _ _ us hl => match us, hl with | [_], _ => rfl, ok_span_of F_span_of T h_added⟩
  obtain ⟨fd_reduce_rows, F_reduce_rows⟩ := c.t.d.def_ 26 (d := mk "reduce_rows" s_reduce_rows) rfl
  have h_reduce_rows : HasF P w K (ttK K) mg base "reduce_rows" ["rows"] 6 sp_reduce_rows := ⟨_, _, He.glo_ok X G (c.t.d.fact 26 (f := .glo "reduce_rows") rfl), F_reduce_rows.kp, F_reduce_rows.bindsN fun _ _ _ _ _ _ us hl => match us, hl with | [_], _ => rfl, ok_reduce_rows F_reduce_rows T h_kept_rows h_span_of⟩
  obtain ⟨fd_powers_of, F_powers_of⟩ := c.t.d.def_ 33 (d := mk "powers_of" s_powers_of) rfl
  have h_powers_of : HasF P w K (ttK K) mg base "powers_of" ["unknowns", "degree"] 1 sp_powers_of := ⟨_, _, He.glo_ok X G (c.t.d.fact 33 (f := .glo "powers_of") rfl), F_powers_of.kp, F_powers_of.bindsN fun _ _ _ _ _ _ us hl => match us, hl with | [_, _], _ => rfl, ok_powers_of F_powers_of T ⟩
  obtain ⟨fd_ordered_powers, F_ordered_powers⟩ := c.t.d.def_ 34 (d := mk "ordered_powers" s_ordered_powers) rfl
  have h_ordered_powers : HasF P w K (ttK K) mg base "ordered_powers" ["unknowns", "degree"] 2 sp_ordered_powers := ⟨_, _, He.glo_ok X G (c.t.d.fact 34 (f := .glo "ordered_powers") rfl), F_ordered_powers.kp, F_ordered_powers.bindsN fun _ _ _ _ _ _ us hl => match us, hl with | [_, _], _ => rfl, ok_ordered_powers F_ordered_powers T h_powers_of⟩
  obtain ⟨fd_free_unknowns, F_free_unknowns⟩ := c.t.d.def_ 35 (d := mk "free_unknowns" s_free_unknowns) rfl
  have h_free_unknowns : HasF P w K (ttK K) mg base "free_unknowns" ["lot"] 1 (sp_free_unknowns K) := ⟨_, _, He.glo_ok X G (c.t.d.fact 35 (f := .glo "free_unknowns") rfl), F_free_unknowns.kp, F_free_unknowns.bindsN fun _ _ _ _ _ _ us hl => match us, hl with | [_], _ => rfl, ok_free_unknowns F_free_unknowns T ⟩
  obtain ⟨fd_hold_monomials, F_hold_monomials⟩ := c.t.d.def_ 36 (d := mk "hold_monomials" s_hold_monomials) rfl
  have h_hold_monomials : HasF P w K (ttK K) mg base "hold_monomials" ["unknowns", "degree"] 6 (sp_hold_monomials (He.ga K "TooMany")) := ⟨_, _, He.glo_ok X G (c.t.d.fact 36 (f := .glo "hold_monomials") rfl), F_hold_monomials.kp, F_hold_monomials.bindsN fun _ _ _ _ _ _ us hl => match us, hl with | [_, _], _ => rfl, ok_hold_monomials F_hold_monomials T h_hold h_many_powers⟩
  obtain ⟨fd_full_monomial, F_full_monomial⟩ := c.t.d.def_ 37 (d := mk "full_monomial" s_full_monomial) rfl
  have h_full_monomial : HasF P w K (ttK K) mg base "full_monomial" ["lot", "powers"] 1 (sp_full_monomial K) := ⟨_, _, He.glo_ok X G (c.t.d.fact 37 (f := .glo "full_monomial") rfl), F_full_monomial.kp, F_full_monomial.bindsN fun _ _ _ _ _ _ us hl => match us, hl with | [_, _], _ => rfl, ok_full_monomial F_full_monomial T ⟩
  obtain ⟨fd_monomials, F_monomials⟩ := c.t.d.def_ 38 (d := mk "monomials" s_monomials) rfl
  have h_monomials : HasF P w K (ttK K) mg base "monomials" ["lot", "degree"] 7 (sp_monomials K) := ⟨_, _, He.glo_ok X G (c.t.d.fact 38 (f := .glo "monomials") rfl), F_monomials.kp, F_monomials.bindsN fun _ _ _ _ _ _ us hl => match us, hl with | [_, _], _ => rfl, ok_monomials F_monomials T h_free_unknowns h_hold_monomials h_full_monomial h_ordered_powers⟩
  have h_monomials_degree_lot : HasK P w K (ttK K) mg base "monomials" 0 ["degree", "lot"] (fun a b => a ++ b.reverse) 7 (sp_monomials K) := ⟨_, _, _, He.glo_ok X G (c.t.d.fact 38 (f := .glo "monomials") rfl), F_monomials.kp, kwb_any (fun a b => a ++ b.reverse) F_monomials (fun _ _ _ _ _ _ us ws l1 l2 => match us, ws, l1, l2 with | [], [_, _], _, _ => rfl) (fun r s => vals_app_rev r s) (fun G vs ds zs es r s => reps_app_rev r s), ok_monomials F_monomials T h_free_unknowns h_hold_monomials h_full_monomial h_ordered_powers⟩
  obtain ⟨fd_is_name, F_is_name⟩ := c.t.d.def_ 9 (d := mk "is_name" s_is_name) rfl
  have h_is_name : HasF P w K (ttK K) mg base "is_name" ["thing"] 1 sp_is_name := ⟨_, _, He.glo_ok X G (c.t.d.fact 9 (f := .glo "is_name") rfl), F_is_name.kp, F_is_name.bindsN fun _ _ _ _ _ _ us hl => match us, hl with | [_], _ => rfl, ok_is_name F_is_name T ⟩
  obtain ⟨fd_slide_items, F_slide_items⟩ := c.t.d.def_ 39 (d := mk "slide_items" s_slide_items) rfl
  have h_slide_items : HasF P w K (ttK K) mg base "slide_items" ["thing", "line"] 6 sp_slide_items := ⟨_, _, He.glo_ok X G (c.t.d.fact 39 (f := .glo "slide_items") rfl), F_slide_items.kp, F_slide_items.bindsN fun _ _ _ _ _ _ us hl => match us, hl with | [_, _], _ => rfl, ok_slide_items F_slide_items T h_check_text h_is_list⟩
  obtain ⟨fd_slide_row, F_slide_row⟩ := c.t.d.def_ 40 (d := mk "slide_row" s_slide_row) rfl
  have h_slide_row : HasF P w K (ttK K) mg base "slide_row" ["thing", "numbers", "line"] 9 sp_slide_row := ⟨_, _, He.glo_ok X G (c.t.d.fact 40 (f := .glo "slide_row") rfl), F_slide_row.kp, F_slide_row.bindsN fun _ _ _ _ _ _ us hl => match us, hl with | [_, _, _], _ => rfl, ok_slide_row F_slide_row T h_read_row⟩
  obtain ⟨fd_read_slides, F_read_slides⟩ := c.t.d.def_ 41 (d := mk "read_slides" s_read_slides) rfl
  have h_read_slides : HasF P w K (ttK K) mg base "read_slides" ["thing", "numbers", "line"] 10 sp_read_slides := ⟨_, _, He.glo_ok X G (c.t.d.fact 41 (f := .glo "read_slides") rfl), F_read_slides.kp, F_read_slides.bindsN fun _ _ _ _ _ _ us hl => match us, hl with | [_, _, _], _ => rfl, ok_read_slides F_read_slides T h_slide_items h_reduce_rows h_check_next h_slide_row⟩
  obtain ⟨fd_next_direction, F_next_direction⟩ := c.t.d.def_ 42 (d := mk "next_direction" s_next_direction) rfl
  have h_next_direction : HasF P w K (ttK K) mg base "next_direction" ["known", "name", "slides", "numbers", "line"] 11 sp_next_direction := ⟨_, _, He.glo_ok X G (c.t.d.fact 42 (f := .glo "next_direction") rfl), F_next_direction.kp, F_next_direction.bindsN fun _ _ _ _ _ _ us hl => match us, hl with | [_, _, _, _, _], _ => rfl, ok_next_direction F_next_direction T h_read_slides h_check_next h_is_name⟩
  obtain ⟨fd_numbers_of, F_numbers_of⟩ := c.t.d.def_ 43 (d := mk "numbers_of" s_numbers_of) rfl
  have h_numbers_of : HasF P w K (ttK K) mg base "numbers_of" ["many", "line"] 5 sp_numbers_of := ⟨_, _, He.glo_ok X G (c.t.d.fact 43 (f := .glo "numbers_of") rfl), F_numbers_of.kp, F_numbers_of.bindsN fun _ _ _ _ _ _ us hl => match us, hl with | [_, _], _ => rfl, ok_numbers_of F_numbers_of T h_check_many h_is_whole⟩
  obtain ⟨fd_Field_init, F_Field_init⟩ := c.t.d.def_ 72 (d := mkm "Field" "__init__" s_Field_init [("made", .non)]) rfl
  have k_Field : HasC P w K (ttK K) mg base "Field" (He.ga K "Field") 1 ["made"] (fun a b => a ++ b) 4 (sp_Field_init K) := ⟨_, _, _, He.glo_ok X G (c.t.d.fact 94 (f := .glo "Field") rfl), He.mkr_ok (c.t.d.fact 100 (f := .mkr "Field") rfl), kwb_any (fun a b => a ++ b) F_Field_init (fun _ _ _ _ _ _ us ws l1 l2 => match us, ws, l1, l2 with | [_, _], [_], _, _ => rfl) (fun r s => r.append s) (fun G vs ds zs es r s => r.append s), ok_Field_init F_Field_init T ⟩
  obtain ⟨fd_made_field, F_made_field⟩ := c.t.d.def_ 44 (d := mk "made_field" s_made_field) rfl
  have h_made_field : HasF P w K (ttK K) mg base "made_field" ["numbers", "directions"] 7 (sp_made_field K) := ⟨_, _, He.glo_ok X G (c.t.d.fact 44 (f := .glo "made_field") rfl), F_made_field.kp, F_made_field.bindsN fun _ _ _ _ _ _ us hl => match us, hl with | [_, _], _ => rfl, ok_made_field F_made_field T h_reduce_rows k_Field⟩
  obtain ⟨fd_field_of, F_field_of⟩ := c.t.d.def_ 45 (d := mk "field_of" s_field_of) rfl
  have h_field_of : HasF P w K (ttK K) mg base "field_of" ["numbers", "directions"] 12 (sp_field_of K) := ⟨_, _, He.glo_ok X G (c.t.d.fact 45 (f := .glo "field_of") rfl), F_field_of.kp, F_field_of.bindsN fun _ _ _ _ _ _ us hl => match us, hl with | [_, _], _ => rfl, ok_field_of F_field_of T h_numbers_of h_made_field h_is_list h_next_direction⟩
  obtain ⟨fd_stuff_table, F_stuff_table⟩ := c.t.d.def_ 46 (d := mk "stuff_table" s_stuff_table) rfl
  have h_stuff_table : HasF P w K (ttK K) mg base "stuff_table" ["thing", "numbers", "line"] 11 sp_stuff_table := ⟨_, _, He.glo_ok X G (c.t.d.fact 46 (f := .glo "stuff_table") rfl), F_stuff_table.kp, F_stuff_table.bindsN fun _ _ _ _ _ _ us hl => match us, hl with | [_, _, _], _ => rfl, ok_stuff_table F_stuff_table T h_read_table⟩
  obtain ⟨fd_next_stuff, F_next_stuff⟩ := c.t.d.def_ 47 (d := mk "next_stuff" s_next_stuff) rfl
  have h_next_stuff : HasF P w K (ttK K) mg base "next_stuff" ["known", "name", "thing", "field", "line"] 12 (sp_next_stuff K) := ⟨_, _, He.glo_ok X G (c.t.d.fact 47 (f := .glo "next_stuff") rfl), F_next_stuff.kp, F_next_stuff.bindsN fun _ _ _ _ _ _ us hl => match us, hl with | [_, _, _, _, _], _ => rfl, ok_next_stuff F_next_stuff T h_stuff_table h_check_next h_is_name h_mat_firm⟩
  obtain ⟨fd_Lot_init, F_Lot_init⟩ := c.t.d.def_ 73 (d := mkm "Lot" "__init__" s_Lot_init [("made", .non)]) rfl
  have k_Lot : HasC P w K (ttK K) mg base "Lot" (He.ga K "Lot") 2 ["made"] (fun a b => a ++ b) 4 (sp_Lot_init K) := ⟨_, _, _, He.glo_ok X G (c.t.d.fact 95 (f := .glo "Lot") rfl), He.mkr_ok (c.t.d.fact 101 (f := .mkr "Lot") rfl), kwb_any (fun a b => a ++ b) F_Lot_init (fun _ _ _ _ _ _ us ws l1 l2 => match us, ws, l1, l2 with | [_, _, _], [_], _, _ => rfl) (fun r s => r.append s) (fun G vs ds zs es r s => r.append s), ok_Lot_init F_Lot_init T ⟩
  obtain ⟨fd_made_lot, F_made_lot⟩ := c.t.d.def_ 48 (d := mk "made_lot" s_made_lot) rfl
  have h_made_lot : HasF P w K (ttK K) mg base "made_lot" ["field", "stuffs"] 6 (sp_made_lot K) := ⟨_, _, He.glo_ok X G (c.t.d.fact 48 (f := .glo "made_lot") rfl), F_made_lot.kp, F_made_lot.bindsN fun _ _ _ _ _ _ us hl => match us, hl with | [_, _], _ => rfl, ok_made_lot F_made_lot T k_Lot⟩
  obtain ⟨fd_lot_of, F_lot_of⟩ := c.t.d.def_ 49 (d := mk "lot_of" s_lot_of) rfl
  have h_lot_of : HasF P w K (ttK K) mg base "lot_of" ["field", "stuffs"] 13 (sp_lot_of K) := ⟨_, _, He.glo_ok X G (c.t.d.fact 49 (f := .glo "lot_of") rfl), F_lot_of.kp, F_lot_of.bindsN fun _ _ _ _ _ _ us hl => match us, hl with | [_, _], _ => rfl, ok_lot_of F_lot_of T h_made_lot h_is_list h_next_stuff⟩
  obtain ⟨fd__law_open, F__law_open⟩ := c.t.d.def_ 50 (d := mk "_law_open" s__law_open) rfl
  have h__law_open : HasF P w K (ttK K) mg base "_law_open" ["script"] 1 sp__law_open := ⟨_, _, He.glo_ok X G (c.t.d.fact 50 (f := .glo "_law_open") rfl), F__law_open.kp, F__law_open.bindsN fun _ _ _ _ _ _ us hl => match us, hl with | [_], _ => rfl, ok__law_open F__law_open T ⟩
  obtain ⟨fd__law_draw, F__law_draw⟩ := c.t.d.def_ 51 (d := mk "_law_draw" s__law_draw) rfl
  have h__law_draw : HasF P w K (ttK K) mg base "_law_draw" ["box", "size"] 1 sp__law_draw := ⟨_, _, He.glo_ok X G (c.t.d.fact 51 (f := .glo "_law_draw") rfl), F__law_draw.kp, F__law_draw.bindsN fun _ _ _ _ _ _ us hl => match us, hl with | [_, _], _ => rfl, ok__law_draw F__law_draw T ⟩
  obtain ⟨fd__law_gcd, F__law_gcd⟩ := c.t.d.def_ 52 (d := mk "_law_gcd" s__law_gcd) rfl
  have h__law_gcd : HasF P w K (ttK K) mg base "_law_gcd" ["one", "two"] 1 sp__law_gcd := ⟨_, _, He.glo_ok X G (c.t.d.fact 52 (f := .glo "_law_gcd") rfl), F__law_gcd.kp, F__law_gcd.bindsN fun _ _ _ _ _ _ us hl => match us, hl with | [_, _], _ => rfl, ok__law_gcd F__law_gcd T ⟩
  obtain ⟨fd__law_low, F__law_low⟩ := c.t.d.def_ 53 (d := mk "_law_low" s__law_low) rfl
  have h__law_low : HasF P w K (ttK K) mg base "_law_low" ["top", "bottom"] 2 sp__law_low := ⟨_, _, He.glo_ok X G (c.t.d.fact 53 (f := .glo "_law_low") rfl), F__law_low.kp, F__law_low.bindsN fun _ _ _ _ _ _ us hl => match us, hl with | [_, _], _ => rfl, ok__law_low F__law_low T h__law_gcd⟩
  obtain ⟨fd__law_flat, F__law_flat⟩ := c.t.d.def_ 54 (d := mk "_law_flat" s__law_flat) rfl
  have h__law_flat : HasF P w K (ttK K) mg base "_law_flat" ["one"] 1 sp__law_flat := ⟨_, _, He.glo_ok X G (c.t.d.fact 54 (f := .glo "_law_flat") rfl), F__law_flat.kp, F__law_flat.bindsN fun _ _ _ _ _ _ us hl => match us, hl with | [_], _ => rfl, ok__law_flat F__law_flat T ⟩
  obtain ⟨fd__law_text, F__law_text⟩ := c.t.d.def_ 56 (d := mk "_law_text" s__law_text) rfl
  have h__law_text : HasF P w K (ttK K) mg base "_law_text" ["top", "bottom"] 3 sp__law_text := ⟨_, _, He.glo_ok X G (c.t.d.fact 56 (f := .glo "_law_text") rfl), F__law_text.kp, F__law_text.bindsN fun _ _ _ _ _ _ us hl => match us, hl with | [_, _], _ => rfl, ok__law_text F__law_text T h__law_low⟩
  obtain ⟨fd__law_big, F__law_big⟩ := c.t.d.def_ 57 (d := mk "_law_big" s__law_big) rfl
  have h__law_big : HasF P w K (ttK K) mg base "_law_big" ["numbers"] 1 sp__law_big := ⟨_, _, He.glo_ok X G (c.t.d.fact 57 (f := .glo "_law_big") rfl), F__law_big.kp, F__law_big.bindsN fun _ _ _ _ _ _ us hl => match us, hl with | [_], _ => rfl, ok__law_big F__law_big T ⟩
  obtain ⟨fd__law_is_int, F__law_is_int⟩ := c.t.d.def_ 63 (d := mk "_law_is_int" s__law_is_int) rfl
  have h__law_is_int : HasF P w K (ttK K) mg base "_law_is_int" ["thing"] 1 sp__law_is_int := ⟨_, _, He.glo_ok X G (c.t.d.fact 63 (f := .glo "_law_is_int") rfl), F__law_is_int.kp, F__law_is_int.bindsN fun _ _ _ _ _ _ us hl => match us, hl with | [_], _ => rfl, ok__law_is_int F__law_is_int T ⟩
  obtain ⟨fd__law_many, F__law_many⟩ := c.t.d.def_ 64 (d := mk "_law_many" s__law_many) rfl
  have h__law_many : HasF P w K (ttK K) mg base "_law_many" ["n", "size"] 1 sp__law_many := ⟨_, _, He.glo_ok X G (c.t.d.fact 64 (f := .glo "_law_many") rfl), F__law_many.kp, F__law_many.bindsN fun _ _ _ _ _ _ us hl => match us, hl with | [_, _], _ => rfl, ok__law_many F__law_many T ⟩
  obtain ⟨fd__law_unknowns, F__law_unknowns⟩ := c.t.d.def_ 65 (d := mk "_law_unknowns" s__law_unknowns) rfl
  have h__law_unknowns : HasF P w K (ttK K) mg base "_law_unknowns" ["world"] 1 sp__law_unknowns := ⟨_, _, He.glo_ok X G (c.t.d.fact 65 (f := .glo "_law_unknowns") rfl), F__law_unknowns.kp, F__law_unknowns.bindsN fun _ _ _ _ _ _ us hl => match us, hl with | [_], _ => rfl, ok__law_unknowns F__law_unknowns T ⟩
  obtain ⟨fd__law_keys, F__law_keys⟩ := c.t.d.def_ 66 (d := mk "_law_keys" s__law_keys) rfl
  have h__law_keys : HasF P w K (ttK K) mg base "_law_keys" ["world", "size"] 2 sp__law_keys := ⟨_, _, He.glo_ok X G (c.t.d.fact 66 (f := .glo "_law_keys") rfl), F__law_keys.kp, F__law_keys.bindsN fun _ _ _ _ _ _ us hl => match us, hl with | [_, _], _ => rfl, ok__law_keys F__law_keys T h__law_unknowns⟩
  obtain ⟨fd__law_powers, F__law_powers⟩ := c.t.d.def_ 67 (d := mk "_law_powers" s__law_powers) rfl
  have h__law_powers : HasF P w K (ttK K) mg base "_law_powers" ["world", "key"] 1 sp__law_powers := ⟨_, _, He.glo_ok X G (c.t.d.fact 67 (f := .glo "_law_powers") rfl), F__law_powers.kp, F__law_powers.bindsN fun _ _ _ _ _ _ us hl => match us, hl with | [_, _], _ => rfl, ok__law_powers F__law_powers T ⟩
  obtain ⟨fd__law_given_row, F__law_given_row⟩ := c.t.d.def_ 58 (d := mk "_law_given_row" s__law_given_row) rfl
  have h__law_given_row : HasF P w K (ttK K) mg base "_law_given_row" ["box", "line", "den"] 4 sp__law_given_row := ⟨_, _, He.glo_ok X G (c.t.d.fact 58 (f := .glo "_law_given_row") rfl), F__law_given_row.kp, F__law_given_row.bindsN fun _ _ _ _ _ _ us hl => match us, hl with | [_, _, _], _ => rfl, ok__law_given_row F__law_given_row T h__law_draw h__law_big h__law_low h__law_text⟩
  obtain ⟨fd__law_given_table, F__law_given_table⟩ := c.t.d.def_ 59 (d := mk "_law_given_table" s__law_given_table) rfl
  have h__law_given_table : HasF P w K (ttK K) mg base "_law_given_table" ["box", "table"] 5 sp__law_given_table := ⟨_, _, He.glo_ok X G (c.t.d.fact 59 (f := .glo "_law_given_table") rfl), F__law_given_table.kp, F__law_given_table.bindsN fun _ _ _ _ _ _ us hl => match us, hl with | [_, _], _ => rfl, ok__law_given_table F__law_given_table T h__law_given_row h__law_draw h__law_big h__law_flat h__law_text⟩
  obtain ⟨fd__law_names, F__law_names⟩ := c.t.d.def_ 55 (d := mk "_law_names" s__law_names) rfl
  have h__law_names : HasF P w K (ttK K) mg base "_law_names" ["box", "many"] 2 sp__law_names := ⟨_, _, He.glo_ok X G (c.t.d.fact 55 (f := .glo "_law_names") rfl), F__law_names.kp, F__law_names.bindsN fun _ _ _ _ _ _ us hl => match us, hl with | [_, _], _ => rfl, ok__law_names F__law_names T h__law_draw⟩
  obtain ⟨fd__law_plain_world, F__law_plain_world⟩ := c.t.d.def_ 68 (d := mk "_law_plain_world" s__law_plain_world) rfl
  have h__law_plain_world : HasF P w K (ttK K) mg base "_law_plain_world" ["box"] 3 sp__law_plain_world := ⟨_, _, He.glo_ok X G (c.t.d.fact 68 (f := .glo "_law_plain_world") rfl), F__law_plain_world.kp, F__law_plain_world.bindsN fun _ _ _ _ _ _ us hl => match us, hl with | [_], _ => rfl, ok__law_plain_world F__law_plain_world T h__law_names h__law_draw⟩
  obtain ⟨fd__law_made_field, F__law_made_field⟩ := c.t.d.def_ 60 (d := mk "_law_made_field" s__law_made_field) rfl
  have h__law_made_field : HasF P w K (ttK K) mg base "_law_made_field" ["world"] 13 (sp__law_made_field K) := ⟨_, _, He.glo_ok X G (c.t.d.fact 60 (f := .glo "_law_made_field") rfl), F__law_made_field.kp, F__law_made_field.bindsN fun _ _ _ _ _ _ us hl => match us, hl with | [_], _ => rfl, ok__law_made_field F__law_made_field T h_field_of⟩
  obtain ⟨fd__law_made_lot, F__law_made_lot⟩ := c.t.d.def_ 61 (d := mk "_law_made_lot" s__law_made_lot) rfl
  have h__law_made_lot : HasF P w K (ttK K) mg base "_law_made_lot" ["box", "world", "made"] 14 (sp__law_made_lot K) := ⟨_, _, He.glo_ok X G (c.t.d.fact 61 (f := .glo "_law_made_lot") rfl), F__law_made_lot.kp, F__law_made_lot.bindsN fun _ _ _ _ _ _ us hl => match us, hl with | [_, _, _], _ => rfl, ok__law_made_lot F__law_made_lot T h_lot_of h__law_given_table⟩
  obtain ⟨fd__law_made, F__law_made⟩ := c.t.d.def_ 62 (d := mk "_law_made" s__law_made) rfl
  have h__law_made : HasF P w K (ttK K) mg base "_law_made" ["box", "world"] 15 (sp__law_made K) := ⟨_, _, He.glo_ok X G (c.t.d.fact 62 (f := .glo "_law_made") rfl), F__law_made.kp, F__law_made.bindsN fun _ _ _ _ _ _ us hl => match us, hl with | [_, _], _ => rfl, ok__law_made F__law_made T h__law_made_lot h__law_made_field⟩
  obtain ⟨fd__law_asked, F__law_asked⟩ := c.t.d.def_ 69 (d := mk "_law_asked" s__law_asked) rfl
  have h__law_asked : HasF P w K (ttK K) mg base "_law_asked" ["made", "size", "by_name"] 8 (sp__law_asked K) := ⟨_, _, He.glo_ok X G (c.t.d.fact 69 (f := .glo "_law_asked") rfl), F__law_asked.kp, F__law_asked.bindsN fun _ _ _ _ _ _ us hl => match us, hl with | [_, _, _], _ => rfl, ok__law_asked F__law_asked T h_monomials h_monomials_degree_lot TE⟩
  obtain ⟨fd__law_right, F__law_right⟩ := c.t.d.def_ 70 (d := mk "_law_right" s__law_right) rfl
  have h__law_right : HasF P w K (ttK K) mg base "_law_right" ["world", "told", "size"] 3 (sp__law_right K) := ⟨_, _, He.glo_ok X G (c.t.d.fact 70 (f := .glo "_law_right") rfl), F__law_right.kp, F__law_right.bindsN fun _ _ _ _ _ _ us hl => match us, hl with | [_, _, _], _ => rfl, ok__law_right F__law_right T h__law_many h__law_powers h__law_unknowns h__law_is_int h__law_keys⟩
  exact ok_law F_law T h__law_open h__law_draw h__law_plain_world h__law_made h__law_asked h__law_right h_limit_of TE
theorem law_fd (c : He.SaysX fa fn ts tf ex w h0 K) : ∃ fd, FnP K "law" s_law (He.fAd K ("law", none)) fd := c.t.d.def_ 71 (d := mk "law" s_law) rfl
theorem law_glo (X : K.In base) (G : base.Ns mainGlobals mg) (c : He.SaysX fa fn ts tf ex w h0 K) : mg "law" = some (.ref (He.fAd K ("law", none))) := He.glo_ok X G (c.t.d.fact 71 (f := .glo "law") rfl)
theorem law_binds {fd : FuncData} (F : FnP K "law" s_law (He.fAd K ("law", none)) fd) (s : Shared) (v : Value) : BindsTo s fd ⟨[v], []⟩ [("script", v)] := (FunD.bindsA (ps := ["script"]) F fun _ _ _ _ _ _ us hl => match us, hl with | [_], _ => rfl) s [v] rfl
end
end K60
set_option Elab.async false
set_option linter.all false
set_option maxRecDepth 100000
set_option maxHeartbeats 8000000
namespace K60
open PySem PySem.Spec PyProof.Rows L2 Evl DW
theorem mns_tab {K : PySem.W.Frag} {H : Hp} {a p : Addr} {vs : List V} {q : Str} (hp : H p = some (.tbl #[])) (h : SqL K H a vs) : SqL K (mns H (setC (fun _ => none) p (.tab q))) a vs := by
  rcases h with h | h
  · refine .inl ?_
    have key : ∀ o, H a = some o → (∀ ps, o ≠ .tbl ps) → mns H (setC (fun _ => none) p (.tab q)) a = some o := fun o e n => by
      have : a ≠ p := fun z => by
        rw [z, hp] at e
        cases e
        exact n _ rfl
      exact mns_none (by rw [setC_ne this]) e n
    rcases h with h | ⟨o, h⟩
    · exact .inl (key _ h fun _ z => nomatch z)
    · exact .inr ⟨o, key _ h fun _ z => nomatch z⟩
  · exact .inr h
theorem law_sp {K : PySem.W.Frag} {H : Hp} {a : Addr} {ns : List Int} (hl : ns.length ≤ 63) (hp : H (pT K).2 = some (.tbl #[])) (hS : SqL K H a (ns.map V.int)) : SpD K (ttK K) (sp_law K) [.ref a] H (fun v _ => v = .bl true) fun _ _ _ => False := by
  refine ⟨[.rol (ns.map D.int)], setC (fun _ => none) (pT K).2 (.tab "with_row.<locals>.<lambda>"), fun d _ => d = .bl true, fun _ _ _ => False, ⟨fun b cb e => ?_, fun p hp2 => ?_, fun b q e => ?_⟩, .cons (.rol (mns_tab hp hS) reps_of_ints) .nil, ⟨ns, rfl, hl, fun _ => rfl⟩, fun v H' d C' _ _ r e => ?_, fun _ _ _ _ _ _ _ _ _ _ _ z => z⟩
  · by_cases hb : b = (pT K).2
    · rw [hb, setC_same] at e
      cases e
      rw [hb]
      exact .tab ⟨#[], hp, by first | exact trivial | decide | (intro _ _; contradiction) | simp [PySem.TriplesOk], fun pos cv h => by cases h⟩
    · rw [setC_ne hb] at e
      cases e
  · rw [List.mem_singleton.mp hp2]
    exact setC_same
  · by_cases hb : b = (pT K).2
    · rw [hb, setC_same] at e
      cases e
      rw [hb]
      exact List.mem_singleton_self _
    · rw [setC_ne hb] at e
      cases e
  · subst e
    exact rep_bl r
end K60
open PySem PySem.W PySem.Calls PyProof.Rows
theorem PySem.Challenge.cw_howevermixed_k60_monomials_told_holds : PySem.Challenge.rw_howevermixed_k60_monomials_told.Holds := by
  w_on; o_law
  refine HandSHeadRun.head_imp (r := OpenLaw.row PySem.Challenge.rw_howevermixed_k60_monomials_told) (H := K60.hk) (ob := K60.ob) (M := 6000) (loose := K60.loose) (d := HandSHeadRun.topDef (OpenLaw.row PySem.Challenge.rw_howevermixed_k60_monomials_told).prog 115) (kwd := []) K60.ob_eq K60.run
    (by kernel_rfl) (by kernel_rfl) (by kernel_rfl) (by rfl) (by first | assumption | decide +kernel) (by decide +kernel) ⟨rfl, rfl, rfl, rfl, rfl, by decide +kernel⟩ ?hw ?hc
  case hw => w_witness2
  case hc =>
    refine LamX.walk_ofTsE (l := PySem.Challenge.rw_howevermixed_k60_monomials_told) (n := 63) (k := 16) (x := "script") (CX := fun w => L2.CX (PySem.Challenge.rw_howevermixed_k60_monomials_told).prog w) rfl (by decide) (by kernel_rfl) ⟨rfl, by decide, by decide⟩ ?F (fun w H s e s' z => by obtain ⟨_, _, _, _, _, _, _, _, _, _, _, _, h⟩ := z; exact h)
    intro w mg fa h Y G hmg0
    obtain ⟨K, KX, c⟩ := Y
    have hmg : mg ("law" : PySem.Str) = some (.ref fa) := by
      have e : (HandSHeadRun.topDef (OpenLaw.row PySem.Challenge.rw_howevermixed_k60_monomials_told).prog 115).name = ("law" : PySem.Str) := by kernel_rfl
      rw [← e]
      exact hmg0
    obtain ⟨fd, F⟩ := K60.law_fd c
    have e2 := hmg.symm.trans (K60.law_glo KX G c)
    cases e2
    have hm := List.mem_singleton_self (("with_row", none) : He.Defn)
    refine ⟨K, KX, fd, [K60.pT K], DW.SpD K (K60.ttK K) (K60.sp_law K), fun p hp => ?_, fun p hp => ?_, fun p hp => ?_, K60.law_binds F, fun H a ns hl _ ht hS => K60.law_sp hl (ht _ (List.mem_singleton_self _)) hS, fun base Xb Gb ht => K60.all_ok Xb Gb c (ht _ (List.mem_singleton_self _)) F⟩
    · rw [List.mem_singleton.mp hp]
      exact c.empty _ hm
    · rw [List.mem_singleton.mp hp]
      exact c.out _ hm
    · rw [List.mem_singleton.mp hp]
      exact PySem.W.codeHd_of_K KX (c.hd _ hm)
